import PyProof.Rows.All
import Wide.All
import OpenK.AllK
import Wide.FinOn
import Lean
import PySem.Challenge.RW_nz0038_01
open PySem PySem.W PyProof.Rows
set_option Elab.async false
set_option hygiene false
set_option genSizeOf false
set_option genInjectivity false
set_option compiler.extract_closed false
namespace Mine
set_option maxRecDepth 100000
set_option maxHeartbeats 8000000
section
local macro_rules | `(tactic| o_head $_) => `(tactic| assumption)
set_option maxRecDepth 100000 in
set_option maxHeartbeats 8000000 in
/-- nothing but the written part: the constant k0.heap_1 -/
theorem k0 (h : PySem.Challenge.rw_nz0038_01.row.Holds) : PySem.Challenge.rw_nz0038_01.row.Holds := by
  w_on; k_head; w_top off
end
/-! Words in which the rows of the walk (the local lines below) are written: each gives a term (Tm) or a tactic (Tc) by one quotation. A row that is all one quotation compiles to some 35 KB, in these words to some 15. -/
/-- a row writes a term -/
abbrev Tm := Lean.MacroM (Lean.TSyntax `term)
/-- a row writes a tactic -/
abbrev Tc := Lean.MacroM (Lean.TSyntax `tactic)
/-- f with its arguments -/
def ap (f : Lean.Name) (as : List Tm) : Tm := do
  let as := (← as.mapM id).toArray
  if as.isEmpty then return Lean.mkIdent f else `(($(Lean.mkIdent f) $as*))
/-- t; u; .. -/
def tSeq (ts : List Tc) : Tc := do
  let ts := (← ts.mapM id).toArray
  `(tactic| ($[$ts:tactic];*))
/-- first | t | u .. -/
def tFirst (ts : List Tc) : Tc := do
  let ts ← ts.mapM id
  let ts ← ts.toArray.mapM fun t => `(Lean.Parser.Tactic.tacticSeq| $t:tactic)
  `(tactic| first $[| $ts]*)
/-- (by t) -/
def bY (t : Tc) : Tm := do `((by $(← t):tactic))
/-- exact, refine, refine' -/
def tEx (t : Tm) : Tc := do `(tactic| exact $(← t))
def tRf (t : Tm) : Tc := do `(tactic| refine $(← t))
def tRfq (t : Tm) : Tc := do `(tactic| refine' $(← t))
/-- k_dflt t -/
def tDflt (t : Tc) : Tc := do `(tactic| k_dflt $(← t):tactic)
/-- k_dflt (refine' f ..) -/
def tRef (f : Lean.Name) (as : List Tm) : Tc := tDflt (tRfq (ap f as))
/-- the step by f: k_dflt (refine' f ..; k_whole) -/
def tTo (f : Lean.Name) (as : List Tm) : Tc := tDflt (tSeq [tRfq (ap f as), `(tactic| k_whole)])
def tW (t : Tc) : Tc := do `(tactic| with_reducible $(← t):tactic)
def tTry (t : Tc) : Tc := do `(tactic| try $(← t):tactic)
/-- the goal is a call of the def at n -/
def tAt (n : Nat) : Tc := `(tactic| with_reducible refine atc $(Lean.quote n) ?_)
/-- the goal is a walk of t -/
def tSh (t : Tm) : Tc := do `(tactic| with_reducible show wpAny _ _ $(← t) _ _ _)
/-- exact, by one of the names: as first sparingly, then bs -/
def tAny (as bs : List Lean.Name) : Tc := tFirst (as.map (fun a => tW (tEx (ap a []))) ++ bs.map (fun a => tEx (ap a [])))
/-- have x := t -/
def tHave (x : Lean.Name) (t : Tm) : Tc := do `(tactic| have $(Lean.mkIdent x):ident := $(← t))
/-- rename t => x -/
def tName (x : Lean.Name) (t : Tm) : Tc := do `(tactic| rename $(← t) => $(Lean.mkIdent x):ident)
def tIntro (xs : List Lean.Name) : Tc := do
  let xs := (xs.map Lean.mkIdent).toArray
  `(tactic| intro $xs:ident*)
def tClear (xs : List Lean.Name) : Tc := do
  let xs := (xs.map Lean.mkIdent).toArray
  `(tactic| clear $xs:ident*)
/-- the terms and tactics that come often -/
def b_ : Tm := `(_)
def bH : Tm := `(?_)
def tIntros : Tc := `(tactic| intros)
def tInv : Tc := `(tactic| kwd_inv)
def tStep : Tc := `(tactic| ktf_step)
def tSweep : Tc := `(tactic| try k_sweep)
def tStop : Tc := `(tactic| with_reducible refine Stop.intro ?_)
def tWhole : Tc := `(tactic| k_whole)
def tOff : Tc := `(tactic| try k_lt l₉)
/-- the goal is a call of the def at n -/
def tAtN : Tc := `(tactic| try dsimp only at N₉)
def tA : Tc := `(tactic| assumption)
def tOm : Tc := `(tactic| omega)
def tD : Tc := `(tactic| decide)
def tWA : Tc := `(tactic| with_reducible assumption)
def tIs : Tc := `(tactic| k_is)
def tHere : Tc := `(tactic| k_here)
def tDs : Tc := `(tactic| try dsimp only)
def tS : Tc := `(tactic| rename Heap.StaysIn _ _ => kS₉)
def tE : Tc := `(tactic| rename Heap.get? _ _ = none => kE₉)
def tF : Tc := `(tactic| with_reducible rename Fr _ _ _ _ => kF₉)
def tNw : Tc := `(tactic| with_reducible rename News _ _ _ _ => kN₉)
def bK : Tm := bY (`(tactic| k_asm))
def bA : Tm := bY (tA)
def bM : Tm := bY (`(tactic| k_mem))
def bR : Tm := bY (tEx (ap `rfl []))
def bRoom : Tm := bY (`(tactic| ktr_room))
def bW : Tm := bY (tWA)
def bRel : Tm := bY (`(tactic| ktr_rel))
def bCx : Tm := bY (`(tactic| kwd_rel))
def bL : Tm := bY (`(tactic| is_list))
def bI : Tm := bY (tIs)
def bRfl : Tm := bY (`(tactic| rfl))
def bD : Tm := bY (tD)
def bO : Tm := bY (`(tactic| lcg_off))
def bU : Tm := bY (`(tactic| ktr_units))
def bT : Tm := bY (`(tactic| ktd_rel))
def bOm : Tm := bY (tOm)
def bF : Tm := bY (`(tactic| k_updF))
def bLt : Tm := bY (`(tactic| ktn_lt))
def bDAO : Tm := bY (tFirst [tD, tA, tOm])
def bWO : Tm := bY (tFirst [tWA, tOm])
def bFr : Tm := ap `Fr.keep [bK]
def bAt2 : Tm := ap `at_of2 [bK, bK, bM, bM]
def bAt1 : Tm := ap `at_of1 [bK, bK, bM]
def bNew : Tm := ap `News.get [bK, bM]
def bLn : Tm := ap `list_news [bK, bM]
def bX : Tm := ap `Frag.In.keeps [bK, bFr]
def bTup : Tm := ap `News.isTup [bK, bM]
def bBase : Tm := ap `Cx.base [bCx]
def bWRA : Tm := bY (tFirst [tWA, tEx (ap `rfl []), tA])
def bBinds : Tm := bY (tFirst [tEx (ap `BindsTo.of_eq [(ap `rfl [])]), tEx (ap `binds_K [(bY (`(tactic| k_in))), (ap `rfl []), bI, (ap `rfl []), (ap `rfl []), (ap `rfl [])])])
def bCons : Tm := bY (tFirst [tEx `(.nil), tEx `(.cons _ _ .nil), tEx `(.cons _ _ (.cons _ _ .nil))])
/-- a row of the walk: k_here, then the tactics -/
def row (ts : List Tc) : Tc := tSeq (tHere :: ts)
/-- the walk stops here -/
def stop : Tc := row [tStop]
/-- the walk stops at a call of the def at n -/
def stopAt (n : Nat) : Tc := row [tAt n, tStop]

theorem atc (n : Addr) {M : Model} {A : Around} {as : List Value} {ks : List (Str × Value)} {Q E : Value → Shared → Prop} {s : Shared} (h : wpAny M A (call (.ref n) as ks) Q E s) : wpAny M A (call (.ref n) as ks) Q E s := h
/-- the things that stand: the text's own, and the names -/
structure Base (w : World) (p : Program) (loose : List Str) (mean : ExcName → Option Value) (mg mb : Str → Option Value) (h : Heap) : Prop where
  X : (k0.heap_1 w.params).In h
  T : Top p loose mean mg mb h

/-- mu: what stands at h beside the base -/
noncomputable def At (h₀ h : Heap) (mu : List (Addr × Obj)) : Prop :=
  h₀.StaysIn h ∧ ∀ q ∈ mu, h.get? q.1 = some q.2 ∧ h₀.get? q.1 = none

/-- all that is not of the list stays -/
noncomputable def KeepsBut (as : List Addr) (h h' : Heap) : Prop := ∀ b o, h.get? b = some o → b ∉ as → h'.get? b = some o

section
variable {prog : Program} {w : World} {p : Program} {loose : List Str} {mean : ExcName → Option Value} {mg mb : Str → Option Value}

theorem Base.keeps {h h' : Heap} (B : Base w p loose mean mg mb h) (k : h.StaysIn h') : Base w p loose mean mg mb h' :=
  ⟨Frag.In.keeps B.X k, Top.keeps B.T k⟩

/-- entering a def that writes upon mu -/
theorem enter {A : Around} {R : Result → Shared → Prop} {s : Shared} {h₀ : Heap} {mu : List (Addr × Obj)}
    {name qual : Str} {params : Arguments} {body : List Stmt} {scope : Scope} {dV kV doc pm cdv ct oc : Value} {an od : Option Addr} {osl : Array (Option Value)} {f : Addr} {args : Args} {binds : List (Str × Value)}
    (B : Base w p loose mean mg mb h₀) (N : At h₀ s.heap mu)
    (ho : (k0.heap_1 w.params).lookup f = some ⟨oc, od, .func (fnOf name qual params body scope dV kV doc pm an cdv ct), osl⟩) (hcd : codeIn (k0.heap_1 w.params) cdv qual = true) (hroom : A.depth < recursionLimit)
    (hbind : BindsTo s (fnOf name qual params body scope dV kV doc pm an cdv ct) args binds) (hloc : ∀ y ∈ binds, scope.names.lookup y.1 = some .local)
    (h : ∀ g L' h₁, ∀ m, (∀ y v, binds.reverse.lookup y = some v → m y = some v) → Fr g L' h₁ m → News g L' h₁ mu → (k0.heap_1 w.params).In g → Top p loose mean mg mb g → h₀.StaysIn g → (∀ q ∈ mu, q.1 < L') → KeepsBut (mu.map (·.1)) s.heap g →
      wpAny (model prog w) (A.deeper (envOf qual scope L' f cdv)) (execs body (envOf qual scope L' f cdv))
        (fun fl s' => R (.ok (.ret (match fl with | .ret v => v | _ => .none))) s')
        (fun e s' => wpAny (model prog w) (A.deeper (envOf qual scope L' f cdv)) (leaving (envOf qual scope L' f cdv) e) (fun _ s'' => R (.error e) s'') (fun e' s'' => R (.error e') s'') s')
        { s with heap := h₁, toks := s.toks + binds.length })
    (hco : scope.isCoroutine = false) (hgen : scope.isGenerator = false) (hk : scope.kind = .function)
    (hcell : ∀ x ∈ scope.names, x.2 ≠ .cell) : codeAny (model prog w) A (.call (.ref f) args) R s := by
  have nm : ∀ b o, h₀.get? b = some o → b ∉ mu.map (·.1) := fun b o e q => by
    obtain ⟨p, hp, rfl⟩ := List.mem_map.mp q
    rw [(N.2 p hp).2] at e; cases e
  have st : h₀.StaysIn (hideAll s.heap (mu.map (·.1))) := fun b o e => hideAll_get _ (N.1 b o e) (nm b o e)
  have st' : ∀ b o, h₀.get? b = some o → (hideAll s.heap (mu.map (·.1))).get? b = some o := st
  refine codeAny_call_def (fd := fnOf name qual params body scope dV kV doc pm an cdv ct) (body := body) (binds := binds) hroom (N.1 _ _ (B.X _ _ ho)) rfl (B.T.nolimit.keeps N.1) (codeRec_of (Frag.In.keeps B.X N.1) hcd) rfl hbind hcell hloc (fun h₁ hns hk₁ => ?_) hco hgen hk
  exact h (hideAll s.heap (mu.map (·.1))) s.heap.objs.size h₁ _ (fun _ _ e => e) ⟨hns, fun b o e => hk₁ b o (of_hideAll _ e), Nat.le_of_eq (hideAll_size _ _)⟩
    (fun q hq => ⟨hk₁ _ _ (N.2 q hq).1, Nat.ne_of_lt (Heap.lt_size (N.2 q hq).1), hideAll_none _ (List.mem_map_of_mem hq)⟩) (Frag.In.keeps B.X st') (Top.keeps B.T st') st
    (fun q hq => Heap.lt_size (N.2 q hq).1) (fun b o e hb => hideAll_get _ e hb)

/-- entering a def that writes upon nothing -/
theorem enter0 {A : Around} {R : Result → Shared → Prop} {s : Shared}
    {name qual : Str} {params : Arguments} {body : List Stmt} {scope : Scope} {dV kV doc pm cdv ct oc : Value} {an od : Option Addr} {osl : Array (Option Value)} {f : Addr} {args : Args} {binds : List (Str × Value)}
    (B : Base w p loose mean mg mb s.heap)
    (ho : (k0.heap_1 w.params).lookup f = some ⟨oc, od, .func (fnOf name qual params body scope dV kV doc pm an cdv ct), osl⟩) (hcd : codeIn (k0.heap_1 w.params) cdv qual = true) (hroom : A.depth < recursionLimit)
    (hbind : BindsTo s (fnOf name qual params body scope dV kV doc pm an cdv ct) args binds) (hloc : ∀ y ∈ binds, scope.names.lookup y.1 = some .local)
    (h : ∀ L' h₁, ∀ m, (∀ y v, binds.reverse.lookup y = some v → m y = some v) → Fr s.heap L' h₁ m → News s.heap L' h₁ [] →
      wpAny (model prog w) (A.deeper (envOf qual scope L' f cdv)) (execs body (envOf qual scope L' f cdv))
        (fun fl s' => R (.ok (.ret (match fl with | .ret v => v | _ => .none))) s')
        (fun e s' => wpAny (model prog w) (A.deeper (envOf qual scope L' f cdv)) (leaving (envOf qual scope L' f cdv) e) (fun _ s'' => R (.error e) s'') (fun e' s'' => R (.error e') s'') s')
        { s with heap := h₁, toks := s.toks + binds.length })
    (hco : scope.isCoroutine = false) (hgen : scope.isGenerator = false) (hk : scope.kind = .function)
    (hcell : ∀ x ∈ scope.names, x.2 ≠ .cell) : codeAny (model prog w) A (.call (.ref f) args) R s := by
  refine codeAny_call_def (fd := fnOf name qual params body scope dV kV doc pm an cdv ct) (body := body) (binds := binds) hroom (B.X _ _ ho) rfl B.T.nolimit (codeRec_of B.X hcd) rfl hbind hcell hloc (fun h₁ hns hk₁ => ?_) hco hgen hk
  exact h s.heap.objs.size h₁ _ (fun _ _ e => e) ⟨hns, hk₁, Nat.le_refl _⟩ News.nil
end

local macro_rules | `(tactic| ktr_enter) => tRef `enter [bA, bA, bI, bI, bRoom, bBinds, (bY (tEx (ap `locs [(ap `rfl [])]))), bH, bR, bR, bR, bD]
local macro_rules | `(tactic| kc_enter) => tRef `enter0 [bA, bI, bI, bRoom, bBinds, (bY (tEx (ap `locs [(ap `rfl [])]))), bH, bR, bR, bR, bD]
local macro_rules | `(tactic| ktn_lt) => tFirst [tEx (ap `rfl []), tA, tEx (ap `hm0 [b_, b_, (ap `rfl [])]), tSeq [tRf `((if_neg (by decide)).trans ?_), `(tactic| ktn_lt)]]
local macro_rules | `(tactic| walk_at "eval Name") => row [tTo `nameX_L [bK, bLt, bH, bRfl, bRfl]]
local macro_rules | `(tactic| walk_at "loadName") => row [tTo `ldn [bK, bLt, bH, bRfl, bRfl]]

/-- the surroundings of a contract -/
noncomputable abbrev ar (dp un : Nat) (fr : Option (List Env)) (gd : Option (List Code)) : Around := { handled := none, depth := dp, frames := fr, guards := gd, units := un }

theorem instAt_get {h : Heap} {x C dx : Addr} {od : Obj} {sl : Array (Option Value)} (h1 : h.get? x = some (⟨.ref C, some dx, .plain, sl⟩ : Obj)) (h2 : h.get? dx = some od) :
    InstAt h x ⟨.ref C, some dx, .plain, sl⟩ C (some od) := ⟨h1, rfl, rfl, h2⟩
theorem list_get {h : Heap} {a : Addr} {its : Array Value} {n : Nat} (h1 : h.get? a = some (listOf its n)) : h.IsList a its := ⟨_, h1, rfl, n, rfl⟩
theorem list_keep {h₀ h : Heap} {L a : Addr} {m : Str → Option Value} {its : Array Value} (F : Fr h₀ L h m) (h1 : h₀.IsList a its) : h.IsList a its := stays_list F.keep h1
theorem tup_keep {h₀ h : Heap} {L a : Addr} {m : Str → Option Value} {its : Array Value} (F : Fr h₀ L h m) (h1 : IsTup h₀ a its) : IsTup h a its := stays_tup F.keep h1
theorem list_news {h₀ h : Heap} {L a : Addr} {news : List (Addr × Obj)} {its : Array Value} {n : Nat} (N : News h₀ L h news) (h1 : (a, listOf its n) ∈ news) : h.IsList a its := list_get (N _ h1).1

/-- the state's pairs -/
noncomputable abbrev stKvs (aRow : Addr) (p : Int) (tp : Tok) (last : Value) (aM aSS : Addr) : List (Str × Value) :=
  [("row", .ref aRow), ("at", .int p tp), ("last", last), ("marks", .ref aM), ("scopes", .ref aSS)]
section
variable {aRow aM aSS : Addr} {p q : Int} {tp tq : Tok} {last v : Value}
theorem st_row : valueAt (stKvs aRow p tp last aM aSS) (Str.ofString "row") = some (.ref aRow) := by kernel_rfl
theorem st_at : valueAt (stKvs aRow p tp last aM aSS) (Str.ofString "at") = some (.int p tp) := by kernel_rfl
theorem st_last : valueAt (stKvs aRow p tp last aM aSS) (Str.ofString "last") = some last := by kernel_rfl
theorem st_marks : valueAt (stKvs aRow p tp last aM aSS) (Str.ofString "marks") = some (.ref aM) := by kernel_rfl
theorem st_scopes : valueAt (stKvs aRow p tp last aM aSS) (Str.ofString "scopes") = some (.ref aSS) := by kernel_rfl
theorem st_put_at : stored (stKvs aRow p tp last aM aSS) (Str.ofString "at") (.int q tq) = stKvs aRow q tq last aM aSS := by kernel_rfl
theorem st_put_last : stored (stKvs aRow p tp last aM aSS) (Str.ofString "last") v = stKvs aRow p tp v aM aSS := by kernel_rfl
theorem st_put_marks {b : Addr} : stored (stKvs aRow p tp last aM aSS) (Str.ofString "marks") (.ref b) = stKvs aRow p tp last b aSS := by kernel_rfl
end

section
variable {prog : Program} {w : World} {A : Around} {E : Value → Shared → Prop} {s : Shared} {h₀ : Heap} {L a : Addr} {m : Str → Option Value} {news : List (Addr × Obj)}

theorem item_at {value slice : Expr} {its : List Value} {k : Int} {u : Tok} {v : Value} {Q : Value → Shared → Prop} (hl : s.heap.IsList a its.toArray)
    (h0 : 0 ≤ k) (hhi : k < 2 ^ 63) (hx : its[k.toNat]? = some v) (h : Q v s)
    (hs : subscripted slice false (.ref a) (.int k u) = operate [.ref a, .int k u] (getItem (.ref a) (.int k u)) := by with_unfolding_all rfl) :
    wpAny (model prog w) A (subscriptTail value slice (.ref a) (.int k u)) Q E s :=
  tail_any hl.typeIs slot_list_getitem.lookup (wpAny_getItem_list hl h0 hhi (by simpa using hx) h) hs
theorem getitem_at {its : List Value} {k : Int} {u : Tok} {v : Value} {Q : Value → Shared → Prop} (hl : s.heap.IsList a its.toArray)
    (h0 : 0 ≤ k) (hhi : k < 2 ^ 63) (hx : its[k.toNat]? = some v) (h : Q v s) : wpAny (model prog w) A (getItem (.ref a) (.int k u)) Q E s :=
  wpAny_getItem_list hl h0 hhi (by simpa using hx) h
theorem len_at {its : List Value} {Q : Value → Shared → Prop} (hl : s.heap.IsList a its.toArray) (hz : its.length ≤ 16384)
    (h : ∀ t, Q (.int its.length t) { s with toks := s.toks + 1 + 1 }) : wpAny (model prog w) A (call (.builtin "len") [.ref a]) Q E s :=
  Calls.call_len_list hl (by simp only [List.size_toArray]; omega) (by simpa using h (s.toks + 1))

theorem st_get {value slice : Expr} {o : Obj} {kvs : List (Str × Value)} {x : Str} {t : Tok} {v : Value} {Q : Value → Shared → Prop} (ho : s.heap.get? a = some o) (hd : o.IsDictOf (strKind prog w) kvs)
    (hv : valueAt kvs x = some v) (h : Q v { s with toks := s.toks + 1 })
    (hs : subscripted slice false (.ref a) (.str x t) = operate [.ref a, .str x t] (getItem (.ref a) (.str x t)) := by with_unfolding_all rfl) :
    wpAny (model prog w) A (subscriptTail value slice (.ref a) (.str x t)) Q E s :=
  have hm : s.heap.DictOf (strKind prog w) a kvs := Heap.dictOf_iff.mpr ⟨o, ho, hd⟩
  tail_any hm.typeIs slot_dict_getitem.lookup (wpAny_getItem_of (strKind_is prog w x t) hm.mapOf hv h) hs
theorem st_getItem {o : Obj} {kvs : List (Str × Value)} {x : Str} {t : Tok} {v : Value} {Q : Value → Shared → Prop} (ho : s.heap.get? a = some o) (hd : o.IsDictOf (strKind prog w) kvs)
    (hv : valueAt kvs x = some v) (h : Q v { s with toks := s.toks + 1 }) : wpAny (model prog w) A (getItem (.ref a) (.str x t)) Q E s :=
  have hm : s.heap.DictOf (strKind prog w) a kvs := Heap.dictOf_iff.mpr ⟨o, ho, hd⟩
  wpAny_getItem_of (strKind_is prog w x t) hm.mapOf hv h
theorem st_set {o : Obj} {kvs kvs' : List (Str × Value)} {x : Str} {t : Tok} {v : Value} {g : Obj → List (Addr × Obj)} {Q : Unit → Shared → Prop} (F : Fr h₀ L s.heap m) (N : News h₀ L s.heap news) (U : UpdF a o news g)
    (hd : o.IsDictOf (strKind prog w) kvs) (e : stored kvs x v = kvs') (hz : kvs.length ≤ 1000)
    (h : ∀ h' o', Fr h₀ L h' m → News h₀ L h' (g o') → o'.IsDictOf (strKind prog w) kvs' → Q () { s with heap := h', toks := s.toks + 1 }) :
    wpAny (model prog w) A (setItem (.ref a) (.str x t) v) Q E s := by
  obtain ⟨own, rest, rfl, hg, h1, h2⟩ := U.split
  have hmem := N (a, o) (List.mem_append_right _ (.head _))
  have hm : s.heap.DictOf (strKind prog w) a kvs := Heap.dictOf_iff.mpr ⟨o, hmem.1, hd⟩
  refine wpAny_setItem_pairs (strKind_is prog w x t) hm (fun h' hd' hs => ?_) (by rw [sizeLine_eq]; omega)
  obtain ⟨o', ho', hdo'⟩ := Heap.dictOf_iff.mp hd'
  refine h h' o' ⟨F.ns.sameBut hs (Ne.symm hmem.2.1), fun b ob e => (hs.2 b (fun q => ?_)).trans (F.keep b ob e), F.above⟩ (hg o' ▸ N.setAt h1 h2 hs ho') (e ▸ hdo')
  rw [q, hmem.2.2] at e; cases e
end
local macro_rules | `(tactic| is_list) => tFirst [tEx (ap `list_news [bK, bM]), tEx (ap `list_keep [bK, bA])]
local macro_rules | `(tactic| k_inst) => tRfq (ap `instAt_get [(ap `Fr.keep [bK, b_, b_, bA]), (ap `Fr.keep [bK, b_, b_, bA])])
theorem clamp_ix {P m len : Nat} (hne : 0 < len) (hz : len ≤ 16384) :
    0 ≤ (if (len : Int) - 1 < (P : Int) + (m : Int) then (len : Int) - 1 else (P : Int) + (m : Int)) ∧
    (if (len : Int) - 1 < (P : Int) + (m : Int) then (len : Int) - 1 else (P : Int) + (m : Int)) < 2 ^ 63 ∧
    (if (len : Int) - 1 < (P : Int) + (m : Int) then (len : Int) - 1 else (P : Int) + (m : Int)).toNat = min (P + m) (len - 1) := by
  split <;> refine ⟨?_, ?_, ?_⟩ <;> omega
local macro_rules | `(tactic| tb_start) => tAny [`st_row, `st_at, `st_last, `st_marks, `st_scopes] [`st_row, `st_at, `st_last, `st_marks, `st_scopes]
local macro_rules | `(tactic| tb_rel) => tAny [`st_put_at, `st_put_last, `st_put_marks] [`st_put_at, `st_put_last, `st_put_marks]
local macro_rules | `(tactic| ktr_rel) => tFirst [tEx (ap `News.get [bK, bM]), tEx (ap `Fr.keep [bK, b_, b_, bA])]
theorem room0 {n c R : Nat} (h : n + c < R) : n < R := Nat.lt_of_le_of_lt (Nat.le_add_right n c) h
theorem roomS {n c R : Nat} (h : n + c < R) (e : Nat.ble 1 c = true) : n + 1 < R := Nat.lt_of_le_of_lt (Nat.add_le_add_left (Nat.le_of_ble_eq_true e) n) h
theorem room1 {n c a R : Nat} (h : n + c < R) (e : Nat.ble (1 + a) c = true) : n + 1 + a < R := by rw [Nat.add_assoc]; exact Nat.lt_of_le_of_lt (Nat.add_le_add_left (Nat.le_of_ble_eq_true e) n) h
theorem room2 {n c a R : Nat} (h : n + c < R) (e : Nat.ble (1 + 1 + a) c = true) : n + 1 + 1 + a < R := by rw [Nat.add_assoc, Nat.add_assoc, ← Nat.add_assoc 1]; exact Nat.lt_of_le_of_lt (Nat.add_le_add_left (Nat.le_of_ble_eq_true e) n) h
theorem room3 {n c a R : Nat} (h : n + c < R) (e : Nat.ble (3 + a) c = true) : n + 3 + a < R := by rw [Nat.add_assoc]; exact Nat.lt_of_le_of_lt (Nat.add_le_add_left (Nat.le_of_ble_eq_true e) n) h
theorem room4 {n c a R : Nat} (h : n + c < R) (e : Nat.ble (3 + 1 + a) c = true) : n + 3 + 1 + a < R := by rw [Nat.add_assoc, Nat.add_assoc, ← Nat.add_assoc 3]; exact Nat.lt_of_le_of_lt (Nat.add_le_add_left (Nat.le_of_ble_eq_true e) n) h
local macro_rules | `(tactic| ktr_room) => tFirst [tA, tEx (ap `room1 [bA, (ap `rfl [])]), tEx (ap `roomS [bA, (ap `rfl [])]), tEx (ap `room0 [bA]), tEx (ap `room2 [bA, (ap `rfl [])]), tSeq [tTry (`(tactic| simp only [depth_under_make, depth_under_kw, depth_in1, depth_deeper, depth_caller])), tTry (`(tactic| dsimp only [ar])), tOm]]
local macro_rules | `(tactic| walk_at "subscriptTail") => row [tSh (ap `subscriptTail [b_, b_, (ap `Value.ref [b_]), (ap `Value.int [b_, b_])]), tTo `item_at [bL, bDAO, bDAO, bWRA, bH]]
local macro_rules | `(tactic| walk_at "subscriptTail Name Constant ref int") => row [tTo `item_at [bL, bDAO, bDAO, bWRA, bH]]
local macro_rules | `(tactic| walk_at "getItem ref int") => row [tTo `getitem_at [bL, bDAO, bDAO, bWRA, bH]]
local macro_rules | `(tactic| walk_at "call builtin:len") => row [tSh (ap `call [(ap `Value.builtin [`("len")]), `([Value.ref _])]), tTo `len_at [bL, bA, bH], tIntros]
local macro_rules | `(tactic| walk_at "subscriptTail") => row [tSh (ap `subscriptTail [b_, b_, (ap `Value.ref [b_]), (ap `Value.str [b_, b_])]), tTo `st_get [bRel, bA, (bY (`(tactic| tb_start))), bH]]
local macro_rules | `(tactic| walk_at "getItem ref str") => row [tTo `st_getItem [bRel, bA, (bY (`(tactic| tb_start))), bH]]
local macro_rules | `(tactic| walk_at "setItem ref str") => row [tTo `st_set [bK, bK, bF, bA, (bY (`(tactic| tb_rel))), bD, bH], tIntro [`h₉, `o₉, `F₉, `N₉, `hd₉], tAtN, tSweep]

noncomputable abbrev ent (w : World) (x : Str) (t : Tok) (v : Value) : DictEntry := ⟨PyData.keyHash w.params x, .str x t, v⟩
/-- the reader's own dict -/
noncomputable abbrev rdEs (w : World) (kt : Nat → Tok) (aT : Addr) (tb : Value) (p : Int) (tp : Tok) (last : Value) (aSc aCl : Addr) (nd ba : Bool) : List DictEntry :=
  [ent w (Str.ofString "tokens") (kt 0) (.ref aT), ent w (Str.ofString "table") (kt 1) tb, ent w (Str.ofString "place") (kt 2) (.int p tp), ent w (Str.ofString "last") (kt 3) last,
    ent w (Str.ofString "scopes") (kt 4) (.ref aSc), ent w (Str.ofString "closed") (kt 5) (.ref aCl), ent w (Str.ofString "no_do") (kt 6) (.bool nd), ent w (Str.ofString "bare") (kt 7) (.bool ba),
    ent w (Str.ofString "loops") (kt 8) (.bool false), ent w (Str.ofString "rescues") (kt 9) (.bool false)]
noncomputable abbrev rdDict (w : World) (kt : Nat → Tok) (aT : Addr) (tb : Value) (p : Int) (tp : Tok) (last : Value) (aSc aCl : Addr) (nd ba : Bool) (n : Nat) : Obj := dictOf (rdEs w kt aT tb p tp last aSc aCl nd ba) n
section
variable {w : World} {kt : Nat → Tok} {aT aSc aCl : Addr} {tb last v : Value} {p q : Int} {tp tq : Tok} {nd ba b : Bool} {n : Nat} {hsh : Int} {key : Value}
theorem put_place : (putL (Str.ofString "place") hsh key (.int q tq) (rdEs w kt aT tb p tp last aSc aCl nd ba), putN (Str.ofString "place") (rdEs w kt aT tb p tp last aSc aCl nd ba) n) = (rdEs w kt aT tb q tq last aSc aCl nd ba, n) := by kernel_rfl
theorem put_last : (putL (Str.ofString "last") hsh key v (rdEs w kt aT tb p tp last aSc aCl nd ba), putN (Str.ofString "last") (rdEs w kt aT tb p tp last aSc aCl nd ba) n) = (rdEs w kt aT tb p tp v aSc aCl nd ba, n) := by kernel_rfl
theorem put_table : (putL (Str.ofString "table") hsh key v (rdEs w kt aT tb p tp last aSc aCl nd ba), putN (Str.ofString "table") (rdEs w kt aT tb p tp last aSc aCl nd ba) n) = (rdEs w kt aT v p tp last aSc aCl nd ba, n) := by kernel_rfl
theorem put_no_do : (putL (Str.ofString "no_do") hsh key (.bool b) (rdEs w kt aT tb p tp last aSc aCl nd ba), putN (Str.ofString "no_do") (rdEs w kt aT tb p tp last aSc aCl nd ba) n) = (rdEs w kt aT tb p tp last aSc aCl b ba, n) := by kernel_rfl
theorem put_bare : (putL (Str.ofString "bare") hsh key (.bool b) (rdEs w kt aT tb p tp last aSc aCl nd ba), putN (Str.ofString "bare") (rdEs w kt aT tb p tp last aSc aCl nd ba) n) = (rdEs w kt aT tb p tp last aSc aCl nd b, n) := by kernel_rfl
end
local macro_rules | `(tactic| k_put) => tAny [`put_place, `put_last, `put_no_do, `put_bare, `put_table] [`put_place, `put_last, `put_no_do, `put_bare, `put_table]
/-- a token's own dict -/
noncomputable abbrev tkDict (w : World) (kt : Nat → Tok) (k v l : Value) (n : Nat) (tz : Tok) : Obj :=
  dictOf [ent w (Str.ofString "kind") (kt 0) k, ent w (Str.ofString "value") (kt 1) v, ent w (Str.ofString "line") (kt 2) l, ent w (Str.ofString "spaced") (kt 3) (.bool false), ent w (Str.ofString "place") (kt 4) (.int 0 tz)] n
/-- a text or None -/
noncomputable def sv : Option Str → Tok → Value
  | none, _ => .none
  | some x, t => .str x t
theorem sv_handed (a : Option Str) (t : Tok) : handedIn (sv a t) = true := by cases a <;> rfl
local macro_rules | `(tactic| k_handed) => tEx (ap `sv_handed [b_, b_])
/-- a drawn token -/
structure Tok0 where
  kind : Str
  sign : Option Str
  line : Int
noncomputable abbrev tupObj (vs : List Value) (n : Nat) : Obj := { cls := .type "tuple", data := .seq vs.toArray n }
inductive TokAt (w : World) (h : Heap) (a : Addr) (t : Tok0) : Prop
  | mk (dx : Addr) (kt : Nat → Tok) (n : Nat) (tz t1 t2 t3 : Tok) (e1 : h.get? a = some (instObj 209 dx)) (e2 : h.get? dx = some (tkDict w kt (.str t.kind t1) (sv t.sign t2) (.int t.line t3) n tz))
inductive RowAt (h : Heap) (a : Addr) (t : Tok0) : Prop
  | mk (t1 t2 t3 : Tok) (e : IsTup h a [.str t.kind t1, sv t.sign t2, .int t.line t3].toArray)
/-- the token ahead of place i -/
noncomputable def cur (row : List Tok0) (i : Nat) : Tok0 := row.getD (min i (row.length - 1)) ⟨Str.ofString "", none, 0⟩
noncomputable def adr (as : List Addr) (i : Nat) : Addr := as.getD (min i (as.length - 1)) 0
theorem adr_at {as : List Addr} {i : Nat} (h : 0 < as.length) : (as.map Value.ref)[min i ((as.map Value.ref).length - 1)]? = some (.ref (adr as i)) := by
  have hl : min i (as.length - 1) < as.length := by omega
  rw [List.length_map, List.getElem?_map, adr, List.getD_eq_getElem?_getD, List.getElem?_eq_getElem hl]; rfl
/-- a plain text, a short one -/
noncomputable def okS (x : Str) : Bool := PyData.strOk x && decide (x.length ≤ 20)
noncomputable def okT (t : Tok0) : Bool := okS t.kind && t.sign.all okS
/-- what stands from the building on: the text's own, the reader's tokens, the row of tuples -/
structure Cx (w : World) (p : Program) (loose : List Str) (mean : ExcName → Option Value) (mg mb : Str → Option Value) (row : List Tok0) (aT aRow : Addr) (ts rs : List Addr) (h : Heap) : Prop where
  base : Base w p loose mean mg mb h
  pos : 0 < row.length
  few : row.length ≤ 100
  ok : ∀ t ∈ row, okT t = true
  eof : ∀ i, row.length ≤ i + 1 → (cur row i).kind ≠ Str.ofString "nl"
  op : ∀ i, (cur row i).kind = Str.ofString "op" → (cur row i).sign.isSome = true
  ht : ts.length = row.length
  hr : rs.length = row.length
  lt : h.IsList aT (ts.map Value.ref).toArray
  lr : h.IsList aRow (rs.map Value.ref).toArray
  tok : ∀ (i : Nat) (a : Addr) (t : Tok0), ts[i]? = some a → row[i]? = some t → TokAt w h a t
  rw : ∀ (i : Nat) (a : Addr) (t : Tok0), rs[i]? = some a → row[i]? = some t → RowAt h a t
theorem TokAt.keeps {w : World} {h h' : Heap} {a : Addr} {t : Tok0} (x : TokAt w h a t) (k : h.StaysIn h') : TokAt w h' a t :=
  let ⟨dx, kt, n, tz, t1, t2, t3, e1, e2⟩ := x; ⟨dx, kt, n, tz, t1, t2, t3, k _ _ e1, k _ _ e2⟩
theorem RowAt.keeps {h h' : Heap} {a : Addr} {t : Tok0} (x : RowAt h a t) (k : h.StaysIn h') : RowAt h' a t :=
  let ⟨t1, t2, t3, e⟩ := x; ⟨t1, t2, t3, stays_tup k e⟩
section
variable {w : World} {p : Program} {loose : List Str} {mean : ExcName → Option Value} {mg mb : Str → Option Value} {row : List Tok0} {aT aRow : Addr} {ts rs : List Addr} {h h' : Heap} {i : Nat}
theorem Cx.keeps (C : Cx w p loose mean mg mb row aT aRow ts rs h) (k : h.StaysIn h') : Cx w p loose mean mg mb row aT aRow ts rs h' :=
  ⟨C.base.keeps k, C.pos, C.few, C.ok, C.eof, C.op, C.ht, C.hr, stays_list k C.lt, stays_list k C.lr, fun i a t e1 e2 => (C.tok i a t e1 e2).keeps k, fun i a t e1 e2 => (C.rw i a t e1 e2).keeps k⟩
theorem cur_at (hp : 0 < row.length) : row[min i (row.length - 1)]? = some (cur row i) := by
  have hl : min i (row.length - 1) < row.length := by omega
  rw [cur, List.getD_eq_getElem?_getD, List.getElem?_eq_getElem hl]; rfl
theorem adr_get {as : List Addr} (hp : 0 < as.length) : as[min i (as.length - 1)]? = some (adr as i) := by
  have hl : min i (as.length - 1) < as.length := by omega
  rw [adr, List.getD_eq_getElem?_getD, List.getElem?_eq_getElem hl]; rfl
theorem Cx.tokAt (C : Cx w p loose mean mg mb row aT aRow ts rs h) (i : Nat) : TokAt w h (adr ts i) (cur row i) :=
  C.tok _ _ _ (adr_get (by rw [C.ht]; exact C.pos)) (by rw [C.ht]; exact cur_at C.pos)
theorem Cx.rowAt (C : Cx w p loose mean mg mb row aT aRow ts rs h) (i : Nat) : RowAt h (adr rs i) (cur row i) :=
  C.rw _ _ _ (adr_get (by rw [C.hr]; exact C.pos)) (by rw [C.hr]; exact cur_at C.pos)
theorem Cx.okAt (C : Cx w p loose mean mg mb row aT aRow ts rs h) (i : Nat) : okT (cur row i) = true :=
  C.ok _ (List.mem_of_getElem? (cur_at (i := i) C.pos))
theorem Cx.tix (C : Cx w p loose mean mg mb row aT aRow ts rs h) (P m : Nat) : (ts.map Value.ref)[(if (((ts.map Value.ref).length : Nat) : Int) - 1 < (P : Int) + (m : Int) then (((ts.map Value.ref).length : Nat) : Int) - 1 else (P : Int) + (m : Int)).toNat]? = some (.ref (adr ts (P + m))) := by
  have hl : 0 < ts.length := by rw [C.ht]; exact C.pos
  have hz := C.few
  rw [← C.ht] at hz
  rw [(clamp_ix (by rw [List.length_map]; exact hl) (by rw [List.length_map]; omega)).2.2]; exact adr_at hl
theorem Cx.rix (C : Cx w p loose mean mg mb row aT aRow ts rs h) (P m : Nat) : (rs.map Value.ref)[(if (((rs.map Value.ref).length : Nat) : Int) - 1 < (P : Int) + (m : Int) then (((rs.map Value.ref).length : Nat) : Int) - 1 else (P : Int) + (m : Int)).toNat]? = some (.ref (adr rs (P + m))) := by
  have hl : 0 < rs.length := by rw [C.hr]; exact C.pos
  have hz := C.few
  rw [← C.hr] at hz
  rw [(clamp_ix (by rw [List.length_map]; exact hl) (by rw [List.length_map]; omega)).2.2]; exact adr_at hl
theorem Cx.tlen (C : Cx w p loose mean mg mb row aT aRow ts rs h) : (ts.map Value.ref).length ≤ 16384 ∧ 0 < (ts.map Value.ref).length := by
  rw [List.length_map, C.ht]; exact ⟨Nat.le_trans C.few (by decide), C.pos⟩
theorem Cx.rlen (C : Cx w p loose mean mg mb row aT aRow ts rs h) : (rs.map Value.ref).length ≤ 16384 ∧ 0 < (rs.map Value.ref).length := by
  rw [List.length_map, C.hr]; exact ⟨Nat.le_trans C.few (by decide), C.pos⟩
end
section
variable {prog : Program} {w : World} {A : Around} {E : Value → Shared → Prop} {s : Shared} {a b : Option Str} {t u : Tok} {Q : Value → Shared → Prop}
theorem sv_eq (h : Q (.bool (decide (a = b))) s) : wpAny (model prog w) A (compareOp .Eq (sv a t) (sv b u)) Q E s := by
  cases a with
  | none => cases b with
    | none => exact EqNone.eq_none_none (by simpa using h)
    | some y => exact EqNone.eq_none_str (by simpa using h)
  | some x => cases b with
    | none => exact EqNone.eq_str_none (by simpa using h)
    | some y => exact eq_str (show Q (.bool (decide (x = y))) s by simpa using h)
theorem sv_is (h : Q (.bool a.isNone) s) : wpAny (model prog w) A (compareOp .Is (sv a t) .none) Q E s := by
  cases a with
  | none => exact is_none_none h
  | some x => exact is_none_ne (by intro e; cases e) h
end
/-- what a text is held against -/
theorem allNe_fresh {a : Addr} {h : Heap} {news : List (Addr × Obj)} (N : ∀ q ∈ news, h.get? q.1 = some q.2) (e : h.get? a = none) : ∀ q ∈ news, q.1 ≠ a := fun q hq z => by
  have := N q hq; rw [z, e] at this; cases this
theorem news_fresh {h₀ h h' : Heap} {L a : Addr} {m : Str → Option Value} {o : Obj} {news : List (Addr × Obj)} (F : Fr h₀ L h m) (N : News h₀ L h news) (k : h.StaysIn h') (e : h.get? a = none) (e' : h'.get? a = some o) : News h₀ L h' ((a, o) :: news) := fun q hq => by
  rcases List.mem_cons.mp hq with rfl | hq
  · refine ⟨e', fun z => ?_, ?_⟩
    · obtain ⟨oL, es, ep, hL, _⟩ := F.ns
      rw [← z] at hL; rw [e] at hL; cases hL
    · cases q1 : h₀.get? a with
      | none => rfl
      | some o1 => have := F.keep _ _ q1; rw [e] at this; cases this
  · exact ⟨k _ _ (N q hq).1, (N q hq).2⟩
theorem news_off {h₀ h : Heap} {L b : Addr} {news : List (Addr × Obj)} (N : News h₀ L h news) (e : h.get? b = none) : ∀ q ∈ news, q.1 ≠ b := fun p hp q => by have := (N p hp).1; rw [q, e] at this; cases this
local macro_rules | `(tactic| kwd_rel) => tEx (ap `Cx.keeps [bA, bFr])
local macro_rules | `(tactic| kwd_inv) => tSeq [tF, tNw, tS, tHave `F₉ (ap `Fr.keeps [(ap `kF₉ []), (ap `kS₉ [])]), tHave `N₉ (ap `News.grown [(ap `kN₉ []), (ap `kS₉ [])]), tSweep]
local macro_rules | `(tactic| walk_at "compareOp Eq") => row [tSh (ap `compareOp [(ap `CmpOp.Eq []), (ap `sv [b_, b_]), (ap `sv [b_, b_])]), tW (tRf (ap `sv_eq [bH]))]
local macro_rules | `(tactic| walk_at "compareOp Is") => row [tSh (ap `compareOp [(ap `CmpOp.Is []), (ap `sv [b_, b_]), (ap `Value.none [])]), tW (tRf (ap `sv_is [bH]))]

section
variable {prog : Program} {w : World} {p : Program} {loose : List Str} {mean : ExcName → Option Value} {mg mb : Str → Option Value} {row : List Tok0} {aRow : Addr} {ts rs : List Addr}
  {dp un : Nat} {fr : Option (List Env)} {gd : Option (List Code)} {s : Shared} {Q E : Value → Shared → Prop}
  {aR dR aT aSc aCl : Addr} {kt : Nat → Tok} {tb last : Value} {pl : Nat} {tp : Tok} {nd ba : Bool} {n : Nat}

theorem peek_at {m : Nat} {tm : Tok} (C : Cx w p loose mean mg mb row aT aRow ts rs s.heap) (hr : dp + 2 < recursionLimit)
    (hi : s.heap.get? aR = some (instObj 188 dR)) (hd : s.heap.get? dR = some (rdDict w kt aT tb pl tp last aSc aCl nd ba n))
    (h : ∀ h' tk', s.heap.StaysIn h' → Q (.ref (adr ts (pl + m))) { s with heap := h', toks := tk' }) :
    wpAny (model prog w) (ar dp un fr gd) (call (.ref 76) [.ref aR, .int m tm]) Q E s := by
  refine wpAny_call ?_
  have B := C.base
  obtain ⟨X, T⟩ := id B
  have hT := C.lt
  obtain ⟨hz, hne⟩ := C.tlen
  obtain ⟨c1, c2, c3⟩ := clamp_ix (P := pl) (m := m) hne hz
  have hx := C.tix pl m
  kc_enter
  intro L h₁ m0 hm0 F N'
  dsimp only
  k_fold
  k_steps
  all_goals exact h _ _ (Fr.keep (by assumption))
theorem peek_0 (C : Cx w p loose mean mg mb row aT aRow ts rs s.heap) (hr : dp + 2 < recursionLimit)
    (hi : s.heap.get? aR = some (instObj 188 dR)) (hd : s.heap.get? dR = some (rdDict w kt aT tb pl tp last aSc aCl nd ba n))
    (h : ∀ h' tk', s.heap.StaysIn h' → Q (.ref (adr ts pl)) { s with heap := h', toks := tk' }) :
    wpAny (model prog w) (ar dp un fr gd) (call (.ref 76) [.ref aR]) Q E s := by
  refine wpAny_call ?_
  have B := C.base
  obtain ⟨X, T⟩ := id B
  have hT := C.lt
  obtain ⟨hz, hne⟩ := C.tlen
  obtain ⟨c1, c2, c3⟩ := clamp_ix (P := pl) (m := 0) hne hz
  have hx := C.tix pl 0
  kc_enter
  intro L h₁ m0 hm0 F N'
  dsimp only
  k_fold
  k_steps
  all_goals exact h _ _ (Fr.keep (by assumption))
end
local macro_rules | `(tactic| walk_at "call ref") => row [tAt 76, tTo `peek_0 [bCx, bRoom, bRel, bRel, bH], tIntros, tInv]
local macro_rules | `(tactic| walk_at "call ref") => row [tAt 76, tTo `peek_at [bCx, bRoom, bRel, bRel, bH], tIntros, tInv]

section
variable {prog : Program} {w : World} {p : Program} {loose : List Str} {mean : ExcName → Option Value} {mg mb : Str → Option Value} {row : List Tok0} {aRow : Addr} {ts rs : List Addr}
  {dp un : Nat} {fr : Option (List Env)} {gd : Option (List Code)} {s : Shared} {Q E : Value → Shared → Prop}
  {aR dR aT aSc aCl aS aM aSS : Addr} {kt : Nat → Tok} {tb last : Value} {pl : Nat} {tp : Tok} {nd ba : Bool} {n : Nat} {oS : Obj}

/-- what at asks -/
noncomputable def isTok (t : Tok0) (k : Str) (v : Option Str) : Bool := decide (t.kind = k) && (v.isNone || decide (t.sign = v))
theorem isTok_1 {t : Tok0} {k : Str} {v : Option Str} (a : (t.kind == k) = true) (b : v.isNone = true) : v.isNone = isTok t k v := by
  have a' : t.kind = k := by simpa using a
  rw [isTok, b, decide_eq_true a']; rfl
theorem isTok_2 {t : Tok0} {k : Str} {v : Option Str} (a : (t.kind == k) = true) (b : v.isNone = false) : decide (t.sign = v) = isTok t k v := by
  have a' : t.kind = k := by simpa using a
  rw [isTok, b, decide_eq_true a']; rfl
theorem isTok_3 {t : Tok0} {k : Str} {v : Option Str} (a : (t.kind == k) = false) : (t.kind == k) = isTok t k v := by
  have a' : ¬ t.kind = k := by simpa using a
  rw [isTok, decide_eq_false a', a]; rfl
theorem isTok_4 {t : Tok0} {k : Str} (a : (t.kind == k) = true) : true = isTok t k none := by
  have a' : t.kind = k := by simpa using a
  rw [isTok, decide_eq_true a']; rfl
theorem at_2 {k : Str} {v : Option Str} {tk tv : Tok} (C : Cx w p loose mean mg mb row aT aRow ts rs s.heap) (hr : dp + 4 < recursionLimit)
    (hi : s.heap.get? aR = some (instObj 188 dR)) (hd : s.heap.get? dR = some (rdDict w kt aT tb pl tp last aSc aCl nd ba n))
    (h : ∀ b h' tk', b = isTok (cur row pl) k v → s.heap.StaysIn h' → Q (.bool b) { s with heap := h', toks := tk' }) :
    wpAny (model prog w) (ar dp un fr gd) (call (.ref 91) [.ref aR, .str k tk, sv v tv]) Q E s := by
  refine wpAny_call ?_
  have B := C.base
  obtain ⟨X, T⟩ := id B
  obtain ⟨dx, kt2, n2, tz, t1, t2, t3, hti, htd⟩ := C.tokAt pl
  kc_enter
  intro L h₁ m0 hm0 F N'
  dsimp only
  k_fold
  k_steps
  all_goals exact h _ _ _ (by first | exact isTok_1 (by assumption) (by assumption) | exact isTok_2 (by assumption) (by assumption) | exact isTok_3 (by assumption)) (Fr.keep (by assumption))
theorem at_1 {k : Str} {tk : Tok} (C : Cx w p loose mean mg mb row aT aRow ts rs s.heap) (hr : dp + 4 < recursionLimit)
    (hi : s.heap.get? aR = some (instObj 188 dR)) (hd : s.heap.get? dR = some (rdDict w kt aT tb pl tp last aSc aCl nd ba n))
    (h : ∀ b h' tk', b = isTok (cur row pl) k none → s.heap.StaysIn h' → Q (.bool b) { s with heap := h', toks := tk' }) :
    wpAny (model prog w) (ar dp un fr gd) (call (.ref 91) [.ref aR, .str k tk]) Q E s := by
  refine wpAny_call ?_
  have B := C.base
  obtain ⟨X, T⟩ := id B
  obtain ⟨dx, kt2, n2, tz, t1, t2, t3, hti, htd⟩ := C.tokAt pl
  kc_enter
  intro L h₁ m0 hm0 F N'
  dsimp only
  k_fold
  k_steps
  all_goals exact h _ _ _ (by first | exact isTok_4 (by assumption) | exact isTok_3 (by assumption)) (Fr.keep (by assumption))
theorem ahead_at {m : Nat} {tm : Tok} (C : Cx w p loose mean mg mb row aT aRow ts rs s.heap) (hr : dp + 2 < recursionLimit)
    (hi : s.heap.get? aS = some oS) (hd : oS.IsDictOf (strKind prog w) (stKvs aRow pl tp last aM aSS))
    (h : ∀ h' tk', s.heap.StaysIn h' → Q (.ref (adr rs (pl + m))) { s with heap := h', toks := tk' }) :
    wpAny (model prog w) (ar dp un fr gd) (call (.ref 265) [.ref aS, .int m tm]) Q E s := by
  refine wpAny_call ?_
  have B := C.base
  obtain ⟨X, T⟩ := id B
  have hT := C.lr
  obtain ⟨hz, hne⟩ := C.rlen
  obtain ⟨c1, c2, c3⟩ := clamp_ix (P := pl) (m := m) hne hz
  have hx := C.rix pl m
  kc_enter
  intro L h₁ m0 hm0 F N'
  dsimp only
  k_fold
  k_steps
  all_goals exact h _ _ (Fr.keep (by assumption))
theorem ahead_0 (C : Cx w p loose mean mg mb row aT aRow ts rs s.heap) (hr : dp + 2 < recursionLimit)
    (hi : s.heap.get? aS = some oS) (hd : oS.IsDictOf (strKind prog w) (stKvs aRow pl tp last aM aSS))
    (h : ∀ h' tk', s.heap.StaysIn h' → Q (.ref (adr rs pl)) { s with heap := h', toks := tk' }) :
    wpAny (model prog w) (ar dp un fr gd) (call (.ref 265) [.ref aS]) Q E s := by
  refine wpAny_call ?_
  have B := C.base
  obtain ⟨X, T⟩ := id B
  have hT := C.lr
  obtain ⟨hz, hne⟩ := C.rlen
  obtain ⟨c1, c2, c3⟩ := clamp_ix (P := pl) (m := 0) hne hz
  have hx := C.rix pl 0
  kc_enter
  intro L h₁ m0 hm0 F N'
  dsimp only
  k_fold
  k_steps
  all_goals exact h _ _ (Fr.keep (by assumption))
theorem plain_at {a : Addr} {t : Tok0} (B : Base w p loose mean mg mb s.heap) (C : TokAt w s.heap a t) (hr : dp + 2 < recursionLimit)
    (h : ∀ b n t1 t2 t3 h' tk', s.heap.StaysIn h' → s.heap.get? b = none → h'.get? b = some (tupObj [.str t.kind t1, sv t.sign t2, .int t.line t3] n) → Q (.ref b) { s with heap := h', toks := tk' }) :
    wpAny (model prog w) (ar dp un fr gd) (call (.ref 272) [.ref a]) Q E s := by
  refine wpAny_call ?_
  obtain ⟨X, T⟩ := id B
  obtain ⟨dx, kt2, n2, tz, t1, t2, t3, hti, htd⟩ := id C
  kc_enter
  intro L h₁ m0 hm0 F N'
  dsimp only
  k_fold
  k_steps
  all_goals ((rename News _ _ _ _ => kN); exact h _ 0 _ _ _ _ _ (Fr.keep (by assumption)) (News.fresh kN (.head _)) (News.get kN (.head _)))
end
local macro_rules | `(tactic| kwd_less) => tSeq [tF, tNw, tS, tName `kO `(Heap.get? _ _ = some (tupObj _ _)), tE, tHave `F₉ (ap `Fr.keeps [(ap `kF₉ []), (ap `kS₉ [])]), tHave `N₉ (ap `news_fresh [(ap `kF₉ []), (ap `kN₉ []), (ap `kS₉ []), (ap `kE₉ []), (ap `kO [])]), tHave `l₉ (ap `news_off [(ap `kN₉ []), (ap `kE₉ [])]), tClear [`kS₉, `kE₉, `kO], tSweep]
local macro_rules | `(tactic| walk_at "call ref") => row [tAt 91, tTo `at_2 [bCx, bRoom, bRel, bRel, bH], tIntros, tInv]
local macro_rules | `(tactic| walk_at "call ref") => row [tAt 265, tTo `ahead_0 [bCx, bRoom, bRel, bA, bH], tIntros, tInv]
local macro_rules | `(tactic| walk_at "call ref") => row [tAt 265, tTo `ahead_at [bCx, bRoom, bRel, bA, bH], tIntros, tInv]
local macro_rules | `(tactic| ktd_rel) => tFirst [tEx (ap `tup_keep [bK, bA]), tEx (ap `News.isTup [bK, bM])]
local macro_rules | `(tactic| walk_at "subscriptTail") => row [tSh (ap `subscriptTail [b_, b_, (ap `Value.ref [b_]), (ap `Value.int [b_, b_])]), tTo `item_tupleT [bT, bD, bD, bR, bR, bH]]
local macro_rules | `(tactic| walk_at "call ref") => row [tAt 272, tTo `plain_at [bBase, (ap `Cx.tokAt [bCx, b_]), bRoom, bH], tIntros, `(tactic| kwd_less)]
local macro_rules | `(tactic| walk_at "call ref") => row [tAt 91, tTo `at_1 [bCx, bRoom, bRel, bRel, bH], tIntros, tInv]

section
variable {prog : Program} {w : World} {p : Program} {loose : List Str} {mean : ExcName → Option Value} {mg mb : Str → Option Value} {row : List Tok0} {aRow : Addr} {ts rs : List Addr}
  {dp un : Nat} {fr : Option (List Env)} {gd : Option (List Code)} {s : Shared} {Q E : Value → Shared → Prop}
  {aR dR aT aSc aCl aS aM aSS : Addr} {kt : Nat → Tok} {tb last : Value} {pl : Nat} {tp : Tok} {nd ba : Bool} {n : Nat} {oS : Obj}
theorem is_at {k : Str} {v : Option Str} {tk tv : Tok} (C : Cx w p loose mean mg mb row aT aRow ts rs s.heap) (hr : dp + 4 < recursionLimit)
    (hi : s.heap.get? aS = some oS) (hd : oS.IsDictOf (strKind prog w) (stKvs aRow pl tp last aM aSS))
    (h : ∀ b h' tk', b = isTok (cur row pl) k v → s.heap.StaysIn h' → Q (.bool b) { s with heap := h', toks := tk' }) :
    wpAny (model prog w) (ar dp un fr gd) (call (.ref 279) [.ref aS, .str k tk, sv v tv]) Q E s := by
  refine wpAny_call ?_
  have B := C.base
  obtain ⟨X, T⟩ := id B
  obtain ⟨t1, t2, t3, hti⟩ := C.rowAt pl
  kc_enter
  intro L h₁ m0 hm0 F N'
  dsimp only
  k_fold
  k_steps
  all_goals exact h _ _ _ (by first | exact isTok_1 (by assumption) (by assumption) | exact isTok_2 (by assumption) (by assumption) | exact isTok_3 (by assumption)) (Fr.keep (by assumption))
theorem words_at (B : Base w p loose mean mg mb s.heap) (hr : dp + 2 < recursionLimit)
    (h : ∀ b n t1 t2 t3 t4 h' tk', s.heap.StaysIn h' → s.heap.get? b = none → h'.get? b = some (listOf [.str (Str.ofString "a") t1, .str (Str.ofString "b") t2, .str (Str.ofString "c") t3, .str (Str.ofString "d") t4].toArray n) → Q (.ref b) { s with heap := h', toks := tk' }) :
    wpAny (model prog w) (ar dp un fr gd) (call (.ref 229) []) Q E s := by
  refine wpAny_call ?_
  obtain ⟨X, T⟩ := id B
  kc_enter
  intro L h₁ m0 hm0 F N'
  dsimp only
  k_fold
  k_steps
  all_goals ((rename News _ _ _ _ => kN); exact h _ 0 _ _ _ _ _ _ (Fr.keep (by assumption)) (News.fresh kN (.head _)) (News.get kN (.head _)))
end
local macro_rules | `(tactic| kwd_same0) => tSeq [tF, tNw, tS, tName `kO `(Heap.get? _ _ = some (listOf _ _)), tE, tHave `F₉ (ap `Fr.keeps [(ap `kF₉ []), (ap `kS₉ [])]), tHave `N₉ (ap `news_fresh [(ap `kF₉ []), (ap `kN₉ []), (ap `kS₉ []), (ap `kE₉ []), (ap `kO [])]), tHave `l₉ (ap `news_off [(ap `kN₉ []), (ap `kE₉ [])]), tClear [`kS₉, `kE₉, `kO], tSweep]
theorem is_none_at {prog : Program} {w : World} {p : Program} {loose : List Str} {mean : ExcName → Option Value} {mg mb : Str → Option Value} {row : List Tok0} {aT aRow aS aM aSS : Addr} {ts rs : List Addr} {dp un : Nat} {fr : Option (List Env)} {gd : Option (List Code)} {s : Shared} {Q E : Value → Shared → Prop} {pl : Nat} {tp : Tok} {last : Value} {oS : Obj} {k : Str} {tk : Tok} (C : Cx w p loose mean mg mb row aT aRow ts rs s.heap) (hr : dp + 4 < recursionLimit)
    (hi : s.heap.get? aS = some oS) (hd : oS.IsDictOf (strKind prog w) (stKvs aRow pl tp last aM aSS))
    (h : ∀ b h' tk', b = isTok (cur row pl) k none → s.heap.StaysIn h' → Q (.bool b) { s with heap := h', toks := tk' }) :
    wpAny (model prog w) (ar dp un fr gd) (call (.ref 279) [.ref aS, .str k tk, .none]) Q E s := is_at (v := none) (tv := 0) C hr hi hd h
local macro_rules | `(tactic| walk_at "call ref") => row [tAt 279, tTo `is_none_at [bCx, bRoom, bRel, bA, bH], tIntros, tInv]
local macro_rules | `(tactic| walk_at "call ref") => row [tAt 279, tTo `is_at [bCx, bRoom, bRel, bA, bH], tIntros, tInv]
local macro_rules | `(tactic| walk_at "call ref") => row [tAt 229, tTo `words_at [bBase, bRoom, bH], tIntros, `(tactic| kwd_same0)]

/-- a scope: is it closed; the reader's names, the state's names, the state's pair; the names -/
structure Sc where
  cl : Bool
  an : Addr
  an' : Addr
  tu : Addr
  ys : List Str
structure ScAt (h : Heap) (c : Sc) : Prop where
  rd : ∃ vs n, h.get? c.an = some (listOf (List.toArray vs) n) ∧ StrsAre vs c.ys
  st : ∃ vs n, h.get? c.an' = some (listOf (List.toArray vs) n) ∧ StrsAre vs c.ys
  tu : IsTup h c.tu [Value.bool c.cl, .ref c.an'].toArray
theorem ScAt.keeps {h h' : Heap} {c : Sc} (x : ScAt h c) (k : h.StaysIn h') : ScAt h' c :=
  ⟨let ⟨vs, n, e, y⟩ := x.rd; ⟨vs, n, k _ _ e, y⟩, let ⟨vs, n, e, y⟩ := x.st; ⟨vs, n, k _ _ e, y⟩, stays_tup k x.tu⟩
noncomputable def has (c : Sc) (x : Str) : Bool := c.ys.any (· == x)
/-- is x known: from the top -/
noncomputable def knownR : List Sc → Str → Bool
  | [], _ => false
  | c :: r, x => if has c x then true else if c.cl then false else knownR r x
noncomputable def known (sc : List Sc) (x : Str) : Bool := knownR sc.reverse x
theorem known_take {sc : List Sc} {n : Nat} {c : Sc} {x : Str} (hc : sc[n]? = some c) : known (sc.take (n + 1)) x = if has c x then true else if c.cl then false else known (sc.take n) x := by
  rw [List.take_add_one, hc]; simp [known, knownR]
/-- the scopes' lists -/
structure ScsAt (h : Heap) (aSc aCl : Addr) (sc : List Sc) : Prop where
  l0 : ∃ n, h.get? aSc = some (listOf (sc.map fun c => Value.ref c.an).toArray n)
  c0 : ∃ n, h.get? aCl = some (listOf (sc.map fun c => Value.bool c.cl).toArray n)
  all : ∀ c ∈ sc, ScAt h c
  few : sc.length ≤ 100
  bot : ∃ c, sc[0]? = some c ∧ c.cl = true
theorem lo_move {h h' : Heap} {a : Addr} {its : Array Value} (x : ∃ n, h.get? a = some (listOf its n)) (k : ∀ o, h.get? a = some o → h'.get? a = some o) : ∃ n, h'.get? a = some (listOf its n) := by
  obtain ⟨n, e⟩ := x; exact ⟨n, k _ e⟩
theorem ScsAt.l {h : Heap} {aSc aCl : Addr} {sc : List Sc} (x : ScsAt h aSc aCl sc) : h.IsList aSc (sc.map fun c => Value.ref c.an).toArray := let ⟨_, e⟩ := x.l0; list_get e
theorem ScsAt.c {h : Heap} {aSc aCl : Addr} {sc : List Sc} (x : ScsAt h aSc aCl sc) : h.IsList aCl (sc.map fun c => Value.bool c.cl).toArray := let ⟨_, e⟩ := x.c0; list_get e
theorem ScsAt.keeps {h h' : Heap} {aSc aCl : Addr} {sc : List Sc} (x : ScsAt h aSc aCl sc) (k : h.StaysIn h') : ScsAt h' aSc aCl sc :=
  ⟨lo_move x.l0 fun o e => k _ _ e, lo_move x.c0 fun o e => k _ _ e, fun c hc => (x.all c hc).keeps k, x.few, x.bot⟩
/-- the walk stops here -/
noncomputable def Stop (P : Prop) : Prop := P
theorem Stop.intro {P : Prop} (h : Stop P) : P := h
local macro_rules | `(tactic| walk_at "exec While BoolOp cons nil") => stop
local macro_rules | `(tactic| walk_at "exec While Call cons nil") => stop
local macro_rules | `(tactic| walk_at "exec For Tuple Subscript cons nil") => stop
local macro_rules | `(tactic| walk_at "exec For Name Call cons nil") => stop
local macro_rules | `(tactic| walk_at "exec For Name Subscript cons nil") => stop
local macro_rules | `(tactic| walk_at "compareOp NotIn str ref") => row [tTo `notin_list_strs [bL, bA, bH]]
local macro_rules | `(tactic| walk_at "compareOp In str ref") => row [tTo `in_list_strs [bL, bA, bH]]
local macro_rules | `(tactic| is_list) => tFirst [tEx (ap `list_news [bK, bM]), tEx (ap `list_keep [bK, bA]), tEx (ap `list_get [(ap `Fr.keep [bK, b_, b_, bA])])]
theorem int_eq {a b : Int} {t : Tok} (h : a = b) : some (Value.int a t) = some (Value.int b t) := by rw [h]
theorem kn_1 {sc : List Sc} {n : Nat} {c : Sc} {x : Str} (hc : sc[n]? = some c) (j : known sc x = known (sc.take (n + 1)) x) (a : (c.ys.any fun y => y == x) = true) : (c.ys.any fun y => y == x) = known sc x := by
  rw [j, known_take hc, has, a]; rfl
theorem kn_2 {sc : List Sc} {n : Nat} {c : Sc} {x : Str} (hc : sc[n]? = some c) (j : known sc x = known (sc.take (n + 1)) x) (a : (c.ys.any fun y => y == x) = false) (b : c.cl = true) : (c.ys.any fun y => y == x) = known sc x := by
  rw [j, known_take hc, has, a, b]; rfl
theorem kn_3 {sc : List Sc} {n : Nat} {c : Sc} {x : Str} (hc : sc[n]? = some c) (j : known sc x = known (sc.take (n + 1)) x) (a : (c.ys.any fun y => y == x) = false) (b : c.cl = false) : known sc x = known (sc.take n) x := by
  rw [j, known_take hc, has, a, b]; rfl
theorem kn_0 {h : Heap} {aSc aCl : Addr} {sc : List Sc} (S : ScsAt h aSc aCl sc) : 0 < sc.length := by
  obtain ⟨c, hc, _⟩ := S.bot
  exact (List.getElem?_eq_some_iff.mp hc).1
theorem kn_4 {h : Heap} {aSc aCl : Addr} {sc : List Sc} (S : ScsAt h aSc aCl sc) {n : Nat} {c : Sc} (hc : sc[n]? = some c) (b : c.cl = false) : 0 < n := by
  obtain ⟨d, hd, e⟩ := S.bot
  rcases Nat.eq_zero_or_pos n with rfl | h
  · rw [hd] at hc; cases hc; rw [e] at b; cases b
  · exact h
noncomputable def KnJ (aR : Addr) (x : Str) (tx : Tok) (sc : List Sc) (n : Nat) (m : Str → Option Value) (_ : List (Addr × Obj)) : Prop :=
  m (Str.ofString "self") = some (.ref aR) ∧ m (Str.ofString "name") = some (.str x tx) ∧ (∃ t, m (Str.ofString "place") = some (.int n t)) ∧ n < sc.length ∧ known sc x = known (sc.take (n + 1)) x
section
variable {prog : Program} {w : World} {p : Program} {loose : List Str} {mean : ExcName → Option Value} {mg mb : Str → Option Value} {row : List Tok0} {aRow : Addr} {ts rs : List Addr}
  {dp un : Nat} {fr : Option (List Env)} {gd : Option (List Code)} {s : Shared} {Q E : Value → Shared → Prop}
  {aR dR aT aSc aCl aS aM aSS : Addr} {kt : Nat → Tok} {tb last : Value} {pl : Nat} {tp : Tok} {nd ba : Bool} {n : Nat} {oS : Obj} {sc : List Sc}
theorem knows_at {x : Str} {tx : Tok} (B : Base w p loose mean mg mb s.heap) (hr : dp + 2 < recursionLimit)
    (hi : s.heap.get? aR = some (instObj 188 dR)) (hd : s.heap.get? dR = some (rdDict w kt aT tb pl tp last aSc aCl nd ba n)) (S : ScsAt s.heap aSc aCl sc)
    (h : ∀ b h' tk', b = known sc x → s.heap.StaysIn h' → Q (.bool b) { s with heap := h', toks := tk' }) :
    wpAny (model prog w) (ar dp un fr gd) (call (.ref 142) [.ref aR, .str x tx]) Q E s := by
  refine wpAny_call ?_
  obtain ⟨X, T⟩ := id B
  have hl := S.l
  have hz : (sc.map fun c => Value.ref c.an).length ≤ 16384 := by rw [List.length_map]; exact Nat.le_trans S.few (by decide)
  kc_enter
  intro L h₁ m0 hm0 F N'
  dsimp only
  k_fold
  k_steps
  (refine While_inv2 (KnJ aR x tx sc) (n₀ := sc.length - 1) (by assumption) (by assumption) ?_ ?_)
  · have h0 := kn_0 S
    refine ⟨by ktn_lt, by ktn_lt, ⟨_, int_eq (by rw [List.length_map]; omega)⟩, by omega, by rw [Nat.sub_add_cancel h0, List.take_length]⟩
  · intro n m₁ news₁ h₁ tk₁ F₁ N₁ J₁
    obtain ⟨j1, j2, ⟨t, j3⟩, j4, j5⟩ := J₁
    obtain ⟨c, hc⟩ : ∃ c, sc[n]? = some c := ⟨_, List.getElem?_eq_getElem j4⟩
    have hx1 : (sc.map fun c => Value.ref c.an)[n]? = some (.ref c.an) := by rw [List.getElem?_map, hc]; rfl
    have hx2 : (sc.map fun c => Value.bool c.cl)[n]? = some (.bool c.cl) := by rw [List.getElem?_map, hc]; rfl
    have hlc := S.c
    have hfew := S.few
    have hcs := S.all c (List.mem_of_getElem? hc)
    obtain ⟨vs, nv, hv, hys⟩ := hcs.rd
    dsimp only
    k_unmd
    k_fold
    k_steps
    · exact h _ _ _ (kn_1 hc j5 (by assumption)) (Fr.keep (by assumption))
    · exact h _ _ _ (kn_2 hc j5 (by assumption) (by assumption)) (Fr.keep (by assumption))
    · have hn := kn_4 S hc (by assumption)
      rename Fr _ _ _ _ => kF
      rename News _ _ _ _ => kN
      exact ⟨_, _, _, _, n - 1, rfl, kF, kN, by omega, by ktn_lt, by ktn_lt, ⟨_, int_eq (by omega)⟩, by omega, by rw [Nat.sub_add_cancel hn]; exact kn_3 hc j5 (by assumption) (by assumption)⟩
end

section
variable {prog : Program} {w : World} {A : Around} {E : Value → Shared → Prop} {s : Shared} {env : Env} {h₀ : Heap} {L : Addr}
inductive TE1 (h₀ : Heap) (L : Addr) (f : Heap → Nat → Shared) (I : Addr) (oI : Obj) (J : Nat → (Str → Option Value) → List (Addr × Obj) → Prop) (i : Nat) (s₃ : Shared) : Prop
  | mk (h : Heap) (tk : Nat) (m₂ : Str → Option Value) (news₂ : List (Addr × Obj)) (e : s₃ = f h tk) (F : Fr h₀ L h m₂) (N : News h₀ L h ((I, oI) :: news₂)) (j : J i m₂ news₂)
/-- the end of a turn -/
noncomputable def TurnEnd (h₀ : Heap) (L : Addr) (s : Shared) (I : Addr) (oI : Obj) (J : Nat → (Str → Option Value) → List (Addr × Obj) → Prop) (Q : Flow → Shared → Prop) (i : Nat) (f : Flow) (s₃ : Shared) : Prop :=
  match f with
  | .next | .cont => TE1 h₀ L (fun h tk => { s with heap := h, toks := tk }) I oI J i s₃
  | .brk => Q .next s₃
  | .ret v => Q (.ret v) s₃

inductive FwS (h₀ : Heap) (L : Addr) (s : Shared) (n : Nat) (St : Nat → Heap → Prop) (J : Nat → (Str → Option Value) → List (Addr × Obj) → Prop) (k : Nat) (s' : Shared) : Prop
  | mk (h : Heap) (tk : Nat) (m₁ : Str → Option Value) (news₁ : List (Addr × Obj)) (i : Nat) (e : s' = { s with heap := h, toks := tk }) (st : St i h) (F : Fr h₀ L h m₁) (N : News h₀ L h news₁) (j : J i m₁ news₁) (hi : i ≤ n) (hk : k = n + 1 - i)
/-- a for over what walks, by an invariant over the frame's map and the ledger -/
theorem for_w {Q : Flow → Shared → Prop} {target : Expr} {body : List Stmt} {I : Addr} {fp : List Addr} {n : Nat} {P : Nat → Value → Prop} {St : Nat → Heap → Prop} {m : Str → Option Value} {news : List (Addr × Obj)}
    (W : Walks prog w A I fp [I] n P St) (hst : St 0 s.heap) (F : Fr h₀ L s.heap m) (N : News h₀ L s.heap news) (hI : h₀.get? I = none) (hIL : I ≠ L) (hIn : ∀ q ∈ news, q.1 ≠ I) (hIo : ∃ o, s.heap.get? I = some o)
    (J : Nat → (Str → Option Value) → List (Addr × Obj) → Prop) (hJ : J 0 m news) (hadr : ∀ i m₁ news₁, J i m₁ news₁ → ∀ q ∈ news₁, q.1 ∈ news.map (·.1))
    (hsome : ∀ i h, St i h → ∃ o, h.get? I = some o)
    (hfr : ∀ i h h' m₁ news₁ o, St i h → h.get? I = some o → h'.get? I = some o → J i m₁ news₁ → Fr h₀ L h' m₁ → News h₀ L h' news₁ → St i h')
    (step : ∀ i v m₁ news₁ h₁ tk₁ oI, i < n → P i v → J i m₁ news₁ → Fr h₀ L h₁ m₁ → News h₀ L h₁ ((I, oI) :: news₁) → (∀ q ∈ news₁, q.1 ≠ I) →
      wpAny (model prog w) A (assign target env v) (fun _ s₂ => wpAny (model prog w) A (execs body env) (TurnEnd h₀ L s I oI J Q (i + 1)) E s₂) E { s with heap := h₁, toks := tk₁ })
    (done : ∀ m₁ news₁ h tk, J n m₁ news₁ → Fr h₀ L h m₁ → News h₀ L h news₁ → Q .next { s with heap := h, toks := tk })
    (hgo : ∀ (i : Nat) (v : Value) (s' : Shared) (Q' : Unit → Shared → Prop) (E' : Value → Shared → Prop), St i s'.heap → Q' () s' → wpAny (model prog w) A (letOwnedTupleGo target (.ref I) v) Q' E' s')
    (hE : PassesOwn (model prog w) A env E := by passes_own) :
    codeAny (model prog w) A (.forLoop target (.ref I) body [] env) (fun r s' => match r with | .ok f => Q f s' | .error e => cameBackBy (model prog w) A env E e s') s := by
  refine codeAny_forLoop_any (FwS h₀ L s n St J) ?_ (n + 1)
    ⟨s.heap, s.toks, m, news, 0, rfl, hst, F, N, hJ, Nat.zero_le _, rfl⟩
  rintro k s' ⟨h, tk, m₁, news₁, i, rfl, st, F₁, N₁, J₁, hi, rfl⟩
  have off : ∀ q ∈ news₁, q.1 ≠ I := fun q hq => by
    obtain ⟨q', hq', e⟩ := List.mem_map.mp (hadr i m₁ news₁ J₁ q hq)
    exact e ▸ hIn q' hq'
  have keep : ∀ h' : Heap, (∀ b o, b ∉ [I] → h.get? b = some o → h'.get? b = some o) → Fr h₀ L h' m₁ ∧ News h₀ L h' news₁ := fun h' k =>
    ⟨⟨F₁.ns.at' fun o e => k _ o (by simpa using Ne.symm hIL) e, fun b o e => k b o (by simp; rintro rfl; rw [hI] at e; cases e) (F₁.keep b o e), F₁.above⟩,
      fun q hq => ⟨k _ _ (by simpa using off q hq) (N₁ q hq).1, (N₁ q hq).2⟩⟩
  by_cases hlt : i < n
  · refine W.item i _ _ _ hlt st fun v h' tk' hP st' k => hgo _ v _ _ _ st' ?_
    obtain ⟨F₂, N₂⟩ := keep h' k
    obtain ⟨oI, ho⟩ := hsome _ _ st'
    have N₃ : News h₀ L h' ((I, oI) :: news₁) := fun q hq => by
      rcases List.mem_cons.mp hq with rfl | hq
      · exact ⟨ho, hIL, hI⟩
      · exact N₂ q hq
    refine wpAny_passesOwn hE (wpAny_mono (step i v m₁ news₁ h' tk' oI hlt hP J₁ F₂ N₃ off) (fun _ s₂ h₂ => ?_) fun _ _ x => x)
    refine wpAny_passesOwn hE (wpAny_mono h₂ (fun f s₃ h₃ => ?_) fun _ _ x => x)
    cases f with
    | next =>
      obtain ⟨h₄, tk₄, m₄, news₄, rfl, F₄, N₄, J₄⟩ : TE1 _ _ _ _ _ _ _ _ := h₃
      exact ⟨n + 1 - (i + 1), by omega, h₄, tk₄, m₄, news₄, i + 1, rfl, hfr _ _ _ _ _ _ st' ho (N₄ _ (.head _)).1 J₄ F₄ (fun q hq => N₄ q (.tail _ hq)), F₄, fun q hq => N₄ q (.tail _ hq), J₄, hlt, rfl⟩
    | cont =>
      obtain ⟨h₄, tk₄, m₄, news₄, rfl, F₄, N₄, J₄⟩ : TE1 _ _ _ _ _ _ _ _ := h₃
      exact ⟨n + 1 - (i + 1), by omega, h₄, tk₄, m₄, news₄, i + 1, rfl, hfr _ _ _ _ _ _ st' ho (N₄ _ (.head _)).1 J₄ F₄ (fun q hq => N₄ q (.tail _ hq)), F₄, fun q hq => N₄ q (.tail _ hq), J₄, hlt, rfl⟩
    | brk => exact h₃
    | ret v => exact h₃
  · have hin : i = n := by omega
    subst hin
    refine W.done _ _ _ st fun h' tk' k => wpAny_execs_nil ?_
    obtain ⟨F₂, N₂⟩ := keep h' k
    exact done m₁ news₁ h' tk' J₁ F₂ N₂

theorem go_list {target : Expr} {I l : Addr} {i : Nat} {v : Value} {Q : Unit → Shared → Prop} (hit : s.heap.IsListIter I l i) (hQ : Q () s) : wpAny (model prog w) A (letOwnedTupleGo target (.ref I) v) Q E s := by
  cases target <;> first
    | exact wpAny_pure hQ
    | (cases v <;> first
        | exact wpAny_pure hQ
        | exact wpAny_letOwnedTupleGo_listiter hit hQ
        | (obtain ⟨o, ho, hc, hd⟩ := hit
           refine wpAny_bind (wpAny_load ho ?_)
           obtain ⟨c, d, dt, sl⟩ := o
           cases hc
           cases hd
           exact wpAny_pure hQ))
/-- a for over a list that stands -/
theorem for_list {Q : Flow → Shared → Prop} {target : Expr} {body : List Stmt} {l : Addr} {its : List Value} {m : Str → Option Value} {news : List (Addr × Obj)}
    (hh : A.handled = none) (F : Fr h₀ L s.heap m) (N : News h₀ L s.heap news) (hl : s.heap.IsList l its.toArray)
    (J : Nat → (Str → Option Value) → List (Addr × Obj) → Prop) (hJ : J 0 m news) (hadr : ∀ i m₁ news₁, J i m₁ news₁ → ∀ q ∈ news₁, q.1 ∈ news.map (·.1))
    (hll : ∀ i h' m₁ news₁, J i m₁ news₁ → Fr h₀ L h' m₁ → News h₀ L h' news₁ → h'.IsList l its.toArray)
    (step : ∀ I i v m₁ news₁ h₁ tk₁ oI, i < its.length → its[i]? = some v → J i m₁ news₁ → Fr h₀ L h₁ m₁ → News h₀ L h₁ ((I, oI) :: news₁) → (∀ q ∈ news₁, q.1 ≠ I) →
      wpAny (model prog w) A (assign target env v) (fun _ s₂ => wpAny (model prog w) A (execs body env) (TurnEnd h₀ L s I oI J Q (i + 1)) E s₂) E { s with heap := h₁, toks := tk₁ })
    (done : ∀ m₁ news₁ h tk, J its.length m₁ news₁ → Fr h₀ L h m₁ → News h₀ L h news₁ → Q .next { s with heap := h, toks := tk })
    (hE : PassesOwn (model prog w) A env E := by passes_own) :
    wpAny (model prog w) A (pyIter (.ref l)) (fun it s₂ => codeAny (model prog w) A (.forLoop target it body [] env) (fun r s' => match r with | .ok f => Q f s' | .error e => cameBackBy (model prog w) A env E e s') s₂) E s := by
  refine wpAny_pyIter_list hl ?_
  have hls : l < s.heap.objs.size := let ⟨_, e, _⟩ := hl; Heap.lt_size e
  have hsz := Nat.ne_of_lt hls
  have W := Walks.list (prog := prog) (w := w) hh s.heap.objs.size l hsz its.toArray
  rw [show its.toArray.size = its.length from List.size_toArray] at W
  have hp : ∀ b o, s.heap.get? b = some o → (s.heap.push { cls := .type "list_iterator", data := .fields #[.ref l, .int 0 0] }).get? b = some o := fun b o e => Heap.get?_push_of_some _ e
  refine for_w (Q := Q) (s := { s with heap := s.heap.push { cls := .type "list_iterator", data := .fields #[.ref l, .int 0 0] } }) W ⟨⟨_, Heap.get?_push_size _ rfl, rfl, rfl⟩, hl.at fun o e => hp _ o e⟩ (F.push _)
    (fun p q => ⟨hp _ _ (N p q).1, (N p q).2⟩) (next_is_new F) (Nat.ne_of_gt F.ns.lt) (fun q hq => Nat.ne_of_lt (Heap.lt_size (N q hq).1)) ⟨_, Heap.get?_push_size _ rfl⟩ J hJ hadr
    (fun i h st => let ⟨o, e, _⟩ := st.1; ⟨o, e⟩) (fun i h h' m₁ news₁ o st e e' j F' N' => ⟨?_, hll i h' m₁ news₁ j F' N'⟩) (fun i v m₁ news₁ h₁ tk₁ oI hi hP j F₁ N₁ off => ?_) (fun m₁ news₁ h tk j F₁ N₁ => done m₁ news₁ h tk j F₁ N₁) (fun i v s' Q' E' st q => go_list st.1 q) hE
  · exact st.1.at fun o₂ e₂ => by rw [e] at e₂; cases e₂; exact e'
  · exact step _ i v m₁ news₁ h₁ tk₁ oI hi (by simpa using hP) j F₁ N₁ off
end
local macro_rules | `(tactic| walk_at "pyIter ref") => stop

/-- the state's scopes -/
structure StsAt (h : Heap) (aSS : Addr) (sc : List Sc) : Prop where
  l0 : ∃ n, h.get? aSS = some (listOf (sc.map fun c => Value.ref c.tu).toArray n)
  all : ∀ c ∈ sc, ScAt h c
  few : sc.length ≤ 100
theorem StsAt.l {h : Heap} {aSS : Addr} {sc : List Sc} (x : StsAt h aSS sc) : h.IsList aSS (sc.map fun c => Value.ref c.tu).toArray := let ⟨_, e⟩ := x.l0; list_get e
theorem StsAt.keeps {h h' : Heap} {aSS : Addr} {sc : List Sc} (x : StsAt h aSS sc) (k : h.StaysIn h') : StsAt h' aSS sc :=
  ⟨lo_move x.l0 fun o e => k _ _ e, fun c hc => (x.all c hc).keeps k, x.few⟩
local macro_rules | `(tactic| walk_at "subscriptTail Subscript Slice ref ref") => row [tSh (ap `subscriptTail [b_, (ap `PySem.Expr.Slice [(ap `none []), (ap `none []), (ap `some [b_]), b_]), (ap `Value.ref [b_]), (ap `Value.ref [b_])]), tRef `krv_lit [bK, bK, bL, (ap `IsPart.int [b_, b_]), bR, bH, (bY (`(tactic| with_unfolding_all rfl))), (bY (tSeq [tIntros, `(tactic| with_unfolding_all rfl)])), bA], tIntro [`D₉, `h₉, `F₉, `N₉, `l₉], tOff, tSweep]
theorem rev_list {h₀ h : Heap} {L a : Addr} {n : Nat} {its : List Value} {news : List (Addr × Obj)} (N : News h₀ L h ((a, ({ cls := .type "list", data := .seq (slicePick its.toArray none none (some (-1))) n } : Obj)) :: news)) : h.IsList a its.reverse.toArray := by
  have h1 := list_news N (.head _)
  rwa [krv_pick] at h1
theorem rev_item {α : Type} {f : α → Value} {sc : List α} {i : Nat} {v : Value} (h : (sc.map f).reverse[i]? = some v) : ∃ c, sc.reverse[i]? = some c ∧ f c = v := by
  rw [← List.map_reverse, List.getElem?_map] at h
  exact Option.map_eq_some_iff.mp h
/-- the turns so far have not found x -/
noncomputable def LkJ (aS : Addr) (x : Str) (tx : Tok) (sc : List Sc) (news₀ : List (Addr × Obj)) (i : Nat) (m : Str → Option Value) (news : List (Addr × Obj)) : Prop :=
  news = news₀ ∧ m (Str.ofString "state") = some (.ref aS) ∧ m (Str.ofString "name") = some (.str x tx) ∧ knownR sc.reverse x = knownR (sc.reverse.drop i) x
theorem lk_end {sc : List Sc} {x : Str} {i : Nat} {c : Sc} (hc : sc.reverse[i]? = some c) : knownR (sc.reverse.drop i) x = if has c x then true else if c.cl then false else knownR (sc.reverse.drop (i + 1)) x := by
  obtain ⟨h, rfl⟩ := List.getElem?_eq_some_iff.mp hc
  rw [List.drop_eq_getElem_cons h, knownR]
section
variable {sc : List Sc} {x : Str} {i : Nat} {c : Sc}
theorem lk_1 (j : knownR sc.reverse x = knownR (sc.reverse.drop i) x) (e : knownR (sc.reverse.drop i) x = if has c x then true else if c.cl then false else knownR (sc.reverse.drop (i + 1)) x) (a : (c.ys.any fun y => y == x) = true) : true = known sc x := by
  rw [known, j, e, has, a]; rfl
theorem lk_2 (j : knownR sc.reverse x = knownR (sc.reverse.drop i) x) (e : knownR (sc.reverse.drop i) x = if has c x then true else if c.cl then false else knownR (sc.reverse.drop (i + 1)) x) (a : (c.ys.any fun y => y == x) = false) (b : c.cl = true) : false = known sc x := by
  rw [known, j, e, has, a, b]; rfl
theorem lk_3 (j : knownR sc.reverse x = knownR (sc.reverse.drop i) x) (e : knownR (sc.reverse.drop i) x = if has c x then true else if c.cl then false else knownR (sc.reverse.drop (i + 1)) x) (a : (c.ys.any fun y => y == x) = false) (b : c.cl = false) : knownR sc.reverse x = knownR (sc.reverse.drop (i + 1)) x := by
  rw [j, e, has, a, b]; rfl
theorem lk_4 {n : Nat} (hn : n = sc.length) (j : knownR sc.reverse x = knownR (sc.reverse.drop n) x) : false = known sc x := by
  rw [known, j, hn, List.drop_of_length_le (by rw [List.length_reverse]; exact Nat.le_refl _)]; rfl
end
section
variable {prog : Program} {w : World} {p : Program} {loose : List Str} {mean : ExcName → Option Value} {mg mb : Str → Option Value} {row : List Tok0} {aRow : Addr} {ts rs : List Addr}
  {dp un : Nat} {fr : Option (List Env)} {gd : Option (List Code)} {s : Shared} {Q E : Value → Shared → Prop}
  {aR dR aT aSc aCl aS aM aSS : Addr} {kt : Nat → Tok} {tb last : Value} {pl : Nat} {tp : Tok} {nd ba : Bool} {n : Nat} {oS : Obj} {sc : List Sc}
theorem lknown_at {x : Str} {tx : Tok} (B : Base w p loose mean mg mb s.heap) (hr : dp + 2 < recursionLimit)
    (hi : s.heap.get? aS = some oS) (hd : oS.IsDictOf (strKind prog w) (stKvs aRow pl tp last aM aSS)) (S : StsAt s.heap aSS sc)
    (h : ∀ b h' tk', b = known sc x → s.heap.StaysIn h' → Q (.bool b) { s with heap := h', toks := tk' }) :
    wpAny (model prog w) (ar dp un fr gd) (call (.ref 257) [.ref aS, .str x tx]) Q E s := by
  refine wpAny_call ?_
  obtain ⟨X, T⟩ := id B
  have hl := S.l
  kc_enter
  intro L h₁ m0 hm0 F N'
  dsimp only
  k_fold
  k_steps
  (refine wpAny_For ?_)
  have hz : (sc.map fun c => Value.ref c.tu).toArray.size ≤ sizeLine := by rw [List.size_toArray, List.length_map, sizeLine_eq]; exact Nat.le_trans S.few (by decide)
  k_steps
  rename Fr _ _ _ _ => kF
  rename News _ _ _ _ => kN
  have hD := rev_list kN
  refine for_list rfl kF kN hD (LkJ aS x tx sc _) ⟨rfl, by ktn_lt, by ktn_lt, rfl⟩ (fun _ _ _ j q hq => by rw [j.1] at hq; exact List.mem_map_of_mem hq) (fun _ _ _ _ j F N => by rw [j.1] at N; exact rev_list N) ?_ ?_
  · intro I i v m₁ news₁ h₂ tk₂ oI hlt hv J₁ F₂ N₂ off
    obtain ⟨j1, j2, j3, j4⟩ := J₁
    subst j1
    obtain ⟨c, hc, rfl⟩ := rev_item hv
    have hcs := S.all c (List.mem_reverse.mp (List.mem_of_getElem? hc))
    obtain ⟨vs, nv, hvv, hys⟩ := hcs.st
    have htu := hcs.tu
    have e1 := lk_end (x := x) hc
    dsimp only
    k_unmd
    k_fold
    k_steps
    all_goals ((rename Fr _ _ _ _ => kF); (rename News _ _ _ _ => kN); first
      | exact h _ _ _ (lk_1 j4 e1 (by assumption)) (Fr.keep kF)
      | exact h _ _ _ (lk_2 j4 e1 (by assumption) (by assumption)) (Fr.keep kF)
      | exact ⟨_, _, _, _, rfl, kF, kN, rfl, by ktn_lt, by ktn_lt, lk_3 j4 e1 (by assumption) (by assumption)⟩)
  · intro m₁ news₁ h₂ tk₂ J₁ F₂ N₂
    dsimp only
    k_steps
    all_goals exact h _ _ _ (lk_4 (by rw [List.length_reverse, List.length_map]) J₁.2.2.2) (Fr.keep (by assumption))
end
local macro_rules | `(tactic| kwd_same1) => tEx (ap `ScsAt.keeps [bA, bFr])
local macro_rules | `(tactic| kwd_same2) => tEx (ap `StsAt.keeps [bA, bFr])
local macro_rules | `(tactic| walk_at "call ref") => row [tAt 142, tTo `knows_at [bBase, bRoom, bRel, bRel, (bY (`(tactic| kwd_same1))), bH], tIntros, tInv]
local macro_rules | `(tactic| walk_at "call ref") => row [tAt 257, tTo `lknown_at [bBase, bRoom, bRel, bA, (bY (`(tactic| kwd_same2))), bH], tIntros, tInv]

section
variable {prog : Program} {w : World} {p : Program} {loose : List Str} {mean : ExcName → Option Value} {mg mb : Str → Option Value}
/-- entering a def that has cells, and writes upon mu -/
theorem enterC {A : Around} {R : Result → Shared → Prop} {s : Shared} {h₀ : Heap} {mu : List (Addr × Obj)}
    {name qual : Str} {params : Arguments} {body : List Stmt} {scope : Scope} {dV kV doc pm cdv ct oc : Value} {an od : Option Addr} {osl : Array (Option Value)} {f : Addr} {args : Args} {binds : List (Str × Value)}
    (B : Base w p loose mean mg mb h₀) (N : At h₀ s.heap mu)
    (ho : (k0.heap_1 w.params).lookup f = some ⟨oc, od, .func (fnOf name qual params body scope dV kV doc pm an cdv ct), osl⟩) (hcd : codeIn (k0.heap_1 w.params) cdv qual = true) (hroom : A.depth < recursionLimit)
    (hbind : BindsTo s (fnOf name qual params body scope dV kV doc pm an cdv ct) args binds) (hkind : (binds.all fun y => scope.names.lookup y.1 == some .local || scope.names.lookup y.1 == some .cell) = true)
    (hnd : ((cellsFrom 0 scope.names []).map (·.1)).Nodup)
    (h : ∀ g L' h₁ tk cells, ∀ m, (∀ y v, bindL (envOfC qual scope L' f cdv).kindOf binds (fun _ => none) y = some v → m y = some v) → Fr g L' h₁ m → News g L' h₁ (cells ++ mu) → CellsAre (bindC (envOfC qual scope L' f cdv).kindOf binds fun _ => none) (cellsFrom (L' + 1) scope.names []) cells →
      (k0.heap_1 w.params).In g → Top p loose mean mg mb g → h₀.StaysIn g → (∀ q ∈ mu, q.1 < L') → KeepsBut (mu.map (·.1)) s.heap g →
      wpAny (model prog w) (A.deeper (envOfC qual scope L' f cdv)) (execs body (envOfC qual scope L' f cdv))
        (fun fl s' => R (.ok (.ret (match fl with | .ret v => v | _ => .none))) s')
        (fun e s' => wpAny (model prog w) (A.deeper (envOfC qual scope L' f cdv)) (leaving (envOfC qual scope L' f cdv) e) (fun _ s'' => R (.error e) s'') (fun e' s'' => R (.error e') s'') s')
        { s with heap := h₁, toks := tk })
    (hco : scope.isCoroutine = false) (hgen : scope.isGenerator = false) (hk : scope.kind = .function) : codeAny (model prog w) A (.call (.ref f) args) R s := by
  have nm : ∀ b o, h₀.get? b = some o → b ∉ mu.map (·.1) := fun b o e q => by
    obtain ⟨p, hp, rfl⟩ := List.mem_map.mp q
    rw [(N.2 p hp).2] at e; cases e
  have st : h₀.StaysIn (hideAll s.heap (mu.map (·.1))) := fun b o e => hideAll_get _ (N.1 b o e) (nm b o e)
  have st' : ∀ b o, h₀.get? b = some o → (hideAll s.heap (mu.map (·.1))).get? b = some o := st
  refine codeAny_call_function hroom (N.1 _ _ (B.X _ _ ho)) rfl hco hgen rfl (codeRec_of (Frag.In.keeps B.X N.1) hcd) (hbind _ _ _ _ ?_)
  refine wpAny_newFunctionEnv_cells hk (kindsX hkind _) fun env' he s' x => ?_
  subst he
  refine ⟨(B.T.nolimit.keeps N.1).keeps x.toInCall.keep, codeAny_func ?_⟩
  obtain ⟨h₁, tk, rfl, _⟩ := x.done
  have hk₁ := x.toInCall.keep
  obtain ⟨cells, NC, Y⟩ := Cl.news (h₀ := s.heap) (Nat.le_refl _) fun n c hm => ⟨x.cell n c (lookup_of_mem_nodup (cellsFrom_names scope.names 0 (s.heap.objs.size + 1) [] [] rfl ▸ hnd) hm), x.above n c hm⟩
  refine h (hideAll s.heap (mu.map (·.1))) s.heap.objs.size h₁ tk cells _ (fun _ _ e => e) ⟨x.toInCall.ns, fun b o e => hk₁ b o (of_hideAll _ e), Nat.le_of_eq (hideAll_size _ _)⟩ (fun q hq => ?_) Y (Frag.In.keeps B.X st') (Top.keeps B.T st') st
    (fun q hq => Heap.lt_size (N.2 q hq).1) (fun b o e hb => hideAll_get _ e hb)
  rcases List.mem_append.mp hq with hq | hq
  · refine ⟨(NC q hq).1, (NC q hq).2.1, ?_⟩
    cases z : (hideAll s.heap (mu.map (·.1))).get? q.1 with
    | none => rfl
    | some o => have := of_hideAll _ z; rw [(NC q hq).2.2] at this; cases this
  · exact ⟨hk₁ _ _ (N.2 q hq).1, Nat.ne_of_lt (Heap.lt_size (N.2 q hq).1), hideAll_none _ (List.mem_map_of_mem hq)⟩
/-- entering a def that has cells, and writes upon nothing -/
theorem enterC0 {A : Around} {R : Result → Shared → Prop} {s : Shared}
    {name qual : Str} {params : Arguments} {body : List Stmt} {scope : Scope} {dV kV doc pm cdv ct oc : Value} {an od : Option Addr} {osl : Array (Option Value)} {f : Addr} {args : Args} {binds : List (Str × Value)}
    (B : Base w p loose mean mg mb s.heap)
    (ho : (k0.heap_1 w.params).lookup f = some ⟨oc, od, .func (fnOf name qual params body scope dV kV doc pm an cdv ct), osl⟩) (hcd : codeIn (k0.heap_1 w.params) cdv qual = true) (hroom : A.depth < recursionLimit)
    (hbind : BindsTo s (fnOf name qual params body scope dV kV doc pm an cdv ct) args binds) (hkind : (binds.all fun y => scope.names.lookup y.1 == some .local || scope.names.lookup y.1 == some .cell) = true)
    (hnd : ((cellsFrom 0 scope.names []).map (·.1)).Nodup)
    (h : ∀ L' h₁ tk cells, ∀ m, (∀ y v, bindL (envOfC qual scope L' f cdv).kindOf binds (fun _ => none) y = some v → m y = some v) → Fr s.heap L' h₁ m → News s.heap L' h₁ cells → CellsAre (bindC (envOfC qual scope L' f cdv).kindOf binds fun _ => none) (cellsFrom (L' + 1) scope.names []) cells →
      wpAny (model prog w) (A.deeper (envOfC qual scope L' f cdv)) (execs body (envOfC qual scope L' f cdv))
        (fun fl s' => R (.ok (.ret (match fl with | .ret v => v | _ => .none))) s')
        (fun e s' => wpAny (model prog w) (A.deeper (envOfC qual scope L' f cdv)) (leaving (envOfC qual scope L' f cdv) e) (fun _ s'' => R (.error e) s'') (fun e' s'' => R (.error e') s'') s')
        { s with heap := h₁, toks := tk })
    (hco : scope.isCoroutine = false) (hgen : scope.isGenerator = false) (hk : scope.kind = .function) : codeAny (model prog w) A (.call (.ref f) args) R s := by
  refine codeAny_call_function hroom (B.X _ _ ho) rfl hco hgen rfl (codeRec_of B.X hcd) (hbind _ _ _ _ ?_)
  refine wpAny_newFunctionEnv_cells hk (kindsX hkind _) fun env' he s' x => ?_
  subst he
  refine ⟨B.T.nolimit.keeps x.toInCall.keep, codeAny_func ?_⟩
  obtain ⟨h₁, tk, rfl, _⟩ := x.done
  obtain ⟨cells, NC, Y⟩ := Cl.news (h₀ := s.heap) (Nat.le_refl _) fun n c hm => ⟨x.cell n c (lookup_of_mem_nodup (cellsFrom_names scope.names 0 (s.heap.objs.size + 1) [] [] rfl ▸ hnd) hm), x.above n c hm⟩
  exact h s.heap.objs.size h₁ tk cells _ (fun _ _ e => e) ⟨x.toInCall.ns, x.toInCall.keep, Nat.le_refl _⟩ NC Y
end
local macro_rules | `(tactic| kn_enter) => tRef `enterC [bA, bA, bI, bI, bRoom, bBinds, bR, (bY (`(tactic| decide +kernel))), bH, bR, bR, bR]
local macro_rules | `(tactic| ktd_step) => tRef `enterC0 [bA, bI, bI, bRoom, bBinds, bR, (bY (`(tactic| decide +kernel))), bH, bR, bR, bR]

/-- data of a text or None -/
noncomputable def pd : Option Str → PyData
  | none => .none
  | some x => .str x
theorem pd_reads {h : Heap} (v : Option Str) (t : Tok) : Reads h (sv v t) (pd v) [] := by
  cases v with
  | none => exact Reads.none
  | some x => exact Reads.str _ _
theorem row_shaped {t : Tok0} (ok : okT t = true) : SeqAt.shaped (.tuple [.str t.kind, pd t.sign, .int t.line]) = true := by
  obtain ⟨k, v, l⟩ := t
  cases v <;> simp_all [okT, okS, SeqAt.shaped, pd, PyData.canLay0, PyData.canLayAll0, PyData.depth, PyData.depthAll]
theorem row_eqv (k : Str) (v : Option Str) (l : Int) : PyData.eqv (.tuple [.str k, pd v, .int l]) (.tuple [.str k, pd v, .int l]) = true := by
  cases v <;> simp [pd, PyData.eqv, PyData.eqvAll]
theorem row_reads {h : Heap} {a : Addr} {k : Str} {v : Option Str} {l : Int} {t1 t2 t3 : Tok} (r : IsTup h a [.str k t1, sv v t2, .int l t3].toArray) : ∃ as, Reads h (.ref a) (.tuple [.str k, pd v, .int l]) as := by
  obtain ⟨o, ho, hc, n, hd⟩ := r
  exact ⟨_, Reads.tuple ho hc hd (.cons (.str _ _) (.cons (pd_reads _ _) (.cons (.int _ _) .nil)))⟩
section
variable {prog : Program} {w : World} {A : Around} {E : Value → Shared → Prop} {s : Shared} {a b : Addr} {t : Tok0} {t1 t2 t3 u1 u2 u3 : Tok} {Q : Value → Shared → Prop}
theorem row_ne (ok : okT t = true) (ra : IsTup s.heap a [.str t.kind t1, sv t.sign t2, .int t.line t3].toArray) (rb : IsTup s.heap b [.str t.kind u1, sv t.sign u2, .int t.line u3].toArray) (hu : A.units + 64 < cLine) (h : Q (.bool false) s) :
    wpAny (model prog w) A (compareOp .NotEq (.ref a) (.ref b)) Q E s := by
  obtain ⟨as, ra⟩ := row_reads ra
  obtain ⟨bs, rb⟩ := row_reads rb
  exact SeqAt.compareNe_shaped ra rb (row_shaped ok) (row_shaped ok) hu (by rw [row_eqv]; exact h)
theorem row_eq (ok : okT t = true) (ra : IsTup s.heap a [.str t.kind t1, sv t.sign t2, .int t.line t3].toArray) (rb : IsTup s.heap b [.str t.kind u1, sv t.sign u2, .int t.line u3].toArray) (hu : A.units + 64 < cLine) (h : Q (.bool true) s) :
    wpAny (model prog w) A (compareOp .Eq (.ref a) (.ref b)) Q E s := by
  obtain ⟨as, ra⟩ := row_reads ra
  obtain ⟨bs, rb⟩ := row_reads rb
  exact SeqAt.compareEq_shaped ra rb (row_shaped ok) (row_shaped ok) hu (by rw [row_eqv]; exact h)
end
local macro_rules | `(tactic| ktr_units) => tFirst [tEx (ap `room3 [bA, (ap `rfl [])]), tEx (ap `room4 [bA, (ap `rfl [])]), tSeq [tHave `hcL₉ (ap `cLine_is []), tTry (`(tactic| simp only [units_in1, units_deeper, Around.mark_units])), tTry (`(tactic| dsimp only [ar])), tOm]]
set_option hygiene true in
local macro_rules | `(tactic| walk_at "compareOp NotEq ref ref") => `(tactic| (k_here; k_dflt (refine' row_ne ?k (by ktd_rel) (by ktd_rel) ?u ?_; (case k => assumption); (case u => ktr_units); k_whole)))
set_option hygiene true in
local macro_rules | `(tactic| walk_at "compareOp Eq ref ref") => `(tactic| (k_here; k_dflt (refine' row_eq ?k (by ktd_rel) (by ktd_rel) ?u ?_; (case k => assumption); (case u => ktr_units); k_whole)))
theorem bl_reads {h : Heap} {l : List Bool} : ReadsAll h (l.map Value.bool) (l.map PyData.bool) [] := by
  induction l with
  | nil => exact .nil
  | cons b r ih => exact ReadsAll.cons (as := []) (.bool b) ih
theorem bl_can : ∀ l : List Bool, PyData.canLayAll0 (l.map PyData.bool) = true
  | [] => rfl
  | _ :: r => by simp [PyData.canLayAll0, PyData.canLay0, bl_can r]
theorem bl_depth : ∀ l : List Bool, PyData.depthAll (l.map PyData.bool) = 0
  | [] => rfl
  | _ :: r => by simp [PyData.depthAll, PyData.depth, bl_depth r]
theorem bl_shaped (l : List Bool) : SeqAt.shaped (.list (l.map PyData.bool)) = true := by
  simp [SeqAt.shaped, PyData.canLay0, PyData.depth, bl_can, bl_depth]
theorem bl_eqvAll : ∀ l : List Bool, PyData.eqvAll (l.map PyData.bool) (l.map PyData.bool) = true
  | [] => rfl
  | _ :: r => by simp [PyData.eqvAll, PyData.eqv, bl_eqvAll r]
section
variable {prog : Program} {w : World} {A : Around} {E : Value → Shared → Prop} {s : Shared} {a b : Addr} {x y z u : Bool} {Q : Value → Shared → Prop}
theorem bl_ne {l : List Bool} (ra : s.heap.IsList a (l.map Value.bool).toArray) (rb : s.heap.IsList b (l.map Value.bool).toArray) (hu : A.units + 64 < cLine) (h : Q (.bool false) s) :
    wpAny (model prog w) A (compareOp .NotEq (.ref a) (.ref b)) Q E s := by
  obtain ⟨o, ho, hc, n, hd⟩ := ra
  obtain ⟨o2, ho2, hc2, n2, hd2⟩ := rb
  exact SeqAt.compareNe_shaped (.list ho hc hd bl_reads) (.list ho2 hc2 hd2 bl_reads) (bl_shaped l) (bl_shaped l) hu (by rw [show PyData.eqv (.list (l.map PyData.bool)) (.list (l.map PyData.bool)) = true by simp [PyData.eqv, bl_eqvAll]]; exact h)
theorem bl_eq {l : List Bool} (ra : s.heap.IsList a (l.map Value.bool).toArray) (rb : s.heap.IsList b (l.map Value.bool).toArray) (hu : A.units + 64 < cLine) (h : Q (.bool true) s) :
    wpAny (model prog w) A (compareOp .Eq (.ref a) (.ref b)) Q E s := by
  obtain ⟨o, ho, hc, n, hd⟩ := ra
  obtain ⟨o2, ho2, hc2, n2, hd2⟩ := rb
  exact SeqAt.compareEq_shaped (.list ho hc hd bl_reads) (.list ho2 hc2 hd2 bl_reads) (bl_shaped l) (bl_shaped l) hu (by rw [show PyData.eqv (.list (l.map PyData.bool)) (.list (l.map PyData.bool)) = true by simp [PyData.eqv, bl_eqvAll]]; exact h)
theorem bl_ne2 (ra : s.heap.IsList a #[.bool x, .bool y]) (rb : s.heap.IsList b #[.bool x, .bool y]) (hu : A.units + 64 < cLine) (h : Q (.bool false) s) :
    wpAny (model prog w) A (compareOp .NotEq (.ref a) (.ref b)) Q E s := bl_ne (l := [x, y]) ra rb hu h
theorem bl_eq4 (ra : s.heap.IsList a #[.bool x, .bool y, .bool z, .bool u]) (rb : s.heap.IsList b #[.bool x, .bool y, .bool z, .bool u]) (hu : A.units + 64 < cLine) (h : Q (.bool true) s) :
    wpAny (model prog w) A (compareOp .Eq (.ref a) (.ref b)) Q E s := bl_eq (l := [x, y, z, u]) ra rb hu h
end
local macro_rules | `(tactic| walk_at "compareOp NotEq ref ref") => row [tTo `bl_ne2 [bL, bL, bU, bH]]
local macro_rules | `(tactic| walk_at "compareOp Eq ref ref") => row [tTo `bl_eq4 [bL, bL, bU, bH]]
section
variable {prog : Program} {w : World} {A : Around} {E : Value → Shared → Prop} {s : Shared} {env : Env} {h₀ : Heap} {L : Addr} {m : Str → Option Value}
theorem bools_of : ∀ {vs : List Value} {l : List Bool}, CarriedAll vs (l.map PyData.bool) → vs = l.map Value.bool
  | _, [], .nil => rfl
  | _, _ :: _, .cons (.bool _) r => by rw [List.map_cons, bools_of r]
inductive CeltPost (g : Str → Bool) (y : Str) (s₂ : Shared) (v : Value) (s₃ : Shared) : Prop
  | mk (b : Bool) (h' : Heap) (tk' : Nat) (e1 : b = g y) (e2 : v = .bool b) (e3 : s₃ = { s₂ with heap := h', toks := tk' }) (k : s₂.heap.StaysIn h')
inductive CwPost (prog : Program) (w : World) (A : Around) (env : Env) (h₀ : Heap) (L : Addr) (m : Str → Option Value) (elt : Expr) (x : Str) (scope : Scope) (cl : List (Str × Addr)) (Q : Value → Shared → Prop) (g : Str → Bool) (xv : Value) (s₁ : Shared) : Prop
  | mk (news : List (Addr × Obj)) (ax : Addr) (t1 t2 t3 t4 : Tok) (e : xv = .ref ax) (hl : s₁.heap.IsList ax [Value.str (Str.ofString "a") t1, .str (Str.ofString "b") t2, .str (Str.ofString "c") t3, .str (Str.ofString "d") t4].toArray) (F : Fr h₀ L s₁.heap m) (N : News h₀ L s₁.heap news)
      (elt' : ∀ C y t s₂ m₂ E', s₁.heap.objs.size ≤ C → Heap.Ns s₂.heap C m₂ → m₂ x = some (.str y t) → (∀ b o, s₁.heap.get? b = some o → s₂.heap.get? b = some o) →
        wpAny (model prog w) A (eval elt (compEnvC scope cl C env)) (CeltPost g y s₂) E' s₂)
      (go : ∀ D n h' tk, Fr h₀ L h' m → News h₀ L h' ((D, listOf #[.bool (g (Str.ofString "a")), .bool (g (Str.ofString "b")), .bool (g (Str.ofString "c")), .bool (g (Str.ofString "d"))] n) :: news) → (∀ q ∈ news, q.1 ≠ D) → Q (.ref D) { s₁ with heap := h', toks := tk })
theorem comp_words {elt iter : Expr} {x : Str} {px : Pos} {scope : Scope} {cl : List (Str × Addr)} {pos : Pos} {Q : Value → Shared → Prop} (g : Str → Bool) (_F : Fr h₀ L s.heap m)
    (hh : A.handled = none) (hclos : closureFor scope env = pure cl) (hcell : ∀ y ∈ scope.names, y.2 ≠ .cell) (hkind : scope.kind = .function)
    (hnames : ∀ y ∈ scope.names, y.2 = .local → scope.names.lookup y.1 = some .local) (hx : scope.names.lookup x = some .local)
    (h : wpAny (model prog w) A (eval iter env) (CwPost prog w A env h₀ L m elt x scope cl Q g) E s)
    (hs : ∀ x, foldedSetIterable iter env x = pure x) :
    wpAny (model prog w) A (eval (.ListComp elt [⟨.Name x px, iter, [], 0⟩] scope pos) env) Q E s := by
  refine ListComp_DCn (h₀ := h₀) (L := L) (m := m) (K := ItemKind.str) (pz := fun _ => true) (d := fun y => PyData.bool (g y)) hh hclos hcell hkind hnames hx (wpAny_mono h (fun xv s₁ h₁ => ?_) fun _ _ e => e) hs
  obtain ⟨news, ax, t1, t2, t3, t4, rfl, hl, F, N, helt, hQ⟩ := h₁
  refine ⟨news, ax, _, [Str.ofString "a", Str.ofString "b", Str.ofString "c", Str.ofString "d"], rfl, hl, .cons ⟨_, rfl⟩ (.cons ⟨_, rfl⟩ (.cons ⟨_, rfl⟩ (.cons ⟨_, rfl⟩ .nil))), by rw [sizeLine_eq]; decide, F, N, ?_, ?_, ?_⟩
  · intro C a v s₂ m₂ E' _ _ _ _ _ _
    rw [List.forIn_nil]
    exact wpAny_pure ⟨rfl, _, _, rfl, fun _ _ e => e⟩
  · intro C a v s₂ m₂ E' hC _ hv _ hn hm hk
    obtain ⟨t, rfl⟩ := hv
    refine wpAny_mono (helt C a t s₂ m₂ E' hC hn hm hk) (fun v s₃ h₃ => ?_) fun _ _ e => e
    obtain ⟨b, h', tk', rfl, rfl, rfl, k⟩ := h₃
    exact ⟨.bool _, _, _, rfl, k⟩
  · intro D ys h' tk F' N' hD _ hp hc
    have e : ys = [Value.bool (g (Str.ofString "a")), .bool (g (Str.ofString "b")), .bool (g (Str.ofString "c")), .bool (g (Str.ofString "d"))] := bools_of (l := [g (Str.ofString "a"), g (Str.ofString "b"), g (Str.ofString "c"), g (Str.ofString "d")]) (by simpa [List.filter] using hc)
    subst e
    obtain ⟨⟨n, ho⟩, off⟩ := hp
    refine hQ D n h' tk F' (fun q hq => ?_) off
    rcases List.mem_cons.mp hq with rfl | hq
    · refine ⟨ho, ?_, hD⟩
      rintro rfl
      obtain ⟨oL, es, ep, hL, hLd, _⟩ := F'.ns
      rw [ho] at hL; cases hL; cases hLd
    · exact N' q hq
end
local macro_rules | `(tactic| walk_at "eval ListComp") => stop
section
variable {M : Model} {A : Around} {E : Value → Shared → Prop} {s : Shared} {h₀ : Heap} {L : Addr} {m : Str → Option Value} {news : List (Addr × Obj)} {env : Env} {x : Str} {pos : Pos} {v : Value} {Q : Value → Shared → Prop} {c : Addr} {o : Obj}
theorem nameE_L (F : Fr h₀ L s.heap m) (hL : env.locals = L) (hv : m x = some v) (h : Q v s) (hk : env.scope.kind = .function) (hx : env.kindOf x = some .local) (hd : (x == ("__debug__" : Str)) = false := by decide) :
    wpAny M A (eval (.Name x pos) env) Q E s := wpAny_Name (wpAny_loadName_local hk hx (hL ▸ F.ns) hv h) hd
theorem nameE_C (N : News h₀ L s.heap news) (hc : env.cells.lookup x = some c) (hm : (c, o) ∈ news) (hd : o.data = .cell (some v)) (h : Q v s) (hk : env.scope.kind = .function) (hx : env.kindOf x = some .cell) (hb : (x == ("__debug__" : Str)) = false := by decide) :
    wpAny M A (eval (.Name x pos) env) Q E s := wpAny_Name (wpAny_loadName_cell hk hx hc ⟨o, N.get hm, hd⟩ h) hb
theorem fr_comp {h₁ h₂ : Heap} {C : Addr} {m₂ : Str → Option Value} (F : Fr h₀ L h₁ m) (hC : h₁.objs.size ≤ C) (hn : h₂.Ns C m₂) (k : ∀ b o, h₁.get? b = some o → h₂.get? b = some o) : Fr h₀ C h₂ m₂ :=
  ⟨hn, fun b o e => k b o (F.keep b o e), Nat.le_trans F.above (Nat.le_trans (Nat.le_of_lt F.ns.lt) hC)⟩
theorem news_comp {h₁ h₂ : Heap} {C : Addr} (N : News h₀ L h₁ news) (hC : h₁.objs.size ≤ C) (k : ∀ b o, h₁.get? b = some o → h₂.get? b = some o) : News h₀ C h₂ news :=
  fun q hq => ⟨k _ _ (N q hq).1, Nat.ne_of_lt (Nat.lt_of_lt_of_le (Heap.lt_size (N q hq).1) hC), (N q hq).2.2⟩
end
local macro_rules | `(tactic| walk_at "eval Name") => row [tDflt (tFirst [tSeq [tRfq (ap `nameE_L [bK, bR, bLt, bH, bR, bR]), tWhole], tSeq [tRfq (ap `nameE_C [bK, bR, bM, bK, bH, bR, bR]), tWhole]])]
section
variable {prog : Program} {w : World} {p : Program} {loose : List Str} {mean : ExcName → Option Value} {mg mb : Str → Option Value} {row : List Tok0} {aRow : Addr} {ts rs : List Addr}
  {dp un : Nat} {fr : Option (List Env)} {gd : Option (List Code)} {s : Shared} {Q E : Value → Shared → Prop}
  {aR dR aT aSc aCl aS aM aSS : Addr} {kt : Nat → Tok} {tb : Value} {pl j : Nat} {tp tq : Tok} {nd ba : Bool} {n nM : Nat} {oS : Obj} {sc : List Sc}
theorem agrees_at (C : Cx w p loose mean mg mb row aT aRow ts rs s.heap) (hr : dp + 8 < recursionLimit) (hu : un + 100 < cLine)
    (hi : s.heap.get? aR = some (instObj 188 dR)) (hdR : s.heap.get? dR = some (rdDict w kt aT tb pl tp (.ref (adr ts j)) aSc aCl nd ba n))
    (hS : s.heap.get? aS = some oS) (hdS : oS.IsDictOf (strKind prog w) (stKvs aRow pl tq (.ref (adr rs j)) aM aSS))
    (hM : s.heap.get? aM = some (listOf #[.bool nd, .bool ba] nM)) (S : ScsAt s.heap aSc aCl sc) (T' : StsAt s.heap aSS sc)
    (h : ∀ h' tk', s.heap.StaysIn h' → Q (.bool true) { s with heap := h', toks := tk' }) :
    wpAny (model prog w) (ar dp un fr gd) (call (.ref 291) [.ref aR, .ref aS]) Q E s := by
  refine wpAny_call ?_
  have B := C.base
  obtain ⟨X, T⟩ := id B
  ktd_step
  intro L h₁ tk cells m0 hm0 F N' Y
  obtain ⟨o1, o2, rfl, d1, d2⟩ := CellsAre.two Y
  clear Y
  have d1 : o1.data = .cell (some (.ref aS)) := d1
  have d2 : o2.data = .cell (some (.ref aR)) := d2
  dsimp only
  k_unmd
  k_fold
  have ok1 := C.okAt pl
  have ok2 := C.okAt j
  obtain ⟨r1, r2, r3, hr1⟩ := C.rowAt pl
  obtain ⟨r4, r5, r6, hr2⟩ := C.rowAt j
  k_steps
  rename Fr _ _ _ _ => kF
  (with_unfolding_all refine comp_words (known sc) kF rfl (by rfl) (by decide) rfl (by decide) rfl ?_ (fun _ => rfl))
  k_steps
  rename Fr _ _ _ _ => kF
  rename News _ _ _ _ => kN
  refine ⟨_, _, _, _, _, _, rfl, list_news kN (.head _), kF, kN, ?_, ?_⟩
  · intro C y t s₂ m₂ E' hC hn hm hk
    have F₂ := fr_comp kF hC hn hk
    have N₂ := news_comp kN hC hk
    k_steps
    exact ⟨_, _, _, by assumption, rfl, rfl, by assumption⟩
  · intro D n h' tk F₂ N₂ off
    k_steps
    (try clear kN); (try clear kF)
    rename Fr _ _ _ _ => kF
    (with_unfolding_all refine comp_words (known sc) kF rfl (by rfl) (by decide) rfl (by decide) rfl ?_ (fun _ => rfl))
    k_steps
    (try clear kF); (try clear N₂); (try clear F₂)
    rename Fr _ _ _ _ => kF
    rename News _ _ _ _ => kN
    refine ⟨_, _, _, _, _, _, rfl, list_news kN (.head _), kF, kN, ?_, ?_⟩
    · intro C y t s₂ m₂ E' hC hn hm hk
      have F₂ := fr_comp kF hC hn hk
      have N₂ := news_comp kN hC hk
      k_steps
      exact ⟨_, _, _, by assumption, rfl, rfl, by assumption⟩
    · intro D' n' h' tk F₂ N₂ off
      k_steps
      exact h _ _ (Fr.keep (by assumption))
end

theorem upd_keep {h₀ h h' : Heap} {L d : Addr} {m : Str → Option Value} {o o' : Obj} {news : List (Addr × Obj)} {gf : Obj → List (Addr × Obj)} (F : Fr h₀ L h m) (N : News h₀ L h news) (k : KeepsBut [d] h h') (e : h'.get? d = some o') (U : UpdF d o news gf) :
    Fr h₀ L h' m ∧ News h₀ L h' (gf o') := by
  obtain ⟨own, rest, rfl, hg, h1, h2⟩ := U.split
  have hm := N (d, o) (List.mem_append_right _ (.head _))
  refine ⟨⟨F.ns.at' fun o₂ e₂ => k _ _ e₂ (by simpa using Ne.symm hm.2.1), fun b o₂ e₂ => k _ _ (F.keep _ _ e₂) (by simp; rintro rfl; rw [hm.2.2] at e₂; cases e₂), F.above⟩, ?_⟩
  rw [hg]
  intro q hq
  rcases List.mem_append.mp hq with hq | hq
  · have n := N q (List.mem_append_left _ hq)
    exact ⟨k _ _ n.1 (by simpa using h1 q hq), n.2⟩
  · rcases List.mem_cons.mp hq with rfl | hq
    · exact ⟨e, hm.2⟩
    · have n := N q (List.mem_append_right _ (.tail _ hq))
      exact ⟨k _ _ n.1 (by simpa using h2 q hq), n.2⟩
theorem upd_keepK {G : Prop} {h₀ h h' : Heap} {L d : Addr} {m : Str → Option Value} {o o' : Obj} {news : List (Addr × Obj)} {gf : Obj → List (Addr × Obj)} (F : Fr h₀ L h m) (N : News h₀ L h news) (k : KeepsBut [d] h h') (e : h'.get? d = some o') (U : UpdF d o news gf)
    (go : Fr h₀ L h' m → News h₀ L h' (gf o') → G) : G := go (upd_keep F N k e U).1 (upd_keep F N k e U).2
theorem at_of1 {h₀ h : Heap} {L : Addr} {m : Str → Option Value} {news : List (Addr × Obj)} {q1 : Addr × Obj} (F : Fr h₀ L h m) (N : News h₀ L h news) (m1 : q1 ∈ news) : At h₀ h [q1] :=
  ⟨F.keep, fun q hq => by rcases List.mem_singleton.mp hq with rfl; exact ⟨(N _ m1).1, (N _ m1).2.2⟩⟩
theorem at_of2 {h₀ h : Heap} {L : Addr} {m : Str → Option Value} {news : List (Addr × Obj)} {q1 q2 : Addr × Obj} (F : Fr h₀ L h m) (N : News h₀ L h news) (m1 : q1 ∈ news) (m2 : q2 ∈ news) : At h₀ h [q1, q2] :=
  ⟨F.keep, fun q hq => by
    rcases List.mem_cons.mp hq with rfl | hq
    · exact ⟨(N _ m1).1, (N _ m1).2.2⟩
    · rcases List.mem_singleton.mp hq with rfl; exact ⟨(N _ m2).1, (N _ m2).2.2⟩⟩
/-- what a callee that writes upon one object of its two leaves -/
theorem keeps_but {h₀ h g h' : Heap} {L : Addr} {m : Str → Option Value} {a d : Addr} {oa od : Obj} (hA : At h₀ h [(a, oa), (d, od)]) (kp : KeepsBut ([(a, oa), (d, od)].map (·.1)) h g) (F : Fr g L h' m) (e : h'.get? a = some oa) : KeepsBut [d] h h' := fun b o hb nb => by
  by_cases z : b = a
  · subst z
    rw [(hA.2 _ (.head _)).1] at hb; cases hb; exact e
  · exact F.keep _ _ (kp b o hb (by simp at nb ⊢; exact ⟨z, nb⟩))
theorem stays_but {h₀ h g h' : Heap} {L : Addr} {m : Str → Option Value} {a d : Addr} {oa od : Obj} (hA : At h₀ h [(a, oa), (d, od)]) (kp : KeepsBut ([(a, oa), (d, od)].map (·.1)) h g) (F : Fr g L h' m) (e : h'.get? a = some oa) (e' : h'.get? d = some od) : h.StaysIn h' := fun b o hb => by
  by_cases z : b = d
  · subst z
    rw [(hA.2 _ (.tail _ (.head _))).1] at hb; cases hb; exact e'
  · exact keeps_but hA kp F e b o hb (by simpa using z)
theorem keeps_but1 {h g h' : Heap} {L : Addr} {m : Str → Option Value} {d : Addr} {od : Obj} (kp : KeepsBut ([(d, od)].map (·.1)) h g) (F : Fr g L h' m) : KeepsBut [d] h h' := fun b o hb nb => F.keep _ _ (kp b o hb nb)
local macro_rules | `(tactic| k_ne) => tSeq [tDs, tFirst [tWA, tEx (ap `Ne.symm [bW]), tSeq [tRf (ap `neN [bH]), tOm]]]
section
variable {prog : Program} {w : World} {p : Program} {loose : List Str} {mean : ExcName → Option Value} {mg mb : Str → Option Value} {row : List Tok0} {aRow : Addr} {ts rs : List Addr}
  {dp un : Nat} {fr : Option (List Env)} {gd : Option (List Code)} {s : Shared} {Q E : Value → Shared → Prop} {h₀ : Heap}
  {aR dR aT aSc aCl aS aM aSS aB : Addr} {kt : Nat → Tok} {tb last : Value} {pl j : Nat} {tp tq : Tok} {nd ba : Bool} {n nM : Nat} {oS : Obj} {sc : List Sc}
theorem take_at (C : Cx w p loose mean mg mb row aT aRow ts rs h₀) (hA : At h₀ s.heap [(aR, instObj 188 dR), (dR, rdDict w kt aT tb pl tp last aSc aCl nd ba n)]) (hne : aR ≠ dR) (hr : dp + 4 < recursionLimit)
    (h : ∀ tp' h' tk', KeepsBut [dR] s.heap h' → h'.get? dR = some (rdDict w kt aT tb ((pl + 1 : Nat) : Int) tp' (.ref (adr ts pl)) aSc aCl nd ba n) → Q (.ref (adr ts pl)) { s with heap := h', toks := tk' }) :
    wpAny (model prog w) (ar dp un fr gd) (call (.ref 83) [.ref aR]) Q E s := by
  refine wpAny_call ?_
  have B := C.base
  ktr_enter
  intro g L h₁ m0 hm0 F N' X T st hlt kp
  have C' := C.keeps st
  dsimp only
  k_unmd
  k_fold
  k_steps
  all_goals ((rename Fr _ _ _ _ => kF); (rename News _ _ _ _ => kN); exact h _ _ _ (keeps_but hA kp kF (News.get kN (.head _))) (News.get kN (.tail _ (.head _))))
theorem moved_at (C : Cx w p loose mean mg mb row aT aRow ts rs h₀) (hA : At h₀ s.heap [(aS, oS)]) (hd : oS.IsDictOf (strKind prog w) (stKvs aRow pl tp last aM aSS)) (hr : dp + 4 < recursionLimit)
    (h : ∀ oS' tp' h' tk', KeepsBut [aS] s.heap h' → h'.get? aS = some oS' → oS'.IsDictOf (strKind prog w) (stKvs aRow ((pl + 1 : Nat) : Int) tp' (.ref (adr rs pl)) aM aSS) → Q (.ref (adr rs pl)) { s with heap := h', toks := tk' }) :
    wpAny (model prog w) (ar dp un fr gd) (call (.ref 286) [.ref aS]) Q E s := by
  refine wpAny_call ?_
  have B := C.base
  ktr_enter
  intro g L h₁ m0 hm0 F N' X T st hlt kp
  have C' := C.keeps st
  dsimp only
  k_unmd
  k_fold
  k_steps
  all_goals ((rename Fr _ _ _ _ => kF); (rename News _ _ _ _ => kN); exact h _ _ _ _ (keeps_but1 kp kF) (News.get kN (.head _)) (by assumption))
end
local macro_rules | `(tactic| ktf_step) => tSeq [tF, tNw, tW (tName `kK₉ (ap `KeepsBut [b_, b_, b_])), tName `kE₉ `(Heap.get? _ _ = some _), tRf (ap `upd_keepK [(ap `kF₉ []), (ap `kN₉ []), (ap `kK₉ []), (ap `kE₉ []), bF, bH]), tIntro [`F₉, `N₉], tAtN, tClear [`kK₉, `kE₉], tSweep]
local macro_rules | `(tactic| walk_at "call ref") => row [tAt 83, tTo `take_at [bA, bAt2, bA, bRoom, bH], tIntros, tStep]
local macro_rules | `(tactic| walk_at "call ref") => row [tAt 286, tTo `moved_at [bA, bAt1, bA, bRoom, bH], tIntros, tStep]

/-- behind the line ends: the place, and the place taken last -/
noncomputable def skipF (row : List Tok0) : Nat → Nat → Nat → Nat × Nat
  | 0, p, j => (p, j)
  | k + 1, p, j => if p < row.length ∧ (cur row p).kind = Str.ofString "nl" then skipF row k (p + 1) p else (p, j)
noncomputable def skipTo (row : List Tok0) (p j : Nat) : Nat × Nat := skipF row (row.length - p) p j
theorem skip_go {row : List Tok0} {p j : Nat} (h1 : p < row.length) (h2 : (cur row p).kind = Str.ofString "nl") : skipTo row p j = skipTo row (p + 1) p := by
  have e : row.length - p = (row.length - (p + 1)) + 1 := by omega
  rw [skipTo, e]; exact if_pos ⟨h1, h2⟩
theorem skip_end {row : List Tok0} {p j : Nat} (h2 : ¬ (cur row p).kind = Str.ofString "nl") : skipTo row p j = (p, j) := by
  rw [skipTo]
  cases row.length - p with
  | zero => rfl
  | succ k => exact if_neg fun h => h2 h.2
theorem isNl {t : Tok0} {k : Str} : isTok t k none = decide (t.kind = k) := by rw [isTok]; simp
section
variable {prog : Program} {w : World} {p : Program} {loose : List Str} {mean : ExcName → Option Value} {mg mb : Str → Option Value} {row : List Tok0} {aRow : Addr} {ts rs : List Addr}
  {dp un : Nat} {fr : Option (List Env)} {gd : Option (List Code)} {s : Shared} {Q E : Value → Shared → Prop} {h₀ : Heap}
  {aR dR aT aSc aCl aS aM aSS aB : Addr} {kt : Nat → Tok} {tb last : Value} {pl j : Nat} {tp tq : Tok} {nd ba : Bool} {n nM : Nat} {oS : Obj} {sc : List Sc}
theorem accept_at {k : Str} {v : Option Str} {tk tv : Tok} (C : Cx w p loose mean mg mb row aT aRow ts rs h₀) (hA : At h₀ s.heap [(aR, instObj 188 dR), (dR, rdDict w kt aT tb pl tp last aSc aCl nd ba n)]) (hne : aR ≠ dR) (hr : dp + 6 < recursionLimit)
    (h1 : isTok (cur row pl) k v = true → ∀ tp' h' tk', KeepsBut [dR] s.heap h' → h'.get? dR = some (rdDict w kt aT tb ((pl + 1 : Nat) : Int) tp' (.ref (adr ts pl)) aSc aCl nd ba n) → Q (.ref (adr ts pl)) { s with heap := h', toks := tk' })
    (h2 : isTok (cur row pl) k v = false → ∀ h' tk', s.heap.StaysIn h' → Q .none { s with heap := h', toks := tk' }) :
    wpAny (model prog w) (ar dp un fr gd) (call (.ref 99) [.ref aR, .str k tk, sv v tv]) Q E s := by
  refine wpAny_call ?_
  have B := C.base
  have X0 := Frag.In.keeps B.X hA.1
  ktr_enter
  intro g L h₁ m0 hm0 F N' X T st hlt kp
  have C' := C.keeps st
  dsimp only
  k_unmd
  k_fold
  k_steps
  · rename _ = isTok _ _ _ => e1
    rename _ = true => e2
    rename Fr _ _ _ _ => kF
    rename News _ _ _ _ => kN
    exact h1 (e1.symm.trans e2) _ _ _ (keeps_but hA kp kF (News.get kN (.head _))) (News.get kN (.tail _ (.head _)))
  · rename _ = isTok _ _ _ => e1
    rename _ = false => e2
    rename Fr _ _ _ _ => kF
    rename News _ _ _ _ => kN
    exact h2 (e1.symm.trans e2) _ _ (stays_but hA kp kF (News.get kN (.head _)) (News.get kN (.tail _ (.head _))))
theorem expect_yes {k : Str} {v : Option Str} {tk tv : Tok} (C : Cx w p loose mean mg mb row aT aRow ts rs h₀) (hA : At h₀ s.heap [(aR, instObj 188 dR), (dR, rdDict w kt aT tb pl tp last aSc aCl nd ba n)]) (hne : aR ≠ dR) (hr : dp + 6 < recursionLimit)
    (hb : isTok (cur row pl) k v = true)
    (h1 : ∀ tp' h' tk', KeepsBut [dR] s.heap h' → h'.get? dR = some (rdDict w kt aT tb ((pl + 1 : Nat) : Int) tp' (.ref (adr ts pl)) aSc aCl nd ba n) → Q (.ref (adr ts pl)) { s with heap := h', toks := tk' }) :
    wpAny (model prog w) (ar dp un fr gd) (call (.ref 107) [.ref aR, .str k tk, sv v tv]) Q E s := by
  refine wpAny_call ?_
  have B := C.base
  have X0 := Frag.In.keeps B.X hA.1
  ktr_enter
  intro g L h₁ m0 hm0 F N' X T st hlt kp
  have C' := C.keeps st
  dsimp only
  k_unmd
  k_fold
  k_steps
  all_goals first
    | ((rename _ = isTok _ _ _ => e1); (rename (_ : Bool) = false => e2); exact absurd (hb.symm.trans (e1.symm.trans e2)) (by decide))
    | ((rename Fr _ _ _ _ => kF); (rename News _ _ _ _ => kN); exact h1 _ _ _ (keeps_but hA kp kF (News.get kN (.head _))) (News.get kN (.tail _ (.head _))))
end

noncomputable def SkJ (w : World) (kt : Nat → Tok) (aT : Addr) (tb : Value) (aSc aCl : Addr) (nd ba : Bool) (n : Nat) (aR dR : Addr) (row : List Tok0) (ts : List Addr) (P j : Nat) (k : Nat) (m : Str → Option Value) (news : List (Addr × Obj)) : Prop :=
  ∃ p' j' tp', m (Str.ofString "self") = some (.ref aR) ∧ news = [(aR, instObj 188 dR), (dR, rdDict w kt aT tb ((p' : Nat) : Int) tp' (.ref (adr ts j')) aSc aCl nd ba n)] ∧ skipTo row p' j' = skipTo row P j ∧ k = row.length - p'
section
variable {prog : Program} {w : World} {p : Program} {loose : List Str} {mean : ExcName → Option Value} {mg mb : Str → Option Value} {row : List Tok0} {aRow : Addr} {ts rs : List Addr}
  {dp un : Nat} {fr : Option (List Env)} {gd : Option (List Code)} {s : Shared} {Q E : Value → Shared → Prop} {h₀ : Heap}
  {aR dR aT aSc aCl aS aM aSS aB : Addr} {kt : Nat → Tok} {tb last : Value} {pl j : Nat} {tp tq : Tok} {nd ba : Bool} {n nM : Nat} {oS : Obj} {sc : List Sc}
theorem Cx.notNl (C : Cx w p loose mean mg mb row aT aRow ts rs h₀) {i : Nat} (e : (cur row i).kind = Str.ofString "nl") : i < row.length := by
  rcases Nat.lt_or_ge i row.length with h | h
  · exact h
  · exact absurd e (C.eof i (by omega))
theorem skip_at (C : Cx w p loose mean mg mb row aT aRow ts rs h₀) (hA : At h₀ s.heap [(aR, instObj 188 dR), (dR, rdDict w kt aT tb pl tp (.ref (adr ts j)) aSc aCl nd ba n)]) (hne : aR ≠ dR) (hr : dp + 6 < recursionLimit)
    (h : ∀ tp' h' tk', KeepsBut [dR] s.heap h' → h'.get? dR = some (rdDict w kt aT tb (((skipTo row pl j).1 : Nat) : Int) tp' (.ref (adr ts (skipTo row pl j).2)) aSc aCl nd ba n) → Q .none { s with heap := h', toks := tk' }) :
    wpAny (model prog w) (ar dp un fr gd) (call (.ref 121) [.ref aR]) Q E s := by
  refine wpAny_call ?_
  have B := C.base
  have X0 := Frag.In.keeps B.X hA.1
  ktr_enter
  intro g L h₁ m0 hm0 F N' X T st hlt kp
  have C' := C.keeps st
  dsimp only
  k_unmd
  k_fold
  k_steps
  (refine While_inv2 (SkJ w kt aT tb aSc aCl nd ba n aR dR row ts pl j) (n₀ := row.length - pl) (by assumption) (by assumption) ⟨pl, j, tp, by ktn_lt, rfl, rfl, rfl⟩ ?_)
  intro k m₁ news₁ h₂ tk₁ F₁ N₁ J₁
  obtain ⟨p', j', tp', j1, rfl, j3, rfl⟩ := J₁
  clear F N'
  dsimp only
  k_unmd
  k_fold
  k_steps
  · rename _ = isTok _ _ _ => e1
    rename _ = true => e2
    rename Fr _ _ _ _ => kF
    rename News _ _ _ _ => kN
    have e3 := e1.symm.trans e2
    rw [isNl] at e3
    have e4 := of_decide_eq_true e3
    have e5 := C.notNl e4
    exact ⟨_, _, _, _, row.length - (p' + 1), rfl, kF, kN, by omega, p' + 1, p', _, j1, rfl, (skip_go e5 e4).symm.trans j3, rfl⟩
  · rename _ = isTok _ _ _ => e1
    rename _ = false => e2
    rename Fr _ _ _ _ => kF
    rename News _ _ _ _ => kN
    have e3 := e1.symm.trans e2
    rw [isNl] at e3
    have e4 := j3.symm.trans (skip_end (j := j') (of_decide_eq_false e3))
    rw [e4] at h
    exact h _ _ _ (keeps_but hA kp kF (News.get kN (.head _))) (News.get kN (.tail _ (.head _)))
end
local macro_rules | `(tactic| walk_at "call ref") => row [tAt 121, tTo `skip_at [bA, bAt2, bA, bRoom, bH], tIntros, tStep]
local macro_rules | `(tactic| walk_at "call ref") => row [tAt 107, tTo `expect_yes [bA, bAt2, bA, bRoom, bA, bH], tIntros, tStep]

noncomputable abbrev boxObj (b0 b1 b2 : Int) (t0 t1 t2 : Tok) (n : Nat) : Obj := listOf [.int b0 t0, .int b1 t1, .int b2 t2].toArray n
local macro_rules | `(tactic| walk_at "binaryOp Mult int int") => row [tRef `mul_int [bH, (ap `IntMulOk.of_right [(ap `intBits_le_64 [bOm, bOm])])]]
theorem fdiv_le {a b m : Int} (h0 : 0 ≤ a) (hm : 0 < b) (h : a < m) : 0 ≤ a.fdiv b ∧ a.fdiv b < m := by
  rw [Int.fdiv_eq_ediv_of_nonneg _ (Int.le_of_lt hm)]
  exact ⟨Int.ediv_nonneg h0 (Int.le_of_lt hm), Int.lt_of_le_of_lt (Int.ediv_le_self _ h0) h⟩
theorem fmod_in {a b : Int} (hm : 0 < b) : 0 ≤ a.fmod b ∧ a.fmod b < b := by
  rw [Int.fmod_eq_emod_of_nonneg _ (Int.le_of_lt hm)]
  exact ⟨Int.emod_nonneg _ (by omega), Int.emod_lt_of_pos _ hm⟩
section
variable {prog : Program} {w : World} {p : Program} {loose : List Str} {mean : ExcName → Option Value} {mg mb : Str → Option Value}
theorem draw_at {dp un : Nat} {fr : Option (List Env)} {gd : Option (List Code)} {s : Shared} {h₀ : Heap} {aB : Addr} {b0 b1 b2 : Int} {t0 t1 t2 tm : Tok} {n : Nat} {many : Int} {Q E : Value → Shared → Prop}
    (hA : At h₀ s.heap [(aB, boxObj b0 b1 b2 t0 t1 t2 n)]) (B : Base w p loose mean mg mb h₀) (hr : dp + 2 < recursionLimit)
    (hb0 : 0 ≤ b0) (hb0' : b0 < 10 ^ 90) (hb1 : 0 ≤ b1) (hb1' : b1 < 10 ^ 17) (hm : 0 < many) (hm' : many < 100)
    (h : ∀ (d : Nat) t b0' b1' t0' t1' n' h' tk', 0 ≤ (d : Int) → (d : Int) < many → 0 ≤ b0' → b0' < 10 ^ 90 → 0 ≤ b1' → b1' ≤ b1 + 1 → KeepsBut [aB] s.heap h' → h'.get? aB = some (boxObj b0' b1' b2 t0' t1' t2 n') → Q (.int d t) { s with heap := h', toks := tk' }) :
    wpAny (model prog w) (ar dp un fr gd) (call (.ref 243) [.ref aB, .int many tm]) Q E s := by
  replace h : ∀ d t b0' b1' t0' t1' n' h' tk', 0 ≤ d → d < many → 0 ≤ b0' → b0' < 10 ^ 90 → 0 ≤ b1' → b1' ≤ b1 + 1 → KeepsBut [aB] s.heap h' → h'.get? aB = some (boxObj b0' b1' b2 t0' t1' t2 n') → Q (.int d t) { s with heap := h', toks := tk' } := fun d t b0' b1' t0' t1' n' h' tk' hd => by
    obtain ⟨d', rfl⟩ := Int.eq_ofNat_of_zero_le hd
    exact h d' t b0' b1' t0' t1' n' h' tk' hd
  refine wpAny_call ?_
  have X0 := Frag.In.keeps B.X hA.1
  ktr_enter
  intro g L h₁ m0 hm0 F N' X T st hlt kp
  dsimp only
  k_unmd
  k_fold
  k_steps
  all_goals ((rename Fr _ _ _ _ => kF); (rename News _ _ _ _ => kN); first
    | exact h _ _ _ _ _ _ _ _ _ (fmod_in hm).1 (fmod_in hm).2 (fdiv_le hb0 hm hb0').1 (fdiv_le hb0 hm hb0').2 hb1 (by omega) (keeps_but1 kp kF) (News.get kN (.head _))
    | exact h _ _ _ _ _ _ _ _ _ (fmod_in hm).1 (fmod_in hm).2 hb0 hb0' (by omega) (Int.le_refl _) (keeps_but1 kp kF) (News.get kN (.head _)))
end
local macro_rules | `(tactic| lcg_off) => tFirst [tWA, tA, tOm, tD, `(tactic| split <;> decide)]
local macro_rules | `(tactic| walk_at "call ref") => row [tAt 243, tTo `draw_at [bAt1, (bY (tFirst [tA, tEx (ap `Cx.base [bA])])), bRoom, bO, bO, bO, bO, bO, bO, bH], tIntros, tStep]

/-- a new exception of a class of the text's own -/
noncomputable abbrev excObj (C t : Addr) : Obj := { cls := .ref C, data := .fields #[.ref t, .none, .none, .none, .bool false, .none] }
inductive ExcAt (K : Frag) (C : Addr) : Prop
  | mk (nm q : Str) (N : Addr) (bs bm : List Value) (hdct : Bool) (sn : List Str) (sub : List Value) (ab : Bool) (col : Option Bool) (dd : Option Addr) (k0 k1 k2 k3 k5 : Option Value)
    (e1 : K.lookup C = some (excClassObj nm q C N bs bm hdct sn sub ab col dd k0 k1 k2 k3 k5 "ValueError.__new__")) (hcB : (Value.ref C :: bm).contains (.type "ValueError") = true) (hcA : (Value.ref C :: bm).contains (.type "AttributeError") = false)
    (hcN : (Value.ref C :: bm).contains (.type "NameError") = false) (hcE : (Value.ref C :: bm).contains (.type "BaseException") = true)
/-- what is known of such a class -/
structure ExcCls (K : Frag) (C : Addr) (fI : Addr) : Prop where
  at_ : ExcAt K C
  init : findIn K (.ref C) "__init__" = some (some (.ref fI))
  fn : typeIn K (.ref fI) = some (.type "function")
  mro : ∃ r, mroIn K C (.ref C) = some r ∧ r = true
section
variable {prog : Program} {w : World} {A : Around} {R : Result → Shared → Prop} {h : Heap} {g : Array GenState} {d : Drawn} {t : Nat} {os : OsState}
variable {nm q : Str} {C N : Addr} {bs bm : List Value} {hdct : Bool} {sn : List Str} {sub : List Value} {ab : Bool} {col : Option Bool} {dd : Option Addr} {k0 k1 k2 k3 k5 : Option Value}
theorem exc_check {M : Model} {E : Value → Shared → Prop} (hcB : (Value.ref C :: bm).contains (.type "ValueError") = true) {rest : List Value} {Q : Unit → Shared → Prop} (hC : h.get? C = some (excClassObj nm q C N bs bm hdct sn sub ab col dd k0 k1 k2 k3 k5 "ValueError.__new__"))
    (hq : Q () ⟨h, g, d, t, os⟩) : wpAny M A (checkBuiltinCall "ValueError.__new__" ⟨.ref C :: rest, []⟩) Q E ⟨h, g, d, t, os⟩ := by
  have F := PySem.F.excBase_ValueError
  have hstar := F.noStar
  simp only [checkBuiltinCall, F.newKind, F.newSplit, F.newRow]
  repeat (first | refine wpAny_loadPart_at hC ?_ | (refine wpAny_isSubtype_exc hC ?_; rw [hcB]) | refine wpAny_staticBase_exc hC ?_ | refine wpAny_madeBy_exc hC ?_ | simp only [bne_self_eq_false, Bool.false_eq_true, if_false] | wp_step)
  exact hq
theorem exc_new (hcB : (Value.ref C :: bm).contains (.type "ValueError") = true) (hcA : (Value.ref C :: bm).contains (.type "AttributeError") = false) (hcN : (Value.ref C :: bm).contains (.type "NameError") = false)
    {rest : List Value} (hC : h.get? C = some (excClassObj nm q C N bs bm hdct sn sub ab col dd k0 k1 k2 k3 k5 "ValueError.__new__"))
    (hq : R (.ok (.ret (.ref (h.objs.size + 1)))) ⟨(h.push { cls := .type "tuple", data := .seq rest.toArray }).push (excObj C h.objs.size), g, d, t, os⟩) (hrest : rest.length ≤ sizeLine) :
    codeAny (model prog w) A (.builtin "ValueError.__new__" ⟨.ref C :: rest, []⟩) R ⟨h, g, d, t, os⟩ := by
  have F := PySem.F.excBase_ValueError
  have hends := F.ends
  refine codeAny_builtinAt F.entry ?_
  unfold Builtin.«BaseException.__new__»
  refine PySem.wpAt_bind ?_
  show PySem.wpAt _ _ _ (stack >>= _) _ _ _
  refine PySem.wpAt_bind (PySem.wpAt_stack fun p below => PySem.wpAt_of_wpAny ?_)
  wp_walk
  refine PySem.wpAt_of_wpAny ?_
  rw [F.owner]
  repeat (first | with_reducible refine wpAny_madeHere_exc F.canon hC ?_ | with_reducible refine wpAny_loadPart_at hC ?_ | (with_reducible refine wpAny_isSubtype_exc hC ?_; first | rw [hcB] | rw [hcA] | rw [hcN]) | wp_step)
  show R _ _
  rw [Heap.size_push]
  exact hq
/-- calling the class: the new object, then its own __init__ -/
theorem exc_make {K : Frag} {fI : Addr} {rest : List Value} (X : K.In h) (Y : ExcCls K C fI) (hrest : rest.length ≤ 1000)
    (hq : codeAny (model prog w) (A.under (.builtin "type.__call__" ⟨.ref C :: rest, []⟩)) (.call (.ref fI) ⟨.ref (h.objs.size + 1) :: rest, []⟩) (InitBack (h.objs.size + 1) R) ⟨(h.push { cls := .type "tuple", data := .seq rest.toArray }).push (excObj C h.objs.size), g, d, t, os⟩) :
    codeAny (model prog w) A (.call (.ref C) ⟨rest, []⟩) R ⟨h, g, d, t, os⟩ := by
  obtain ⟨⟨nm, q, N, bs, bm, hdct, sn, sub, ab, col, dd, k0, k1, k2, k3, k5, e1, hcB, hcA, hcN, _⟩, hi, hf, r, hr, rfl⟩ := Y
  have hC := X _ _ e1
  have f1 := tc_lookup
  have f2 := tc_bind (.ref C)
  have hT : (⟨h, g, d, t, os⟩ : Shared).TypeIs (.ref C) "type" := ⟨_, hC, rfl⟩
  refine codeAny_of_tree ?_
  show wpAny _ _ (callAny (.ref C) _) _ _ _
  repeat (any_goals (first | assumption | with_reducible refine wpAny_loadPart_at hC ?_ | wp_step))
  refine ⟨rfl, ?_⟩
  refine codeAny_call_builtin_at (Code.quiet_builtin _ (by decide +kernel)) entry_typeCall (wpAny_check_type_call_sub hC ?_)
  have k : ∀ b o, h.get? b = some o → ((h.push { cls := .type "tuple", data := .seq rest.toArray }).push (excObj C h.objs.size)).get? b = some o := fun b o e => Heap.get?_push_of_some _ (Heap.get?_push_of_some _ e)
  have hx : ((h.push { cls := .type "tuple", data := .seq rest.toArray }).push (excObj C h.objs.size)).get? (h.objs.size + 1) = some (excObj C h.objs.size) := by heap_get
  have X' : K.In ((h.push { cls := .type "tuple", data := .seq rest.toArray }).push (excObj C h.objs.size)) := Frag.In.keeps X k
  unfold Builtin.«type.__call__»
  repeat (first | with_reducible refine wpAny_loadPart_at hC ?_ | with_reducible refine wpAny_madeBy_exc hC ?_ | wp_step)
  refine codeAny_call_builtin_code (Code.quiet_builtin _ PySem.F.excBase_ValueError.quiet) (exc_check hcB hC ?_)
  refine exc_new hcB hcA hcN hC ?_ (by rw [sizeLine_eq]; show rest.length ≤ _; omega)
  show wpAny _ _ _ _ _ ⟨(h.push { cls := .type "tuple", data := .seq rest.toArray }).push (excObj C h.objs.size), g, d, t, os⟩
  have t1 : Looks (model prog w) ((h.push { cls := .type "tuple", data := .seq rest.toArray }).push (excObj C h.objs.size)) (typeOf (.ref (h.objs.size + 1))) (.ref C) := (Looks.ld (part := none) hx).andThen .now
  have s1 := looks_mroIn (M := model prog w) X' hr
  have i1 := looks_findIn (M := model prog w) X' hi
  have b1 := bind_fn (M := model prog w) X' (.ref (h.objs.size + 1)) hf
  unfold isInstance callSpecial? specialOf
  repeat (first | with_reducible refine wpAny_call ?_ | lk)
  refine codeAny_mono hq fun r s' z => ?_
  rcases r with e | (v | _ | _ | _) <;> first | exact z | exact z.elim | skip
  obtain ⟨rfl, z⟩ := z
  exact wpAny_pure (wpAny_pure z)
end

theorem hide {G : Prop} (h : ∀ P : Prop, (G → P) → P) : G := h G id
/-- the frames' addresses -/
noncomputable abbrev fa (l : List Env) : List Addr := l.filterMap (·.frame)
/-- all that is not of `as` stays; frames of `fs` stay up to what hangs at them -/
noncomputable def Up (as fs : List Addr) (h h' : Heap) : Prop := ∀ b o, h.get? b = some o → b ∉ as → ∃ sl, h'.get? b = some { o with slots := sl } ∧ (b ∉ fs → sl = o.slots)
section
variable {as bs fs gs : List Addr} {h h₁ h₂ h' : Heap} {b : Addr} {o : Obj}
theorem Up.of_keeps (k : ∀ b o, h.get? b = some o → b ∉ as → h'.get? b = some o) : Up as fs h h' := fun b o e n => ⟨o.slots, k b o e n, fun _ => rfl⟩
theorem Up.refl : Up as fs h h := Up.of_keeps fun _ _ e _ => e
theorem Up.trans (x : Up as fs h h₁) (y : Up as fs h₁ h₂) : Up as fs h h₂ := fun b o e n => by
  obtain ⟨s1, e1, k1⟩ := x b o e n
  obtain ⟨s2, e2, k2⟩ := y b _ e1 n
  exact ⟨s2, e2, fun q => (k2 q).trans (k1 q)⟩
theorem Up.mono (x : Up as fs h h') (i1 : ∀ b, b ∈ as → b ∈ bs) (i2 : ∀ b, b ∈ fs → b ∈ gs) : Up bs gs h h' := fun b o e n => by
  obtain ⟨s1, e1, k1⟩ := x b o e fun q => n (i1 b q)
  exact ⟨s1, e1, fun q => k1 fun z => q (i2 b z)⟩
theorem Up.keep (x : Up as fs h h') (e : h.get? b = some o) (n : b ∉ as) (m : b ∉ fs) : h'.get? b = some o := by
  obtain ⟨s1, e1, k1⟩ := x b o e n
  rw [k1 m] at e1; exact e1
/-- what is not in the earlier heap need not be named -/
theorem Up.less {as' fs' : List Addr} (x : Up as' fs' h h') (i1 : ∀ b o, h.get? b = some o → b ∈ as' → b ∈ as) (i2 : ∀ b o, h.get? b = some o → b ∈ fs' → b ∈ fs) : Up as fs h h' := fun b o e n => by
  obtain ⟨s1, e1, k1⟩ := x b o e fun q => n (i1 b o e q)
  exact ⟨s1, e1, fun q => k1 fun z => q (i2 b o e z)⟩
theorem Up.after {L : Addr} {m : Str → Option Value} {g : Heap} (F : Fr g L h m) (x : Up as (L :: fs) h h') : Up as fs g h' := by
  refine (x.less (as := as) (fs := L :: fs) (fun _ _ _ q => q) fun _ _ _ q => q) |> fun x => ?_
  intro b o e n
  obtain ⟨s1, e1, k1⟩ := x b o (F.keep b o e) n
  refine ⟨s1, e1, fun q => k1 fun z => ?_⟩
  rcases List.mem_cons.mp z with rfl | z
  · exact absurd (Heap.lt_size e) (Nat.not_lt.mpr F.above)
  · exact q z
theorem frames_up {base : Heap} {l : List Env} (hl : h.FunFrames base l) (x : Up [] fs h h') : h'.FunFrames base l :=
  hl.of_keeps fun b o e _ => by
    obtain ⟨s1, e1, _⟩ := x b o e (by simp)
    exact ⟨_, e1, rfl⟩
theorem frames_upAs {base : Heap} : ∀ {l : List Env}, h.FunFrames base l → (∀ b ∈ fa l, b ∉ as) → Up as fs h h' → h'.FunFrames base l
  | [], _, _, _ => trivial
  | env :: l, ⟨hk, ⟨L, o, hf, hn, ho, hd⟩, hr⟩, hne, x => by
    have hm : L ∈ fa (env :: l) := List.mem_filterMap.mpr ⟨env, .head _, hf⟩
    obtain ⟨s1, e1, _⟩ := x L o ho (hne L hm)
    refine ⟨hk, ⟨L, _, hf, hn, e1, hd⟩, frames_upAs hr (fun b hb => hne b ?_) x⟩
    obtain ⟨env', h1, h2⟩ := List.mem_filterMap.mp hb
    exact List.mem_filterMap.mpr ⟨env', .tail _ h1, h2⟩
end

inductive ThrEx (C : Addr) (h₀ : Heap) (e : Addr) (ln : Value) (fl : Option Value) (h : Heap) : Prop
  | mk (vs : Array Value) (sl : Array (Option Value)) (de : Addr) (es : List DictEntry) (n : Nat) (a1 : h.get? e = some ⟨.ref C, some de, .fields vs, sl⟩) (a2 : 1 < vs.size) (a3 : h₀.get? de = none) (a4 : h.get? de = some (dictOf es n)) (a5 : getL "line" es = some (some ln))
    (a6 : match fl with
    | none => vs[1]? = some .none
    | some f => ∃ T oT ts, vs[1]? = some (.ref T) ∧ h₀.get? T = none ∧ T ≠ e ∧ h.get? T = some oT ∧ oT.data = .fields ts ∧ ts[3]? = some f)
/-- an exception of class C under way, with its line; fl: what its trace's head says (none: no trace yet) -/
structure Thr (C : Addr) (h₀ : Heap) (fs : List Addr) (e : Addr) (ln : Value) (fl : Option Value) (h : Heap) : Prop where
  up : Up [] fs h₀ h
  new : h₀.get? e = none
  ex : ThrEx C h₀ e ln fl h
section
variable {M : Model} {A : Around} {E : Value → Shared → Prop} {s : Shared} {h₀ B : Heap} {env : Env} {outer : List Env} {L C e : Addr} {ln : Value} {fl : Option Value} {Q : Unit → Shared → Prop}

theorem Thr.less {g : Heap} {fs gs : List Addr} {h : Heap} (x : Thr C h₀ fs e ln fl h) (up : Up [] gs g h) (k : ∀ b o, g.get? b = some o → h₀.get? b = some o) : Thr C g gs e ln fl h := by
  have nn : ∀ {b}, h₀.get? b = none → g.get? b = none := fun {b} q => by
    cases z : g.get? b with
    | none => rfl
    | some o => rw [k b o z] at q; cases q
  obtain ⟨_, n, vs, sl, de, es, nE, a1, a2, a3, a4, a5, a6⟩ := x
  refine ⟨up, nn n, vs, sl, de, es, nE, a1, a2, nn a3, a4, a5, ?_⟩
  cases fl with
  | none => exact a6
  | some f => obtain ⟨T, oT, ts, b1, b2, b3⟩ := a6; exact ⟨T, oT, ts, b1, nn b2, b3⟩

/-- a trace's new head -/
theorem thr_entry {head : Value} {hadNext : Bool} (hfr : A.frames = some (env :: outer)) (hl : h₀.FunFrames B (env :: outer)) (hf : env.frame = some L)
    (x : Up [] (fa (env :: outer)) h₀ s.heap) (n : h₀.get? e = none) {vs : Array Value} {sl : Array (Option Value)} {de : Addr} {es : List DictEntry} {nE : Nat}
    (a1 : s.heap.get? e = some ⟨.ref C, some de, .fields vs, sl⟩) (a2 : 1 < vs.size) (a3 : h₀.get? de = none) (a4 : s.heap.get? de = some (dictOf es nE)) (a5 : getL "line" es = some (some ln))
    (hQ : ∀ h', Thr C h₀ (fa (env :: outer)) e ln (some (rawInt L)) h' → Q () { s with heap := h' }) :
    wpAny M A (do let a ← frameOf env; let pl ← entryPlaceOf L hadNext; let b ← EntryCells.newEntry head a .none (rawInt L) .none pl; setField (.ref e) 1 b) Q E s := by
  have nofr : ∀ {b}, h₀.get? b = none → b ∉ fa (env :: outer) := fun {b} q m => by
    obtain ⟨_, o, ho, _⟩ := hl.mem m
    rw [q] at ho; cases ho
  refine wpAny_bind (wpAny_frameOf_fun hfr (frames_up hl x) hf fun h₁ hs₁ => ?_)
  refine wpAny_bind (wpAny_entryPlaceOf fun pl hpl => ?_)
  unfold EntryCells.newEntry newFields
  refine wpAny_bind (wpAny_newObj_type ?_ (hpl.sizeOk5 _ _ _ _ _))
  have e1 : h₁.get? e = some ⟨.ref C, some de, .fields vs, sl⟩ := (hs₁.2.1 e (nofr n)).trans a1
  have d1 : h₁.get? de = some (dictOf es nE) := (hs₁.2.1 de (nofr a3)).trans a4
  have up1 : Up [] (fa (env :: outer)) s.heap h₁ := fun b o q _ => by
    obtain ⟨s1, z⟩ := hs₁.2.2 b o q
    refine ⟨s1, z, fun nm => ?_⟩
    have := hs₁.2.1 b nm
    rw [z, q] at this
    exact congrArg Obj.slots (Option.some.inj this)
  generalize hnew : ({ cls := .type "traceback", dict := none, data := .fields ([head, .ref L, .none, rawInt L, .none] ++ (if pl.isEmpty then List.replicate 6 Value.none else pl)).toArray } : Obj) = oT
  have e2 := Heap.get?_push_of_some (h := h₁) oT e1
  refine wpAny_setField e2 rfl a2 (hQ _ ?_)
  have hTe : h₁.objs.size ≠ e := Nat.ne_of_gt (Heap.lt_size e1)
  have hde : de ≠ e := fun q => by
    subst q; rw [a1] at a4
    have q1 := congrArg Obj.data (Option.some.inj a4)
    cases q1
  have oT1 : oT.data = .fields ([head, .ref L, .none, rawInt L, .none] ++ (if pl.isEmpty then List.replicate 6 Value.none else pl)).toArray := by rw [← hnew]
  have notT : ∀ b o, h₁.get? b = some o → b ≠ e → ((h₁.push oT).update e (Obj.mapFields (·.setIfInBounds 1 (Value.ref h₁.objs.size)))).get? b = some o := fun b o q z => by
    rw [Heap.get?_update_other _ _ (Ne.symm z)]
    exact Heap.get?_push_of_some _ q
  have fresh : h₀.get? h₁.objs.size = none := by
    cases z : h₀.get? h₁.objs.size with
    | none => rfl
    | some o =>
      obtain ⟨_, z1, _⟩ := x _ _ z (by simp)
      obtain ⟨_, z2, _⟩ := up1 _ _ z1 (by simp)
      exact absurd (Heap.lt_size z2) (Nat.lt_irrefl _)
  refine ⟨?_, n, vs.setIfInBounds 1 (Value.ref h₁.objs.size), sl, de, es, nE, ?_, by simpa using a2, a3, notT _ _ d1 hde, a5, h₁.objs.size, oT, _, by simp [a2], fresh, hTe, ?_, oT1, ?_⟩
  · intro b o q nb
    obtain ⟨s1, z1, k1⟩ := (Up.trans x up1) b o q nb
    exact ⟨s1, notT b _ z1 (fun z => by rw [z, n] at q; cases q), k1⟩
  · exact Heap.get?_update_self _ e2 rfl
  · rw [Heap.get?_update_other _ _ (Ne.symm hTe)]
    exact Heap.get?_push_size _ (by rw [← hnew]; rfl)
  · first | (simp; done) | (rcases hpl with rfl | ⟨_, _, _, _, _, _, _, rfl⟩ <;> simp)

theorem thr_note (hfr : A.frames = some (env :: outer)) (hl : h₀.FunFrames B (env :: outer)) (hf : env.frame = some L) (hfl : fl = none ∨ fl = some .none)
    (x : Thr C h₀ (fa (env :: outer)) e ln fl s.heap) (hQ : ∀ h', Thr C h₀ (fa (env :: outer)) e ln (some (rawInt L)) h' → Q () { s with heap := h' }) :
    wpAny M A (noteFrame (.ref e) env) Q E s := by
  obtain ⟨up, n, vs, sl, de, es, nE, a1, a2, a3, a4, a5, a6⟩ := x
  unfold noteFrame
  simp only [hf]
  rcases hfl with rfl | rfl
  · refine wpAny_bind (wpAny_field a1 rfl a6 ?_)
    rw [if_neg (by decide)]
    exact thr_entry hfr hl hf up n a1 a2 a3 a4 a5 hQ
  · obtain ⟨T, oT, ts, b1, b2, b3, b4, b5, b6⟩ := a6
    refine wpAny_bind (wpAny_field a1 rfl b1 ?_)
    rw [if_pos (show (Value.ref T != Value.none) = true from by simp)]
    refine wpAny_bind (wpAny_field b4 b5 b6 ?_)
    rw [if_neg (show ¬ ((Value.none == rawInt L) = true) from by simp [rawInt])]
    refine wpAny_bind (wpAny_setField b4 b5 (Array.getElem?_eq_some_iff.mp b6).1 ?_)
    have other : ∀ b, b ≠ T → (s.heap.update T (Obj.mapFields (·.setIfInBounds 3 Value.none))).get? b = s.heap.get? b := fun b hb => Heap.get?_update_other _ _ (Ne.symm hb)
    have hde : de ≠ T := fun q => by
      subst q; rw [b4] at a4
      have q1 := congrArg Obj.data (Option.some.inj a4)
      rw [b5] at q1; cases q1
    refine thr_entry hfr hl hf ?_ n ((other e (Ne.symm b3)).trans a1) a2 a3 ((other de hde).trans a4) a5 hQ
    intro b o q nb
    obtain ⟨s1, z1, k1⟩ := up b o q nb
    exact ⟨s1, (other b fun z => by rw [z, b2] at q; cases q).trans z1, k1⟩
theorem thr_flight {fs : List Addr} {f : Value} (x : Thr C h₀ fs e ln (some f) s.heap) (hQ : ∀ h', Thr C h₀ fs e ln (some .none) h' → Q () { s with heap := h' }) :
    wpAny M A (setFlight (.ref e) none) Q E s := by
  obtain ⟨up, n, vs, sl, de, es, nE, a1, a2, a3, a4, a5, T, oT, ts, b1, b2, b3, b4, b5, b6⟩ := x
  have hsz3 : 3 < ts.size := (Array.getElem?_eq_some_iff.mp b6).1
  have other : ∀ b, b ≠ T → (s.heap.update T (Obj.mapFields (·.setIfInBounds 3 ((none : Option Addr).elim Value.none fun f => rawInt f)))).get? b = s.heap.get? b :=
    fun b hb => Heap.get?_update_other _ _ (Ne.symm hb)
  have hde : de ≠ T := fun q => by
    subst q; rw [b4] at a4
    have q1 := congrArg Obj.data (Option.some.inj a4)
    rw [b5] at q1; cases q1
  unfold setFlight
  refine wpAny_bind (wpAny_field a1 rfl b1 ?_)
  rw [if_pos (show (Value.ref T != Value.none) = true from by simp)]
  refine wpAny_setField b4 b5 hsz3 (hQ _ ⟨?_, n, vs, sl, de, es, nE, (other e (Ne.symm b3)).trans a1, a2, a3, (other de hde).trans a4, a5, T, _, _, b1, b2, b3, Heap.get?_update_self _ b4 (Obj.isFreed_of_fields (Obj.data_mapFields b5 _)), Obj.data_mapFields b5 _, by simp [hsz3]⟩)
  intro b o q nb
  obtain ⟨s1, z1, k1⟩ := up b o q nb
  exact ⟨s1, (other b fun z => by rw [z, b2] at q; cases q).trans z1, k1⟩
/-- leaving a frame -/
theorem thr_leave {g h₁ : Heap} {m : Str → Option Value} {name : Str} {scope : Scope} {a : Addr} {cd : Value} {l : List Env} (hfr : A.frames = some l) (F : Fr g L h₁ m) (hl : g.FunFrames B l) (hfl : fl = none ∨ fl = some .none)
    (hB : B.StaysIn g) (x : Thr C h₁ (fa (envOf name scope L a cd :: l)) e ln fl s.heap) (hQ : ∀ h', Thr C g (fa l) e ln (some .none) h' → Q () { s with heap := h' }) (hk : scope.kind = .function := by rfl) :
    wpAny M (A.deeper (envOf name scope L a cd)) (leaving (envOf name scope L a cd) (.ref e)) Q E s := by
  have hLB : B.get? L = none := by
    cases z : B.get? L with
    | none => rfl
    | some o => exact absurd (Heap.lt_size (hB _ _ z)) (Nat.not_lt.mpr F.above)
  have hl1 : h₁.FunFrames B (envOf name scope L a cd :: l) := Heap.FunFrames.cons (by rw [show (envOf name scope L a cd).scope = scope from rfl, hk]; decide) rfl F.ns hLB
    (hl.of_keeps fun b o e _ => ⟨o, F.keep b o e, rfl⟩)
  unfold leaving
  refine wpAny_bind (thr_note (Around.frames_deeper hfr) hl1 rfl hfl x fun h2 x2 => ?_)
  refine thr_flight x2 fun h3 x3 => hQ h3 (x3.less (Up.after F ?_) F.keep)
  exact x3.up
end

section
variable {prog : Program} {w : World} {A : Around} {R : Result → Shared → Prop} {s : Shared} {K : Frag} {x C : Addr}
open Builtin Builtin.ObjectAttr

theorem osa_exc {ox : Obj} {od : Option Obj} {name : Str} {tk : Tok} {v : Value} {cd : ClassData} (X : K.In s.heap) (I : InstAt s.heap x ox C od) (hc : clsIn K C = some cd) (hb : cd.mro.contains (.type "object") = true)
    (hr : ∀ self : Value, refuseLoop self "__setattr__" cd.mro = pure ()) (ht : takerIn K C name = some none)
    (h : ∀ b, wpAny (model prog w) A.in1 (storeInOwnDict (.ref x) (.ref C) (.str name tk) name v b)
      (fun fin s' => match fin with | .done f => R (.ok f) s' | .again c' => c'.quiet = true ∧ codeAny (model prog w) A c' R s') (fun e s' => R (.error e) s') s) :
    codeAny (model prog w) A (.call (.builtin "object.__setattr__") ⟨[.ref x, .str name tk, v], []⟩) R s := by
  have SF := PySem.F.store_object
  have ne : cd.mro.isEmpty = false := by cases q : cd.mro with | nil => rw [q] at hb; cases hb | cons _ _ => rfl
  have sub : Looks (model prog w) s.heap (isInstance (.ref x) (.type "object")) true := I.type.andThen (looks_mroIn X (by unfold mroIn; rw [hc, Option.bind_some, if_neg (by rw [ne]; decide), hb]))
  refine codeAny_call_builtin SF.slot.plain SF.entry (@check_slot (model prog w) _ _ s "object.__setattr__" "object" "__setattr__" (.ref x) [.str name tk, v] [] _ SF.kind SF.split sub (SF.args (.ref x) (.str name tk) v) ?_)
  obtain ⟨attr, ha, hq⟩ := Option.bind_eq_some_iff.mp ht
  have hm : Looks (model prog w) s.heap (mroOf (.ref C)) cd.mro := (looks_clsIn X hc).andThen .now
  have L3 : Looks (model prog w) s.heap (storeTaker? attr) none := by
    cases attr with
    | none => exact .now
    | some a =>
      obtain ⟨b, hb', e⟩ := Option.map_eq_some_iff.mp hq
      refine (looks_takesIn X hb').andThen ?_
      cases b
      · exact .now
      · cases e
  rw [osa_eq, refuse_eq]
  refine wpAny_bind (wpAny_bind (I.type.here (wpAny_bind (hm.here ?_))))
  rw [hr]
  refine wpAny_pure (wpAny_bind (I.type.here (wpAny_bind ((looks_findIn X ha).here (wpAny_bind (L3.here ?_))))))
  exact h _

theorem osa_store {d : Addr} {es : List DictEntry} {n : Nat} {name : Str} {tk : Tok} {v : Value} {E : Value → Shared → Prop} {Q : Fin → Shared → Prop} (D : s.heap.get? d = some (dictOf es n)) (hl : (getL name es).isSome = true)
    (hz : es.length ≤ 100)
    (h : ∀ h', (∃ (ky : Tok) (hs : Int), h'.get? d = some (dictOf (putL name hs (.str name ky) v es) (putN name es n))) → (∀ b, b ≠ d → h'.get? b = s.heap.get? b) → Q (.done (.ret .none)) { s with heap := h', toks := s.toks + 1 }) :
    wpAny (model prog w) A (storeInDict d (.str name tk) name v) Q E s := by
  have e := putName_dict name (PyData.keyHash w.params name) (.str name s.toks) v es n
  have D' := Heap.get?_update_self (Obj.putName name (PyData.keyHash w.params name) (.str name s.toks) v) D (by rw [e]; rfl)
  rw [e] at D'
  refine wpAny_bind (wpAny_pure (wpAny_bind ?_))
  unfold nsSet
  refine wpAny_bind (wpAny_bind (wpAny_askSetting (wpAny_pure (wpAny_bind (wpAny_mkText (wpAny_bind (wpAny_loadPart D ?_)))))))
  dsimp only
  have c : (!es.toArray.any (·.key.isStr name) && es.toArray.any (·.refKey)) = false := by
    rw [← Array.any_toList, ← Array.any_toList]
    unfold getL at hl
    split at hl
    · rename_i en he
      rw [List.any_eq_true.mpr ⟨en, List.mem_of_find?_eq_some he, List.find?_some he⟩]; rfl
    · split at hl
      · cases hl
      · rename_i z; rw [Bool.not_eq_true] at z; rw [z, Bool.and_false]
  rw [aRefKeyMayBeTheName_at, c]
  refine wpAny_updatePart D ?_
  have len : ∀ hs ky (es : List DictEntry), (putL name hs (.str name ky) v es).length ≤ es.length + 1 := fun hs ky es => by
    induction es with
    | nil => exact Nat.le_refl _
    | cons a r ih => simp only [putL]; split <;> (simp only [List.length_cons]; omega)
  refine wpAny_bind (wpAny_lookBehind D' (pastItsLine_dict (by rw [List.size_toArray, sizeLine_eq]; have := len (PyData.keyHash w.params name) s.toks es; omega)) ?_)
  exact wpAny_pure (h _ ⟨_, _, D'⟩ fun b hb => Heap.get?_update_other _ _ (Ne.symm hb))

/-- the first name put at an exception -/
theorem set_exc0 {E : Value → Shared → Prop} {vs : Array Value} {sl : Array (Option Value)} {name : Str} {v : Value} {cd : ClassData} {Q : Unit → Shared → Prop} (X : K.In s.heap) (hx : s.heap.get? x = some ⟨.ref C, none, .fields vs, sl⟩)
    (hs : findIn K (.ref C) "__setattr__" = some (some (.builtin "object.__setattr__"))) (hc : clsIn K C = some cd) (hb : cd.mro.contains (.type "object") = true)
    (hr : ∀ self : Value, refuseLoop self "__setattr__" cd.mro = pure ()) (ht : takerIn K C name = some none) (hd : cd.hasDict = true)
    (h : ∀ h' d tk, s.heap.get? d = none → h'.get? x = some ⟨.ref C, some d, .fields vs, sl⟩ → (∃ (ky : Tok) (hs : Int), h'.get? d = some (dictOf (putL name hs (.str name ky) v []) 1)) → (∀ b o, s.heap.get? b = some o → b ≠ x → h'.get? b = some o) →
      Q () { s with heap := h', toks := tk }) : wpAny (model prog w) A (setAttr (.ref x) name v) Q E s := by
  obtain ⟨hh, g, dr, t, os⟩ := s
  dsimp only at *
  have I : InstAt hh x ⟨.ref C, none, .fields vs, sl⟩ C none := ⟨hx, rfl, rfl, trivial⟩
  refine set_plain X I hs (osa_exc (s := ⟨hh, g, dr, t + 1, os⟩) X I hc hb hr ht fun b => ?_)
  refine wpAny_bind (wpAny_pure (wpAny_bind (wpAny_bind (wpAny_loadPart hx (wpAny_bind ((looks_clsIn X hc).here ?_))))))
  rw [hd]
  have e1 := Heap.get?_push_of_some (h := hh) ({ cls := .type "dict", data := .dict #[] } : Obj) hx
  have hne : hh.objs.size ≠ x := Nat.ne_of_gt (Heap.lt_size hx)
  have e2 := Heap.get?_update_self (fun o => { o with dict := some hh.objs.size }) e1 rfl
  have e3 : ((hh.push { cls := .type "dict", data := .dict #[] }).update x fun o => { o with dict := some hh.objs.size }).get? hh.objs.size = some (dictOf [] 0) := by
    rw [Heap.get?_update_other _ _ (Ne.symm hne)]; exact Heap.get?_push_size _ rfl
  refine wpAny_bind (wpAny_alloc (wpAny_bind (wpAny_update e1 (wpAny_pure (a := some hh.objs.size) ?_))))
  refine osa_store (s := ⟨_, g, dr, t + 1, os⟩) (es := []) e3 rfl (by simp) fun h' hd' hk => ?_
  refine h h' hh.objs.size _ (Heap.get?_none_of_le (Nat.le_refl _)) ((hk x (Ne.symm hne)).trans e2) hd' fun b o e hb => ?_
  refine (hk b fun q => ?_).trans ((Heap.get?_update_other _ _ (Ne.symm hb)).trans (Heap.get?_push_of_some _ e))
  exact absurd (Heap.lt_size e) (by rw [q]; exact Nat.lt_irrefl _)
/-- one more name -/
theorem set_exc1 {E : Value → Shared → Prop} {vs : Array Value} {sl : Array (Option Value)} {d : Addr} {es : List DictEntry} {n : Nat} {name : Str} {v : Value} {cd : ClassData} {Q : Unit → Shared → Prop} (X : K.In s.heap) (hx : s.heap.get? x = some ⟨.ref C, some d, .fields vs, sl⟩)
    (D : s.heap.get? d = some (dictOf es n)) (hl : (getL name es).isSome = true) (hz : es.length ≤ 100)
    (hs : findIn K (.ref C) "__setattr__" = some (some (.builtin "object.__setattr__"))) (hc : clsIn K C = some cd) (hb : cd.mro.contains (.type "object") = true)
    (hr : ∀ self : Value, refuseLoop self "__setattr__" cd.mro = pure ()) (ht : takerIn K C name = some none) (hd : cd.hasDict = true)
    (h : ∀ h' tk, (∃ (ky : Tok) (hs : Int), h'.get? d = some (dictOf (putL name hs (.str name ky) v es) (putN name es n))) → (∀ b, b ≠ d → h'.get? b = s.heap.get? b) → Q () { s with heap := h', toks := tk }) :
    wpAny (model prog w) A (setAttr (.ref x) name v) Q E s := by
  obtain ⟨hh, g, dr, t, os⟩ := s
  dsimp only at *
  have I : InstAt hh x ⟨.ref C, some d, .fields vs, sl⟩ C (some (dictOf es n)) := ⟨hx, rfl, rfl, D⟩
  refine set_plain X I hs (osa_exc (s := ⟨hh, g, dr, t + 1, os⟩) X I hc hb hr ht fun b => ?_)
  refine wpAny_bind (wpAny_pure (wpAny_bind (wpAny_bind (wpAny_loadPart hx (wpAny_bind ((looks_clsIn X hc).here ?_))))))
  rw [hd]
  refine wpAny_pure (a := some d) ?_
  refine osa_store (s := ⟨hh, g, dr, t + 1, os⟩) D hl hz fun h' hd' hk => ?_
  exact h h' _ hd' hk
end

section
variable {prog : Program} {w : World} {A : Around} {h : Heap} {g : Array GenState} {d : Drawn} {t : Nat} {os : OsState}
theorem ve_init {K : Frag} {C fI e t0 : Addr} {v : Value} {E : Value → Shared → Prop} {Q : Value → Shared → Prop} (X : K.In h) (Y : ExcCls K C fI) (he : h.get? e = some (excObj C t0))
    (hq : ∀ h' t1, KeepsBut [e] h h' → h'.get? e = some (excObj C t1) → Q .none ⟨h', g, d, t, os⟩) :
    wpAny (model prog w) A (call (.builtin "ValueError.__init__") [.ref e, v]) Q E ⟨h, g, d, t, os⟩ := by
  obtain ⟨⟨nm, q, N, bs, bm, hdct, sn, sub, ab, col, dd, k0, k1, k2, k3, k5, e1, hcB, hcA, hcN, _⟩, _, _, _, _, _⟩ := Y
  have hC := X _ _ e1
  have F := PySem.F.excBase_ValueError
  have hshort := F.noStar
  refine wpAny_call (codeAny_call_builtin F.init.plain F.initEntry ?_)
  have chk : ∀ {Q' : Unit → Shared → Prop} {E' : Value → Shared → Prop} {A' : Around}, Q' () ⟨h, g, d, t, os⟩ → wpAny (model prog w) A' (checkBuiltinCall "ValueError.__init__" ⟨.ref e :: [v], []⟩) Q' E' ⟨h, g, d, t, os⟩ := by
    intro Q' E' A' hq'
    simp only [checkBuiltinCall, F.initKind, F.initSplit, F.initRow]
    repeat (first | with_reducible refine wpAny_loadPart_at he ?_ | with_reducible refine wpAny_loadPart_at hC ?_ | (with_reducible refine wpAny_isSubtype_exc hC ?_; rw [hcB]) | wp_step)
    exact hq'
  refine chk ?_
  have hne : h.objs.size ≠ e := Nat.ne_of_gt (Heap.lt_size he)
  wp_walk
  refine hq _ h.objs.size (fun b o hb nb => ?_) ?_
  · rw [Heap.get?_update_other _ _ (by simp at nb; exact Ne.symm nb)]
    exact Heap.get?_push_of_some _ hb
  · exact Heap.get?_update_self _ (Heap.get?_push_of_some _ he) rfl
end

theorem meta_VE : typeOf (.type "ValueError") = pure (.type "type") := by kernel_rfl
set_option hygiene true in
local macro_rules | `(tactic| walk_at "getMethod type:ValueError") => `(tactic| (k_here; refine' method_type ?F ?X ?m (by decide +kernel) ?e ?h ?_; (case F => k_asm); (case X => k_asm); (case m => exact meta_VE); (case e => k_dflt k_is); (case h => k_handed)))
theorem exc52 {w : World} : ExcCls (k0.heap_1 w.params) 52 49 where
  at_ := ⟨_, _, _, _, _, _, _, _, _, _, _, _, _, _, _, _, by k_is, by decide, by decide, by decide, by decide⟩
  init := by k_is
  fn := by k_is
  mro := ⟨_, by k_is, rfl⟩
set_option hygiene true in
local macro_rules | `(tactic| walk_at "call builtin:ValueError.__init__") => `(tactic| (k_here; k_dflt (refine' ve_init ?kX exc52 ?ke ?_; (case kX => exact Frag.In.keeps (by k_asm) (Fr.keep (by k_asm))); (case ke => exact News.get (by k_asm) (by k_mem)); k_whole); intros; ktf_step))
theorem cls52 {w : World} : ∃ cd, clsIn (k0.heap_1 w.params) 52 = some cd ∧ cd.mro.contains (.type "object") = true ∧ (∀ self : Value, refuseLoop self "__setattr__" cd.mro = pure ()) ∧ cd.hasDict = true :=
  ⟨_, by k_is, by decide, fun self => by show refuseLoop self _ (.ref 52 :: .ref 32 :: _) = _; rw [refuseLoop_ref, refuseLoop_ref]; exact PySem.F.store_ValueError.passes self, rfl⟩
/-- an own exception that has its names -/
noncomputable abbrev excWith (C t d : Addr) : Obj := { cls := .ref C, dict := some d, data := .fields #[.ref t, .none, .none, .none, .bool false, .none] }
section
variable {prog : Program} {w : World} {p : Program} {loose : List Str} {mean : ExcName → Option Value} {mg mb : Str → Option Value}
theorem gem_init {A : Around} {s : Shared} {h₀ : Heap} {e t0 : Addr} {x : Str} {tx : Tok} {Q E : Value → Shared → Prop}
    (B : Base w p loose mean mg mb h₀) (hA : At h₀ s.heap [(e, excObj 52 t0)]) (hr : A.depth + 4 < recursionLimit)
    (h : ∀ h' d t1 ky hs tk', s.heap.get? d = none → h'.get? e = some (excWith 52 t1 d) → h'.get? d = some (dictOf (putL "reason" hs (.str "reason" ky) (.str x tx) []) 1) → KeepsBut [e] s.heap h' → Q .none { s with heap := h', toks := tk' }) :
    wpAny (model prog w) A (call (.ref 29) [.ref e, .str x tx]) Q E s := by
  refine wpAny_call ?_
  have X0 := Frag.In.keeps B.X hA.1
  ktr_enter
  intro g L h₁ m0 hm0 F N' X T st hlt kp
  dsimp only
  k_unmd
  k_fold
  k_steps
  rename Fr _ _ _ _ => kF
  rename News _ _ _ _ => kN
  obtain ⟨cd, c1, c2, c3, c4⟩ := cls52 (w := w)
  have he := News.get kN (.head _)
  refine set_exc0 (X.keeps kF.keep) he (by k_is) c1 c2 c3 (by k_is) c4 fun h' d tk hd0 hx' hdd hk => ?_
  obtain ⟨ky, hs, hdd⟩ := hdd
  have kp1 : KeepsBut [e] _ h' := fun b o q nb => hk b o q (by simpa using nb)
  obtain ⟨F2, N2⟩ := upd_keep kF kN kp1 hx' (by k_updF)
  try dsimp only at N2
  k_steps
  have kp2 : KeepsBut [e] s.heap h' := fun b o q nb => kp1 b o (kF.keep _ _ (kp b o q nb)) nb
  refine h _ _ _ _ _ _ ?_ hx' hdd kp2
  cases z : s.heap.get? d with
  | none => rfl
  | some o =>
    exfalso
    by_cases q : d = e
    · subst q; rw [hd0] at he; cases he
    · have := kF.keep _ _ (kp d o z (by simpa using q)); rw [hd0] at this; cases this
end
local macro_rules | `(tactic| walk_at "call ref") => row [tAt 29, tTo `gem_init [`((⟨by assumption, by assumption⟩)), bAt1, bRoom, bH], tIntros]
section
variable {prog : Program} {w : World} {p : Program} {loose : List Str} {mean : ExcName → Option Value} {mg mb : Str → Option Value}
theorem bad_init {A : Around} {s : Shared} {h₀ : Heap} {e t0 : Addr} {ln : Value} {x : Str} {tx : Tok} {R : Result → Shared → Prop}
    (B : Base w p loose mean mg mb h₀) (hA : At h₀ s.heap [(e, excObj 52 t0)]) (hr : A.depth + 6 < recursionLimit)
    (h : ∀ h' d t1 es tk', s.heap.get? d = none → h'.get? e = some (excWith 52 t1 d) → h'.get? d = some (dictOf es 2) → getL "line" es = some (some ln) → KeepsBut [e] s.heap h' → R (.ok (.ret .none)) { s with heap := h', toks := tk' }) :
    codeAny (model prog w) A (.call (.ref 49) ⟨[.ref e, ln, .str x tx], []⟩) R s := by
  have X0 := Frag.In.keeps B.X hA.1
  ktr_enter
  intro g L h₁ m0 hm0 F N' X T st hlt kp
  dsimp only
  k_unmd
  k_fold
  k_steps
  rename Fr _ _ _ _ => kF
  rename News _ _ _ _ => kN
  rename_i h' d t1 ky hs tk' hd0 he1 hd1 kp1
  obtain ⟨F2, N2⟩ := upd_keep kF kN kp1 he1 (by k_updF)
  k_steps
  obtain ⟨cd, c1, c2, c3, c4⟩ := cls52 (w := w)
  refine set_exc1 (X.keeps F2.keep) he1 hd1 (by rfl) (by simp [putL]) (by k_is) c1 c2 c3 (by k_is) c4 fun h'' tk hdd hk => ?_
  obtain ⟨ky2, hs2, hdd⟩ := hdd
  have hne : e ≠ d := fun q => by
    subst q
    have he := News.get kN (.head _)
    rw [he] at hd0; cases hd0
  have kp2 : KeepsBut [e] s.heap h'' := fun b o q nb => by
    have z := kF.keep _ _ (kp b o q nb)
    refine (hk b fun q => ?_).trans (kp1 b o z nb)
    subst q; rw [hd0] at z; cases z
  have he2 : h''.get? e = some (excWith 52 t1 d) := (hk e hne).trans he1
  k_steps
  refine h _ _ _ _ _ ?_ he2 hdd ?_ kp2
  · cases z : s.heap.get? d with
    | none => rfl
    | some o =>
      exfalso
      have := kF.keep _ _ (kp d o z (by simpa using Ne.symm hne)); rw [hd0] at this; cases this
  · rfl
end

section
variable {prog : Program} {w : World} {p : Program} {loose : List Str} {mean : ExcName → Option Value} {mg mb : Str → Option Value}
theorem exc_call {A : Around} {s : Shared} {ln : Value} {x : Str} {tx : Tok} {Q E : Value → Shared → Prop} (B : Base w p loose mean mg mb s.heap) (hr : A.depth + 10 < recursionLimit)
    (h : ∀ h' e d t1 es tk', s.heap.get? e = none → s.heap.get? d = none → h'.get? e = some (excWith 52 t1 d) → h'.get? d = some (dictOf es 2) → getL "line" es = some (some ln) → s.heap.StaysIn h' → Q (.ref e) { s with heap := h', toks := tk' }) :
    wpAny (model prog w) A (call (.ref 52) [ln, .str x tx]) Q E s := by
  obtain ⟨hh, g, dr, t, os⟩ := s
  have hg : hh.get? (hh.objs.size + 1) = none := Heap.get?_none_of_le (Nat.le_succ _)
  have st : hh.StaysIn ((hh.push { cls := .type "tuple", data := .seq [ln, .str x tx].toArray }).push (excObj 52 hh.objs.size)) := fun b o e => Heap.get?_push_of_some _ (Heap.get?_push_of_some _ e)
  refine wpAny_call (exc_make (h := hh) B.X exc52 (by simp) ?_)
  refine bad_init (t0 := hh.objs.size) (s := ⟨_, g, dr, t, os⟩) B ⟨st, fun q hq => ?_⟩ ?_ fun h' d t1 es tk' a1 a2 a3 a4 a5 => ?_
  · rcases List.mem_singleton.mp hq with rfl
    exact ⟨by heap_get, hg⟩
  · show A.depth + _ + 6 < _
    have : (Code.builtin "type.__call__" ⟨.ref 52 :: [ln, .str x tx], []⟩).weight = 1 := rfl
    omega
  · have hd : hh.get? d = none := by
      cases z : hh.get? d with
      | none => rfl
      | some o => have := st _ _ z; rw [a1] at this; cases this
    exact ⟨rfl, h h' (hh.objs.size + 1) d t1 es tk' hg hd a2 a3 a4 fun b o q => a5 b o (st b o q) (by simp; rintro rfl; rw [hg] at q; cases q)⟩
end
local macro_rules | `(tactic| walk_at "call ref") => row [tAt 52, tTo `exc_call [bBase, bRoom, bH], tIntros]
noncomputable def OwnRaised (K : Frag) (C : Addr) (E : Value → Shared → Prop) (v : Value) (s₁ : Shared) : Prop :=
  ∃ a t dd, v = .ref a ∧ K.In s₁.heap ∧ s₁.heap.get? a = some (excWith C t dd) ∧ E (.ref a) s₁
theorem raise_own {M : Model} {A : Around} {E : Value → Shared → Prop} {s : Shared} {env : Env} {K : Frag} {C fI : Addr} {e : Expr} {pos : Pos} {Q : Flow → Shared → Prop} (Y : ExcCls K C fI) (hh : A.handled = none)
    (h : wpAny M A (eval e env) (OwnRaised K C E) E s) : wpAny M A (exec (.Raise (some e) none pos) env) Q E s := by
  obtain ⟨⟨nm, q, N, bs, bm, hdct, sn, sub, ab, col, dd, k0, k1, k2, k3, k5, e1, hcB, hcA, hcN, hcE⟩, _, _, _, _, _⟩ := Y
  show wpAny M A (do standAt pos; raiseStmt env (some (do let v ← eval e env; standAt pos; pure v)) none) Q E s
  refine wpAny_bind (wpAny_standAt ?_)
  unfold raiseStmt
  dsimp only
  refine wpAny_bind (wpAny_bind (wpAny_mono h (fun v s₁ h₁ => wpAny_bind (wpAny_standAt (wpAny_pure ?_))) fun _ _ x => x))
  obtain ⟨a, t, de, rfl, X, ha, hE⟩ := h₁
  have hC := X _ _ e1
  obtain ⟨hp, g, d, tk, os⟩ := s₁
  dsimp only at ha hC
  repeat (first | with_reducible refine wpAny_loadPart_at ha ?_ | with_reducible refine wpAny_loadPart_at hC ?_ | (with_reducible refine wpAny_isSubtype_exc hC ?_; rw [hcE]) | wp_step)
  exact wpAny_raiseNew_none hh hE
theorem raise_52 {M : Model} {A : Around} {E : Value → Shared → Prop} {s : Shared} {env : Env} {w : World} {g : Heap} {e : Expr} {pos : Pos} {Q : Flow → Shared → Prop} (_X : (k0.heap_1 w.params).In g) (hh : A.handled = none)
    (h : wpAny M A (eval e env) (OwnRaised (k0.heap_1 w.params) 52 E) E s) : wpAny M A (exec (.Raise (some e) none pos) env) Q E s := raise_own exc52 hh h
local macro_rules | `(tactic| walk_at "exec Raise some none") => row [tTo `raise_52 [bK, bRfl, bH]]

section
variable {prog : Program} {w : World} {p : Program} {loose : List Str} {mean : ExcName → Option Value} {mg mb : Str → Option Value} {row : List Tok0} {aRow : Addr} {ts rs : List Addr}
  {dp un : Nat} {l : List Env} {gd : Option (List Code)} {s : Shared} {Q E : Value → Shared → Prop} {h₀ : Heap}
  {aR dR aT aSc aCl aS aM aSS aB : Addr} {kt : Nat → Tok} {tb last : Value} {pl j : Nat} {tp tq : Tok} {nd ba : Bool} {n nM : Nat} {oS : Obj} {sc : List Sc}
theorem refuse_at {x : Str} {tx : Tok} (C : Cx w p loose mean mg mb row aT aRow ts rs s.heap) (hr : dp + 12 < recursionLimit) (hu : un + 200 < cLine)
    (hi : s.heap.get? aR = some (instObj 188 dR)) (hd : s.heap.get? dR = some (rdDict w kt aT tb pl tp last aSc aCl nd ba n))
    (h0 : h₀.StaysIn s.heap) (hl : s.heap.FunFrames h₀ l) (h : ∀ h' e t3 tk', Thr 52 s.heap (fa l) e (.int (cur row pl).line t3) (some .none) h' → E (.ref e) { s with heap := h', toks := tk' }) :
    wpAny (model prog w) (ar dp un (some l) gd) (call (.ref 114) [.ref aR, .str x tx]) Q E s := by
  refine wpAny_call ?_
  have B := C.base
  obtain ⟨X, T⟩ := id B
  obtain ⟨dx, kt2, n2, tz, t1, t2, t3, hti, htd⟩ := C.tokAt pl
  kc_enter
  intro L h₁ m0 hm0 F N'
  dsimp only
  k_unmd
  k_fold
  k_steps
  rename Fr _ _ _ _ => kF
  rename_i e d t1 es tk2 hn hd0 he hx hl2 k
  refine ⟨e, t1, d, rfl, Frag.In.keeps X fun b o q => k _ _ (kF.keep _ _ q), he, ?_⟩
  refine thr_leave (A := ar dp un (some l) gd) rfl kF hl (.inl rfl) h0 (ln := .int (cur row pl).line t3) ⟨Up.of_keeps fun b o q _ => k b o q, hn, _, _, d, es, 2, he, by simp, hd0, hx, hl2, rfl⟩ fun h' x => ?_
  exact h h' e t3 _ x
end
theorem frames_push {h₀ g h : Heap} {L a : Addr} {m : Str → Option Value} {name : Str} {scope : Scope} {cd : Value} {l : List Env} (F : Fr g L h m) (hl : g.FunFrames h₀ l) (h0 : h₀.StaysIn g) (hk : scope.kind = .function := by rfl) :
    h.FunFrames h₀ (envOf name scope L a cd :: l) := by
  have hLB : h₀.get? L = none := by
    cases z : h₀.get? L with
    | none => rfl
    | some o => exact absurd (Heap.lt_size (h0 _ _ z)) (Nat.not_lt.mpr F.above)
  exact Heap.FunFrames.cons (by rw [show (envOf name scope L a cd).scope = scope from rfl, hk]; decide) rfl F.ns hLB (hl.of_keeps fun b o e _ => ⟨o, F.keep b o e, rfl⟩)
theorem lack_fits {x : Str} {n : Nat} (hx : x.length ≤ 20) (y : Str) (hy : y.length ≤ n) (hn : n ≤ 100) : x.length + y.length ≤ sizeLine := by rw [sizeLine_eq]; omega
set_option hygiene true in
local macro_rules | `(tactic| walk_at "binaryOp Add str str") => `(tactic| ((refine SBL.add (hsz := ?hsz) ?_); (case hsz => exact lack_fits (n := 100) (by assumption) _ (by decide) (by decide)); intros))
theorem Thr.from {g h h' : Heap} {L C e : Addr} {m : Str → Option Value} {fs : List Addr} {ln : Value} {fl : Option Value} (F : Fr g L h m) (x : Thr C h (L :: fs) e ln fl h') : Thr C g fs e ln fl h' :=
  x.less (Up.after F x.up) F.keep
local macro_rules | `(tactic| walk_at "call ref") => row [tAt 114, tTo `refuse_at [bCx, bRoom, bU, bRel, bRel, `((fun b o q => Fr.keep (by k_asm) _ _ ((by assumption : Heap.StaysIn _ _) b o q))), (ap `frames_push [bK, bA, bA]), bH], tIntros]
section
variable {prog : Program} {w : World} {p : Program} {loose : List Str} {mean : ExcName → Option Value} {mg mb : Str → Option Value} {row : List Tok0} {aRow : Addr} {ts rs : List Addr}
  {dp un : Nat} {l : List Env} {gd : Option (List Code)} {s : Shared} {Q E : Value → Shared → Prop} {h₀ : Heap}
  {aR dR aT aSc aCl aS aM aSS aB : Addr} {kt : Nat → Tok} {tb last : Value} {pl j : Nat} {tp tq : Tok} {nd ba : Bool} {n nM : Nat} {oS : Obj} {sc : List Sc}
theorem expect_no {k : Str} {v : Option Str} {tk tv : Tok} (C : Cx w p loose mean mg mb row aT aRow ts rs s.heap) (hr : dp + 20 < recursionLimit) (hu : un + 300 < cLine)
    (hi : s.heap.get? aR = some (instObj 188 dR)) (hd : s.heap.get? dR = some (rdDict w kt aT tb pl tp last aSc aCl nd ba n))
    (hb : isTok (cur row pl) k v = false) (hkz : k.length ≤ 20) (hvz : ∀ x, v = some x → x.length ≤ 20) (h0 : h₀.StaysIn s.heap) (hl : s.heap.FunFrames h₀ l) (h : ∀ h' e t3 tk', Thr 52 s.heap (fa l) e (.int (cur row pl).line t3) (some .none) h' → E (.ref e) { s with heap := h', toks := tk' }) :
    wpAny (model prog w) (ar dp un (some l) gd) (call (.ref 107) [.ref aR, .str k tk, sv v tv]) Q E s := by
  refine wpAny_call ?_
  have B := C.base
  obtain ⟨X, T⟩ := id B
  kc_enter
  intro L h₁ m0 hm0 F N'
  dsimp only
  k_unmd
  k_fold
  k_steps
  · rename _ = isTok _ _ _ => e1
    rename _ = true => e2
    exact absurd (hb.symm.trans (e1.symm.trans e2)) (by decide)
  · rename Fr _ _ _ _ => kF
    rename Thr _ _ _ _ _ _ _ => x
    refine thr_leave (A := ar dp un (some l) gd) rfl kF hl (.inr rfl) h0 x fun h' x => ?_
    exact h _ _ _ _ x
  · cases v with
    | none => (rename Option.isNone _ = false => e2; cases e2)
    | some x =>
      have hxz := hvz x rfl
      dsimp only [sv]
      k_steps
      rename Fr _ _ _ _ => kF
      rename Thr _ _ _ _ _ _ _ => x
      refine thr_leave (A := ar dp un (some l) gd) rfl kF hl (.inr rfl) h0 x fun h' x => ?_
      exact h _ _ _ _ x
end

/-- the first n objects -/
noncomputable def cutAt (h : Heap) (n : Nat) : Heap := ⟨(h.objs.toList.take n).toArray, h.life⟩
theorem cutAt_get {h : Heap} {n b : Nat} (hb : b < n) : (cutAt h n).get? b = h.get? b := by
  unfold cutAt Heap.get?
  dsimp only
  rw [show (h.objs.toList.take n).toArray[b]? = h.objs[b]? by simp [hb]]
theorem cutAt_size (h : Heap) (n : Nat) : (cutAt h n).objs.size ≤ n := by
  show (h.objs.toList.take n).toArray.size ≤ n
  rw [List.size_toArray, List.length_take]; exact Nat.min_le_left _ _
inductive Reb (h₀ g h' : Heap) (L : Addr) (m : Str → Option Value) (mu' : List (Addr × Obj)) (l : List Env) : Prop
  | mk (g' : Heap) (F : Fr g' L h' m) (N : News g' L h' mu') (st : h₀.StaysIn g') (hl : g'.FunFrames h₀ l) (up : Up [] (fa l) g g') (no : ∀ q ∈ mu', g'.get? q.1 = none)
theorem fr_old {g h : Heap} {L b : Addr} {m : Str → Option Value} {o : Obj} (F : Fr g L h m) (e : g.get? b = some o) : b < L := Nat.lt_of_lt_of_le (Heap.lt_size e) F.above
/-- standing anew upon what the frames have become -/
theorem rebase {g h₁ h' h₀ : Heap} {L : Addr} {m : Str → Option Value} {mu' : List (Addr × Obj)} {as : List Addr} {l : List Env} (F : Fr g L h₁ m) (st : h₀.StaysIn g) (hl : g.FunFrames h₀ l) (u : Up as (L :: fa l) h₁ h')
    (hm : ∀ a ∈ as, g.get? a = none ∧ a ≠ L) (h2 : ∀ q ∈ mu', h'.get? q.1 = some q.2 ∧ (q.1 ∈ as ∨ L < q.1)) :
    Reb h₀ g h' L m mu' l := by
  have old : ∀ b o, g.get? b = some o → ∃ sl, (hideAll (cutAt h' L) as).get? b = some { o with slots := sl } ∧ (b ∉ fa l → sl = o.slots) := fun b o e => by
    have hb := fr_old F e
    have na : b ∉ as := fun q => by rw [(hm b q).1] at e; cases e
    obtain ⟨sl, e1, k1⟩ := u b o (F.keep _ _ e) na
    refine ⟨sl, hideAll_get _ ((cutAt_get hb).trans e1) na, fun q => k1 fun z => ?_⟩
    rcases List.mem_cons.mp z with rfl | z
    · exact absurd hb (Nat.lt_irrefl _)
    · exact q z
  have nofr : ∀ b o, h₀.get? b = some o → b ∉ fa l := fun b o e q => by rw [(hl.mem q).1] at e; cases e
  have hid : ∀ q ∈ mu', (hideAll (cutAt h' L) as).get? q.1 = none := fun q hq => by
    rcases (h2 q hq).2 with z | z
    · exact hideAll_none _ z
    · refine Heap.get?_none_of_le ?_
      rw [hideAll_size]
      exact Nat.le_trans (cutAt_size _ _) (Nat.le_of_lt z)
  refine ⟨hideAll (cutAt h' L) as, ⟨?_, fun b o e => ?_, ?_⟩, fun q hq => ⟨(h2 q hq).1, ?_, hid q hq⟩, fun b o e => ?_, ?_, fun b o e _ => old b o e, hid⟩
  · obtain ⟨oL, es, ep, hL, r⟩ := F.ns
    obtain ⟨sl, e1, _⟩ := u L oL hL fun q => (hm L q).2 rfl
    exact ⟨_, es, ep, e1, r⟩
  · have e1 := of_hideAll _ e
    by_cases hb : b < L
    · rw [cutAt_get hb] at e1; exact e1
    · rw [Heap.get?_none_of_le (Nat.le_trans (cutAt_size _ _) (Nat.not_lt.mp hb))] at e1; cases e1
  · rw [hideAll_size]; exact cutAt_size _ _
  · rcases (h2 q hq).2 with z | z
    · exact (hm _ z).2
    · exact Nat.ne_of_gt z
  · obtain ⟨sl, e1, k1⟩ := old b o (st b o e)
    rw [k1 (nofr b o e)] at e1; exact e1
  · exact hl.of_keeps fun b o e _ => by
      obtain ⟨sl, e1, _⟩ := old b o e
      exact ⟨_, e1, rfl⟩
/-- a def of the heap's own -/
noncomputable def FnAt (h : Heap) (f : Addr) : Prop := ∃ o fd, h.get? f = some o ∧ o.data = .func fd
theorem FnAt.keeps {h h' : Heap} {f : Addr} (x : FnAt h f) (k : ∀ b o, h.get? b = some o → h'.get? b = some o) : FnAt h' f := by
  obtain ⟨o, fd, e, d⟩ := x; exact ⟨o, fd, k _ _ e, d⟩
theorem keeps_F {M : Model} {f : Addr} (h : Heap) (X : FnAt h f) : ∃ k, (k = Keeper.frame ∨ k = Keeper.machine ∨ k = Keeper.boundFrame) ∧ Looks M h (keeperOf (.ref f)) k := by
  obtain ⟨o, fd, e, hd⟩ := X
  refine ⟨.frame, .inl rfl, (Looks.ld (part := none) e).andThen ?_⟩
  rw [hd]; exact .now
theorem callWith_F0 {M : Model} {A : Around} {E : Value → Shared → Prop} {s : Shared} {env : Env} {pos : Pos} {f : Addr} {first : List Value} {Q : Value → Shared → Prop} (X : FnAt s.heap f) (h : wpAny M A (call (.ref f) (first ++ [])) Q E s) :
    wpAny M A (callWith pos (.ref f) first (backTo pos (starEach [] env)) []) Q E s :=
  callWith_of (P := fun h => FnAt h f) rfl keeps_F (evalArgs_nil3 ⟨X, h⟩)
theorem callWith_F1 {M : Model} {A : Around} {E : Value → Shared → Prop} {s : Shared} {env : Env} {pos : Pos} {f : Addr} {first : List Value} {Q : Value → Shared → Prop} {e : Expr} {rest : List Expr}
    (h : wpAny M A (spliced (backTo pos (starEach (e :: rest) env))) (fun vs s₁ => FnAt s₁.heap f ∧ wpAny M A (call (.ref f) (first ++ vs)) Q E s₁) E s)
    (he : starEach (e :: rest) env = (false, eval e env) :: starEach rest env := by rfl) (hplain : (backTo pos (starEach rest env)).any (·.1) = false := by rfl) :
    wpAny M A (callWith pos (.ref f) first (backTo pos (starEach (e :: rest) env)) []) Q E s := by
  rw [he] at h ⊢
  exact callWith_of (P := fun h => FnAt h f) (by show ((false || (backTo pos (starEach rest env)).any (·.1)) || false) = false; rw [hplain]; rfl) keeps_F (PySem.Calls.evalArgs_plain h)

section
variable {prog : Program} {w : World} {A : Around} {E : Value → Shared → Prop} {h : Heap} {g : Array GenState} {d : Drawn} {t : Nat} {os : OsState} {K : Frag} {C fI x : Addr} {ox : Obj} {od : Option Obj} {name : Str} {v : Value}
/-- an own exception's own name -/
theorem exc_get {expr : Bool} {Q : Value → Shared → Prop} {r : Bool} (X : K.In h) (I : InstAt h x ox C od) (hga : findIn K (.ref C) "__getattribute__" = some (some (.builtin "BaseException.__getattribute__")))
    (hgh : findIn K (.ref C) "__getattr__" = some none) (hm : mroIn K C (.type "BaseException") = some r) (hr : r = true) (hf : findObj K C od name = some (.value v)) (hq : Q v ⟨h, g, d, t + 1, os⟩) (hh : handedIn v = true) :
    wpAny (model prog w) A (getAttr (.ref x) name expr) Q E ⟨h, g, d, t, os⟩ := by
  have FB := PySem.F.attrBase_ValueError
  have L0 := I.type (M := model prog w)
  have L1 := looks_findIn (M := model prog w) X hga
  have L2 := looks_findIn (M := model prog w) X hgh
  have L3 := looks_find (M := model prog w) X I hf
  have f3 := FB.ga.bind (.ref x)
  have hx0 : (expr && onTheHeap (Value.builtin "BaseException.__getattribute__")) = false := by cases expr <;> rfl
  have hx2 : (Value.builtin "BaseException.__getattribute__" == Value.builtin "object.__getattribute__") = false := by decide +kernel
  have hx1 : (onTheHeap (Value.ref C) && Value.builtin "BaseException.__getattribute__" == Value.builtin "object.__getattribute__") = false := by rw [hx2]; rfl
  have hk : builtinKind "BaseException.__getattribute__" = some .slot := by decide +kernel
  have hsplit : splitId "BaseException.__getattribute__" = some ("BaseException", "__getattribute__") := by decide +kernel
  have LI : Looks (model prog w) h (isInstance (.ref x) (.type "BaseException")) true := by
    subst hr; exact L0.andThen (looks_mroIn X hm)
  have chk : ∀ (nameV : Value) {A' : Around} {Q' : Unit → Shared → Prop} {E' : Value → Shared → Prop} {t' : Nat}, Q' () ⟨h, g, d, t', os⟩ → wpAny (model prog w) A' (checkBuiltinCall "BaseException.__getattribute__" ⟨[.ref x, nameV], []⟩) Q' E' ⟨h, g, d, t', os⟩ := by
    intro nameV A' Q' E' t' hq'
    exact @check_slot (model prog w) _ _ ⟨h, g, d, t', os⟩ "BaseException.__getattribute__" "BaseException" "__getattribute__" (.ref x) [nameV] [] _ hk hsplit LI (PySem.F.args_bexc_ga (.ref x) nameV) hq'
  unfold getAttr getAttrBy
  refine wpAny_bind (wpAny_mkText (wpAny_holding (wpAny_bind (L0.at (wpAny_bind (L1.at ?_))))))
  dsimp only
  rw [hx1]
  simp only [Bool.false_eq_true, if_false]
  unfold getAttrByItsOwn hookBefore
  refine wpAny_bind ?_
  rw [if_pos (show onTheHeap (Value.ref C) = true from rfl)]
  refine L2.at ?_
  refine wpAny_bind (wpAny_attempt (wpAny_holding ?_))
  unfold callGetattribute
  rw [hx0]
  simp only [Bool.false_eq_true, if_false]
  unfold boundAndCalled
  rw [f3]
  refine wpAny_bind (wpAny_pure (wpAny_call ?_))
  refine codeAny_call_builtin FB.ga.plain PySem.F.entry_bexc_ga (chk _ ?_)
  refine wpAny_bind (wpAny_pure (wpAny_bind (wpAny_pure (wpAny_bind (L0.at (wpAny_bind (L3.at ?_)))))))
  refine wpAny_pure ?_
  show wpAny _ _ (handedOut v) _ _ _
  rw [handedOut_of hh]; exact wpAny_pure hq
end

theorem exc_match {M : Model} {A : Around} {E : Value → Shared → Prop} {K : Frag} {C fI e : Addr} {oe : Obj} {s : Shared} {Q : Bool → Shared → Prop} (Y : ExcCls K C fI) (X : K.In s.heap) (he : s.heap.get? e = some oe) (hcls : oe.cls = .ref C) (hq : Q true s) :
    wpAny M A (excMatches (.ref e) (.ref C)) Q E s := by
  obtain ⟨⟨nm, q, N, bs, bm, hdct, sn, sub, ab, col, dd, k0, k1, k2, k3, k5, e1, hcB, hcA, hcN, hcE⟩, _, _, _, _, _⟩ := Y
  have hC := X _ _ e1
  obtain ⟨hp, g, d, tk, os⟩ := s
  dsimp only at he hC
  refine wpAny_excMatches_sub_self hC he hcls ?_ hq
  rw [List.contains_cons] at hcE
  exact hcE
section
variable {prog : Program} {w : World} {p : Program} {loose : List Str} {mean : ExcName → Option Value} {mg mb : Str → Option Value}
  {dp un : Nat} {l : List Env} {gd : Option (List Code)} {s : Shared} {Q E : Value → Shared → Prop} {h₀ : Heap}
/-- what a deed that is refused does -/
noncomputable def Refuses (prog : Program) (w : World) (dp un : Nat) (l : List Env) (gd : Option (List Code)) (s : Shared) (h₀ : Heap) (aD : Addr) (ln : Int) : Prop :=
  ∀ (env : Env) (h₁ : Heap) (tk : Nat) (Q' E' : Value → Shared → Prop), s.heap.StaysIn h₁ → h₁.FunFrames h₀ (env :: l) →
    (∀ h' e t3 tk', Thr 52 h₁ (fa (env :: l)) e (.int ln t3) (some .none) h' → E' (.ref e) { s with heap := h', toks := tk' }) →
    wpAny (model prog w) (ar (dp + 1) (un + 3) (some (env :: l)) gd) (call (.ref aD) []) Q' E' { s with heap := h₁, toks := tk }
theorem refused_at {aD : Addr} {ln : Int} (B0 : Base w p loose mean mg mb h₀) (hr : dp + 40 < recursionLimit) (hu : un + 500 < cLine) (h0 : h₀.StaysIn s.heap) (hl : s.heap.FunFrames h₀ l)
    (hf : FnAt s.heap aD) (hD : Refuses prog w dp un l gd s h₀ aD ln) (h : ∀ h' t tk', Up [] (fa l) s.heap h' → Q (.int ln t) { s with heap := h', toks := tk' }) :
    wpAny (model prog w) (ar dp un (some l) gd) (call (.ref 298) [.ref aD]) Q E s := by
  refine wpAny_call ?_
  have B := B0.keeps h0
  obtain ⟨X, T⟩ := id B
  kc_enter
  intro L h₁ m0 hm0 F N'
  dsimp only
  k_unmd
  k_fold
  k_steps
  refine callWith_F0 (hf.keeps F.keep) ?_
  refine hD _ _ _ _ _ F.keep (frames_push F hl h0) fun h' e t3 tk' x => ?_
  refine thr_note rfl (frames_push F hl h0) rfl (.inr rfl) x fun h2 x2 => ?_
  refine thr_flight x2 fun h3 x3 => ?_
  refine wpAny_handleBy_cons (codeAny_handlers_test ?_) (by intro q; cases q)
  refine hide fun PP hPP => ?_
  obtain ⟨vs, sl, de, es, n, a1, a2, a3, a4, a5, a6⟩ := id x3.ex
  have hLs : ∃ o, h₁.get? L = some o := by obtain ⟨o, _, _, q, _⟩ := F.ns; exact ⟨o, q⟩
  have gone : ∀ {b}, h₁.get? b = none → s.heap.get? b = none ∧ b ≠ L := fun {b} q => by
    refine ⟨?_, fun z => ?_⟩
    · cases z : s.heap.get? b with
      | none => rfl
      | some o => rw [F.keep _ _ z] at q; cases q
    · obtain ⟨o, z2⟩ := hLs; rw [z, z2] at q; cases q
  obtain ⟨g', F2, N2, st2, hl2, up2, _⟩ := rebase (as := [e, de]) (mu' := [(e, ⟨.ref 52, some de, .fields vs, sl⟩), (de, dictOf es n)]) F h0 hl (x3.up.mono (by simp) fun _ q => q)
    (by intro a ha; simp only [List.mem_cons, List.not_mem_nil, or_false] at ha; rcases ha with rfl | rfl <;> first | exact gone x3.new | exact gone a3)
    (by intro q hq; simp only [List.mem_cons, List.not_mem_nil, or_false] at hq; rcases hq with rfl | rfl <;> first | exact ⟨a1, .inl (.head _)⟩ | exact ⟨a4, .inl (.tail _ (.head _))⟩)
  have B2 := B0.keeps st2
  have X2 := B2.X
  have T2 := B2.T
  clear N'
  refine hPP ?_
  clear hPP PP
  k_steps
  refine exc_match exc52 (X2.keeps F2.keep) a1 rfl (codeAny_handlers_suite_as ?_)
  refine thr_flight x3 fun h4 x4 => ?_
  clear a1 a2 a3 a4 a5 a6 N2 F2 st2 up2 hl2 B2 X2 T2
  refine hide fun PP hPP => ?_
  obtain ⟨vs, sl, de, es, n, a1, a2, a3, a4, a5, a6⟩ := id x4.ex
  obtain ⟨g', F2, N2, st2, hl2, up2, _⟩ := rebase (as := [e, de]) (mu' := [(e, ⟨.ref 52, some de, .fields vs, sl⟩), (de, dictOf es n)]) F h0 hl (x4.up.mono (by simp) fun _ q => q)
    (by intro a ha; simp only [List.mem_cons, List.not_mem_nil, or_false] at ha; rcases ha with rfl | rfl <;> first | exact gone x4.new | exact gone a3)
    (by intro q hq; simp only [List.mem_cons, List.not_mem_nil, or_false] at hq; rcases hq with rfl | rfl <;> first | exact ⟨a1, .inl (.head _)⟩ | exact ⟨a4, .inl (.tail _ (.head _))⟩)
  have B2 := B0.keeps st2
  have X2 := B2.X
  have T2 := B2.T
  clear x x2 x3 x4 F
  refine hPP ?_
  clear hPP PP
  k_steps
  rename Fr _ _ _ _ => kF
  rename News _ _ _ _ => kN
  refine exc_get (X2.keeps kF.keep) ⟨(kN _ (.head _)).1, rfl, rfl, (kN _ (.tail _ (.head _))).1⟩ (by k_is) (by k_is) (by k_is) rfl (findObj_own (od := dictOf es n) (by k_is) (by k_is) (by k_is) a5) ?_ rfl
  k_steps

  rename Fr _ _ _ _ => kF
  exact h _ _ _ (Up.trans up2 (Up.of_keeps fun b o q _ => kF.keep b o q))
end

theorem fresh_but {h g : Heap} {D : Addr} {as : List Addr} (kp : KeepsBut as h g) (hn : g.get? D = none) (nm : D ∉ as) : h.get? D = none := by
  cases z : h.get? D with
  | none => rfl
  | some o => rw [kp D o z nm] at hn; cases hn
theorem len_le {l : List Value} (h : l.length ≤ 16384) : l.toArray.toList.length ≤ sizeLine := by rw [sizeLine_eq]; exact Nat.le_trans h (by decide)
theorem siz_le {l : List Value} (h : l.length ≤ 16384) : l.toArray.size ≤ sizeLine := by rw [sizeLine_eq]; exact Nat.le_trans h (by decide)
set_option hygiene true in
local macro_rules | `(tactic| walk_at "call builtin:list.pop") => `(tactic| (k_here; k_dflt (refine' kl_pop ?F ?N ?e ?U ?z ?_; (case F => k_asm); (case N => k_asm); (case U => k_upd); (case e => exact kpa_last _ _); (case z => exact len_le (by assumption))); intro h₉ F₉ N₉; (try dsimp only at N₉)))
local macro_rules | `(tactic| walk_at "call builtin:list.append") => row [tSh (ap `call [(ap `Value.builtin [b_]), `([Value.ref _, _])]), tTo `append_K [bK, bK, (bY (`(tactic| k_upd))), bH, (ap `siz_le [bA])], tIntros, tSweep]
local macro_rules | `(tactic| walk_at "call type:list") => row [tSh (ap `call [(ap `Value.type [b_]), `([Value.ref _])]), tRef `kup_listOf [bK, bK, bM, bR, bH, (ap `len_le [bA])], tIntro [`D₉, `c₉, `h₉, `F₉, `N₉, `l₉], tOff, tSweep]
noncomputable def signIn (t : Tok0) (xs : List Str) : Bool := match t.sign with | some x => xs.any (· == x) | none => false
section
variable {prog : Program} {w : World} {p : Program} {loose : List Str} {mean : ExcName → Option Value} {mg mb : Str → Option Value} {row : List Tok0} {aRow : Addr} {ts rs : List Addr}
  {dp un : Nat} {fr : Option (List Env)} {gd : Option (List Code)} {s : Shared} {Q E : Value → Shared → Prop} {h₀ : Heap}
  {aR dR aT aSc aCl aS aM aSS aB : Addr} {kt : Nat → Tok} {tb last : Value} {pl j : Nat} {tp tq : Tok} {nd ba : Bool} {n nM : Nat} {oS : Obj} {sc : List Sc}
theorem at_op_at {vs : List Value} {xs : List Str} {aV : Addr} (C : Cx w p loose mean mg mb row aT aRow ts rs s.heap) (hr : dp + 4 < recursionLimit)
    (hi : s.heap.get? aR = some (instObj 188 dR)) (hd : s.heap.get? dR = some (rdDict w kt aT tb pl tp last aSc aCl nd ba n)) (hv : IsTup s.heap aV vs.toArray) (hs : StrsAre vs xs) 
    (h : ∀ b h' tk', s.heap.StaysIn h' → b = (((cur row pl).kind == Str.ofString "op") && signIn (cur row pl) xs) → Q (.bool b) { s with heap := h', toks := tk' }) :
    wpAny (model prog w) (ar dp un fr gd) (call (.ref 128) [.ref aR, .ref aV]) Q E s := by
  refine wpAny_call ?_
  have B := C.base
  obtain ⟨X, T⟩ := id B
  obtain ⟨dx, kt2, n2, tz, t1, t2, t3, hti, htd⟩ := C.tokAt pl
  kc_enter
  intro L h₁ m0 hm0 F N'
  dsimp only
  k_unmd
  k_fold
  k_steps
  · rename_i e1
    have e2 : (cur row pl).kind = Str.ofString "op" := by simpa using e1
    have e3 := C.op pl e2
    obtain ⟨x, e4⟩ := Option.isSome_iff_exists.mp e3
    rw [e4]
    dsimp only [sv]
    rename Fr _ _ _ _ => kF
    refine in_tuple_strs (stays_tup kF.keep hv) hs ?_
    k_steps
    exact h _ _ _ kF.keep (by rw [e1, Bool.true_and]; unfold signIn; rw [e4])
  · rename_i e1
    rename Fr _ _ _ _ => kF
    have e2 : ¬ (cur row pl).kind = Str.ofString "op" := by simpa using e1
    exact h _ _ _ kF.keep (by rw [e1]; rfl)
theorem outer_at {its : List Value} {cls : List Value} {v c : Value} {n1 n2 : Nat} (B : Base w p loose mean mg mb h₀) (hA : At h₀ s.heap [(aR, instObj 188 dR), (dR, rdDict w kt aT tb pl tp last aSc aCl nd ba n), (aSc, listOf (its ++ [v]).toArray n1), (aCl, listOf (cls ++ [c]).toArray n2)]) (hnd : [aR, dR, aSc, aCl].Nodup) (hz1 : (its ++ [v]).length ≤ 16384) (hz2 : (cls ++ [c]).length ≤ 16384) (hr : dp + 4 < recursionLimit)
    (h : ∀ n1' n2' h' tk', KeepsBut [aSc, aCl] s.heap h' → h'.get? aSc = some (listOf its.toArray n1') → h'.get? aCl = some (listOf cls.toArray n2') → Q .none { s with heap := h', toks := tk' }) :
    wpAny (model prog w) (ar dp un fr gd) (call (.ref 157) [.ref aR]) Q E s := by
  refine wpAny_call ?_
  have X0 := Frag.In.keeps B.X hA.1
  simp only [List.nodup_cons, List.mem_cons, List.not_mem_nil, not_or, or_false, not_false_eq_true, List.nodup_nil, and_true] at hnd
  obtain ⟨⟨q1, q2, q3⟩, ⟨q4, q5⟩, q6⟩ := hnd
  ktr_enter
  intro g L h₁ m0 hm0 F N' X T st hlt kp
  dsimp only
  k_unmd
  k_fold
  k_steps
  rename Fr _ _ _ _ => kF
  rename News _ _ _ _ => kN
  refine h _ _ _ _ (fun b o e nb => ?_) (News.get kN (.tail _ (.tail _ (.head _)))) (News.get kN (.tail _ (.tail _ (.tail _ (.head _)))))
  simp only [List.mem_cons, List.not_mem_nil, or_false, not_or] at nb
  by_cases z : b = aR
  · subst z; rw [(hA.2 _ (.head _)).1] at e; cases e; exact News.get kN (.head _)
  · by_cases z2 : b = dR
    · subst z2; rw [(hA.2 _ (.tail _ (.head _))).1] at e; cases e; exact News.get kN (.tail _ (.head _))
    · exact kF.keep _ _ (kp b o e (by simp; exact ⟨z, z2, nb.1, nb.2⟩))
theorem inner_at {its : List Value} {cls : List Value} {vs : List Value} {aN : Addr} {b : Bool} {n1 n2 n3 : Nat} (B : Base w p loose mean mg mb h₀) (hA : At h₀ s.heap [(aR, instObj 188 dR), (dR, rdDict w kt aT tb pl tp last aSc aCl nd ba n), (aSc, listOf its.toArray n1), (aCl, listOf cls.toArray n2), (aN, listOf vs.toArray n3)]) (hnd : [aR, dR, aSc, aCl, aN].Nodup) (hz1 : its.length ≤ 16384) (hz2 : cls.length ≤ 16384) (hz3 : vs.length ≤ 16384) (hr : dp + 4 < recursionLimit)
    (h : ∀ D n1' n2' n3' h' tk', s.heap.get? D = none → aR < D ∧ dR < D ∧ aSc < D ∧ aCl < D ∧ aN < D → KeepsBut [aSc, aCl] s.heap h' → h'.get? aSc = some (listOf (its ++ [Value.ref D]).toArray n1') → h'.get? aCl = some (listOf (cls ++ [Value.bool b]).toArray n2') → h'.get? D = some (listOf vs.toArray n3') → Q .none { s with heap := h', toks := tk' }) :
    wpAny (model prog w) (ar dp un fr gd) (call (.ref 150) [.ref aR, .ref aN, .bool b]) Q E s := by
  refine wpAny_call ?_
  have X0 := Frag.In.keeps B.X hA.1
  simp only [List.nodup_cons, List.mem_cons, List.not_mem_nil, not_or, or_false, not_false_eq_true, List.nodup_nil, and_true] at hnd
  obtain ⟨⟨q1, q2, q3, q4⟩, ⟨q5, q6, q7⟩, ⟨q8, q9⟩, q10⟩ := hnd
  ktr_enter
  intro g L h₁ m0 hm0 F N' X T st hlt kp
  dsimp only
  k_unmd
  k_fold
  k_steps
  rename Fr _ _ _ _ => kF
  rename News _ _ _ _ => kN
  try rw [List.push_toArray, List.push_toArray] at kN
  refine h _ _ _ _ _ _ (fresh_but kp (kN _ (.head _)).2.2 (fun q => by (rename _ ∧ _ ∧ _ ∧ _ ∧ _ => l1); simp only [List.map_cons, List.map_nil, List.mem_cons, List.not_mem_nil, or_false] at q; obtain ⟨l1, l2, l3, l4, l5⟩ := l1; rcases q with q | q | q | q | q <;> exact absurd q (Nat.ne_of_gt (by assumption)))) (by assumption) (fun b o e nb => ?_) (News.get kN (.tail _ (.tail _ (.tail _ (.head _))))) (News.get kN (.tail _ (.tail _ (.tail _ (.tail _ (.head _)))))) (News.get kN (.head _))
  simp only [List.mem_cons, List.not_mem_nil, or_false, not_or] at nb
  by_cases z : b = aR
  · subst z; rw [(hA.2 _ (.head _)).1] at e; cases e; exact News.get kN (.tail _ (.head _))
  · by_cases z2 : b = dR
    · subst z2; rw [(hA.2 _ (.tail _ (.head _))).1] at e; cases e; exact News.get kN (.tail _ (.tail _ (.head _)))
    · by_cases z3 : b = aN
      · subst z3; rw [(hA.2 _ (.tail _ (.tail _ (.tail _ (.tail _ (.head _)))))).1] at e; cases e; exact News.get kN (.tail _ (.tail _ (.tail _ (.tail _ (.tail _ (.head _))))))
      · exact kF.keep _ _ (kp b o e (by simp; exact ⟨z, z2, nb.1, nb.2, z3⟩))
end

theorem stay_all {h₀ h g h' : Heap} {L : Addr} {m : Str → Option Value} {mu : List (Addr × Obj)} (hA : At h₀ h mu) (kp : KeepsBut (mu.map (·.1)) h g) (F : Fr g L h' m) (N : News g L h' mu) : h.StaysIn h' := fun b o e => by
  by_cases q : b ∈ mu.map (·.1)
  · obtain ⟨p, hp, rfl⟩ := List.mem_map.mp q
    rw [(hA.2 p hp).1] at e; cases e; exact (N p hp).1
  · exact F.keep _ _ (kp b o e q)
theorem list_but {h g : Heap} {as : List Addr} {a : Addr} {its : Array Value} (kp : KeepsBut as h g) (hl : h.IsList a its) (nm : a ∉ as) : g.IsList a its := by
  obtain ⟨o, e, r⟩ := hl
  exact ⟨o, kp _ _ e nm, r⟩
theorem scs_last {h : Heap} {aSc aCl : Addr} {lo : List Sc} {c : Sc} (S : ScsAt h aSc aCl (lo ++ [c])) : h.IsList aSc ((lo.map fun c => Value.ref c.an) ++ [Value.ref c.an]).toArray := by
  have := S.l; rwa [List.map_append] at this
local macro_rules | `(tactic| walk_at "subscriptTail") => row [tSh (ap `subscriptTail [b_, b_, (ap `Value.ref [b_]), (ap `Value.int [`((-1)), b_])]), tRef `item_last [bL, bH]]
theorem keeps_ws {h₀ h g h' : Heap} {L : Addr} {m : Str → Option Value} {mu mu' : List (Addr × Obj)} {ws : List Addr} (hA : At h₀ h mu) (kp : KeepsBut (mu.map (·.1)) h g) (F : Fr g L h' m) (N : News g L h' mu') (hw : ∀ q ∈ mu, q.1 ∈ ws ∨ q ∈ mu') : KeepsBut ws h h' := fun b o e nb => by
  by_cases q : b ∈ mu.map (·.1)
  · obtain ⟨p, hp, rfl⟩ := List.mem_map.mp q
    rcases hw p hp with z | z
    · exact absurd z nb
    · rw [(hA.2 p hp).1] at e; cases e; exact (N p z).1
  · exact F.keep _ _ (kp b o e q)
local macro_rules | `(tactic| kwd_same1) => tFirst [tEx (ap `ScsAt.keeps [bA, bFr]), tA]
local macro_rules | `(tactic| kwd_same2) => tFirst [tEx (ap `StsAt.keeps [bA, bFr]), tA]
section
variable {prog : Program} {w : World} {p : Program} {loose : List Str} {mean : ExcName → Option Value} {mg mb : Str → Option Value} {row : List Tok0} {aRow : Addr} {ts rs : List Addr}
  {dp un : Nat} {fr : Option (List Env)} {gd : Option (List Code)} {s : Shared} {Q E : Value → Shared → Prop} {h₀ : Heap}
  {aR dR aT aSc aCl aS aM aSS aB : Addr} {kt : Nat → Tok} {tb last : Value} {pl j : Nat} {tp tq : Tok} {nd ba : Bool} {n nM : Nat} {oS : Obj} {sc : List Sc}
theorem declare_at {x : Str} {tx : Tok} {lo : List Sc} {c : Sc} {vs : List Value} {nv : Nat} (C : Cx w p loose mean mg mb row aT aRow ts rs h₀) (hA : At h₀ s.heap [(aR, instObj 188 dR), (dR, rdDict w kt aT tb pl tp last aSc aCl nd ba n), (c.an, listOf vs.toArray nv)])
    (hnd : [aR, dR, c.an, aSc].Nodup) (hr : dp + 6 < recursionLimit) (S : ScsAt s.heap aSc aCl (lo ++ [c])) (hz : vs.length ≤ 16384)
    (h1 : known (lo ++ [c]) x = true → ∀ h' tk', s.heap.StaysIn h' → Q .none { s with heap := h', toks := tk' })
    (h2 : known (lo ++ [c]) x = false → ∀ n' t' h' tk', KeepsBut [c.an] s.heap h' → h'.get? c.an = some (listOf (vs ++ [Value.str x t']).toArray n') → Q .none { s with heap := h', toks := tk' }) :
    wpAny (model prog w) (ar dp un fr gd) (call (.ref 135) [.ref aR, .str x tx]) Q E s := by
  refine wpAny_call ?_
  have B := C.base
  have X0 := Frag.In.keeps B.X hA.1
  simp only [List.nodup_cons, List.mem_cons, List.not_mem_nil, not_or, or_false, not_false_eq_true, List.nodup_nil, and_true] at hnd
  obtain ⟨⟨q1, q2, q3⟩, ⟨q4, q5⟩, q6⟩ := hnd
  ktr_enter
  intro g L h₁ m0 hm0 F N' X T st hlt kp
  have C' := C.keeps st
  have S1 := S.keeps (stay_all hA kp F N')
  have hL := list_but kp (scs_last S) (by simp; exact ⟨Ne.symm q3, Ne.symm q5, Ne.symm q6⟩)
  dsimp only
  k_unmd
  k_fold
  k_steps
  · rename Fr _ _ _ _ => kF
    rename News _ _ _ _ => kN
    exact h1 ((by assumption : _ = known _ _).symm.trans (by assumption)) _ _ (stay_all hA kp kF kN)
  · rename Fr _ _ _ _ => kF
    rename News _ _ _ _ => kN
    try rw [List.push_toArray] at kN
    exact h2 ((by assumption : _ = known _ _).symm.trans (by assumption)) _ _ _ _ (keeps_ws hA kp kF kN (by intro q hq; simp only [List.mem_cons, List.not_mem_nil, or_false] at hq ⊢; rcases hq with rfl | rfl | rfl <;> simp)) (News.get kN (.tail _ (.tail _ (.head _))))
end

theorem code304 {w : World} {h : Heap} (X : (k0.heap_1 w.params).In h) : CodeHd h 304 300 :=
  ⟨_, _, _, _, _, _, _, _, _, X _ _ (by k_is), rfl, rfl, rfl, rfl, rfl, rfl, rfl, rfl, by decide⟩
/-- the eight sorts of the text's own list -/
noncomputable abbrev sorts8 : List Value := [.ref 214, .ref 215, .ref 216, .ref 217, .ref 218, .ref 219, .ref 220, .ref 221]
theorem sorts_at {w : World} {h : Heap} (X : (k0.heap_1 w.params).In h) : h.IsList 222 sorts8.toArray := list_get (X _ _ (by k_is))
noncomputable def SortAt (h : Heap) (a : Addr) (k : Str) (v : Option Str) : Prop := ∃ t1 t2, IsTup h a [.str k t1, sv v t2].toArray
theorem SortAt.of {h : Heap} {a : Addr} {k : Str} {v : Option Str} {t1 t2 : Tok} {n : Nat} (e : h.get? a = some (tupObj [.str k t1, sv v t2] n)) : SortAt h a k v := ⟨t1, t2, _, e, rfl, n, rfl⟩
noncomputable def short (k : Str) (v : Option Str) : Prop := okS k = true ∧ v.all okS = true
theorem sort8 {w : World} {h : Heap} (X : (k0.heap_1 w.params).In h) {d : Int} (h0 : 0 ≤ d) (h1 : d < 8) :
    ∃ a k v, sorts8[d.toNat]? = some (.ref a) ∧ SortAt h a k v ∧ short k v ∧ (k = Str.ofString "op" → v.isSome = true) := by
  obtain ⟨n, rfl⟩ := Int.eq_ofNat_of_zero_le h0
  have hd : n < 8 := Int.ofNat_lt.mp h1
  clear h0 h1
  rcases n with _ | _ | _ | _ | _ | _ | _ | _ | n
  · exact ⟨214, Str.ofString "ident", some (Str.ofString "a"), rfl, .of (X _ _ (by k_is)), ⟨by decide +kernel, by decide +kernel⟩, by decide +kernel⟩
  · exact ⟨215, Str.ofString "ident", some (Str.ofString "b"), rfl, .of (X _ _ (by k_is)), ⟨by decide +kernel, by decide +kernel⟩, by decide +kernel⟩
  · exact ⟨216, Str.ofString "op", some (Str.ofString "("), rfl, .of (X _ _ (by k_is)), ⟨by decide +kernel, by decide +kernel⟩, by decide +kernel⟩
  · exact ⟨217, Str.ofString "op", some (Str.ofString ")"), rfl, .of (X _ _ (by k_is)), ⟨by decide +kernel, by decide +kernel⟩, by decide +kernel⟩
  · exact ⟨218, Str.ofString "op", some (Str.ofString "+"), rfl, .of (X _ _ (by k_is)), ⟨by decide +kernel, by decide +kernel⟩, by decide +kernel⟩
  · exact ⟨219, Str.ofString "kw", some (Str.ofString "do"), rfl, .of (X _ _ (by k_is)), ⟨by decide +kernel, by decide +kernel⟩, by decide +kernel⟩
  · exact ⟨220, Str.ofString "nl", none, rfl, .of (t2 := 0) (X _ _ (by k_is)), ⟨by decide +kernel, by decide +kernel⟩, by decide +kernel⟩
  · exact ⟨221, Str.ofString "nl", none, rfl, .of (t2 := 0) (X _ _ (by k_is)), ⟨by decide +kernel, by decide +kernel⟩, by decide +kernel⟩
  · exact absurd hd (Nat.not_lt.mpr (Nat.le_add_left 8 n))
theorem sort10 {w : World} {h : Heap} (X : (k0.heap_1 w.params).In h) {D1 D2 : Addr} {t1 t2 : Tok} {n1 n2 : Nat} (e1 : h.get? D1 = some (tupObj [.str (Str.ofString "eof") t1, .none] n1)) (e2 : h.get? D2 = some (tupObj [.str (Str.ofString "op") t2, .none] n2)) {d : Int} (h0 : 0 ≤ d) (h1 : d < 10) :
    ∃ a k v, (sorts8 ++ [Value.ref D1, Value.ref D2])[d.toNat]? = some (.ref a) ∧ SortAt h a k v ∧ short k v := by
  by_cases h8 : d < 8
  · obtain ⟨a, k, v, a1, a2, a3, _⟩ := sort8 X h0 h8
    exact ⟨a, k, v, by rw [List.getElem?_append_left (by show d.toNat < 8; omega)]; exact a1, a2, a3⟩
  · have hd : d = 8 ∨ d = 9 := by omega
    rcases hd with rfl | rfl
    · exact ⟨D1, Str.ofString "eof", none, rfl, .of (t2 := 0) e1, ⟨by decide +kernel, by decide +kernel⟩⟩
    · exact ⟨D2, Str.ofString "op", none, rfl, .of (t2 := 0) e2, ⟨by decide +kernel, by decide +kernel⟩⟩
theorem short_k {k : Str} {v : Option Str} (x : short k v) : k.length ≤ 20 := by
  have := x.1
  simp only [okS, Bool.and_eq_true, decide_eq_true_eq] at this
  exact this.2
theorem short_v {k : Str} {v : Option Str} (x : short k v) : ∀ y, v = some y → y.length ≤ 20 := fun y e => by
  subst e
  have := x.2
  simp only [Option.all_some, okS, Bool.and_eq_true, decide_eq_true_eq] at this
  exact this.2
section
variable {prog : Program} {w : World} {A : Around} {E : Value → Shared → Prop} {s : Shared} {D D1 D2 : Addr} {t1 t2 u : Tok} {n1 n2 : Nat} {d : Int} {Q : Value → Shared → Prop} {value slice : Expr}
theorem item10 (X : (k0.heap_1 w.params).In s.heap) (hl : s.heap.IsList D (sorts8 ++ [Value.ref D1, Value.ref D2]).toArray) (e1 : s.heap.get? D1 = some (tupObj [.str (Str.ofString "eof") t1, .none] n1)) (e2 : s.heap.get? D2 = some (tupObj [.str (Str.ofString "op") t2, .none] n2))
    (h0 : 0 ≤ d) (h1 : d < 10) (h : ∀ aK k v tk1 tk2, IsTup s.heap aK [.str k tk1, sv v tk2].toArray → short k v → Q (.ref aK) s)
    (hs : subscripted slice false (.ref D) (.int d u) = operate [.ref D, .int d u] (getItem (.ref D) (.int d u)) := by with_unfolding_all rfl) :
    wpAny (model prog w) A (subscriptTail value slice (.ref D) (.int d u)) Q E s := by
  obtain ⟨a, k, v, a1, ⟨tk1, tk2, a2⟩, a3⟩ := sort10 X e1 e2 h0 h1
  exact item_at hl h0 (Int.lt_trans h1 (by decide)) a1 (h a k v tk1 tk2 a2 a3) hs
theorem item8 (X : (k0.heap_1 w.params).In s.heap) (h0 : 0 ≤ d) (h1 : d < 8) (h : ∀ aK k v tk1 tk2, IsTup s.heap aK [.str k tk1, sv v tk2].toArray → short k v → (k = Str.ofString "op" → v.isSome = true) → Q (.ref aK) s)
    (hs : subscripted slice false (.ref 222) (.int d u) = operate [.ref 222, .int d u] (getItem (.ref 222) (.int d u)) := by with_unfolding_all rfl) :
    wpAny (model prog w) A (subscriptTail value slice (.ref 222) (.int d u)) Q E s := by
  obtain ⟨a, k, v, a1, ⟨tk1, tk2, a2⟩, a3, a4⟩ := sort8 X h0 h1
  exact item_at (sorts_at X) h0 (Int.lt_trans h1 (by decide)) a1 (h a k v tk1 tk2 a2 a3 a4) hs
end
theorem below_ne {news : List (Addr × Obj)} {d a : Addr} {o : Obj} (h : ∀ p ∈ news, p.1 < d) (m : (a, o) ∈ news) : d ≠ a := Nat.ne_of_gt (h _ m)
theorem below_lt {news : List (Addr × Obj)} {d a : Addr} {o : Obj} (h : ∀ p ∈ news, p.1 < d) (m : (a, o) ∈ news) : a < d := h _ m
theorem apart_ne {news : List (Addr × Obj)} {d a : Addr} {o : Obj} (h : ∀ p ∈ news, p.1 ≠ d) (m : (a, o) ∈ news) : a ≠ d := h _ m
local macro_rules | `(tactic| k_lt $_:ident) => `(tactic| skip)
local macro_rules | `(tactic| lcg_src) => tFirst [tWA, tEx (ap `below_lt [bW, bM]), tA]
local macro_rules | `(tactic| k_ne) => tSeq [tDs, tFirst [tWA, tEx (ap `Ne.symm [bW]), tEx (ap `Nat.ne_of_lt [bW]), tEx (ap `Nat.ne_of_gt [bW]), tEx (ap `below_ne [bW, bM]), tEx (ap `Ne.symm [(ap `below_ne [bW, bM])]), tEx (ap `apart_ne [bW, bM]), tEx (ap `Ne.symm [(ap `apart_ne [bW, bM])]), tSeq [tRf (ap `neN [bH]), tOm]]]
local macro_rules | `(tactic| walk_at "subscriptTail") => row [tSh (ap `subscriptTail [b_, b_, (ap `Value.ref [b_]), (ap `Value.int [b_, b_])]), tTo `item10 [bX, bLn, bNew, bNew, bWO, bWO, bH], tIntros]
local macro_rules | `(tactic| walk_at "call ref") => row [tAt 99, tTo `accept_at [bA, bAt2, bA, bRoom, bH, bH], `(tactic| all_goals (first | (intros; ktf_step) | (intros; kwd_inv)))]
local macro_rules | `(tactic| walk_at "call ref") => row [tAt 107, tTo `expect_yes [bA, bAt2, bA, bRoom, (ap `Eq.trans [(ap `Eq.symm [bA]), bA]), bH], tIntros, tStep]
section
variable {prog : Program} {w : World} {p : Program} {loose : List Str} {mean : ExcName → Option Value} {mg mb : Str → Option Value} {row : List Tok0} {aT aRow : Addr} {ts rs : List Addr} {A : Around} {E : Value → Shared → Prop} {s : Shared} {a : Addr} {i : Nat} {t1 t2 t3 : Tok} {Q : Value → Shared → Prop}
theorem row_eqC (C : Cx w p loose mean mg mb row aT aRow ts rs s.heap) (ra : IsTup s.heap a [.str (cur row i).kind t1, sv (cur row i).sign t2, .int (cur row i).line t3].toArray) (hu : A.units + 64 < cLine) (h : Q (.bool true) s) :
    wpAny (model prog w) A (compareOp .Eq (.ref a) (.ref (adr rs i))) Q E s := by
  obtain ⟨u1, u2, u3, rb⟩ := C.rowAt i
  exact row_eq (C.okAt i) ra rb hu h
end
local macro_rules | `(tactic| walk_at "compareOp Eq ref ref") => row [tSh (ap `compareOp [b_, (ap `Value.ref [b_]), (ap `Value.ref [(ap `adr [b_, b_])])]), tTo `row_eqC [bCx, bTup, bU, bH]]
section
variable {prog : Program} {w : World} {p : Program} {loose : List Str} {mean : ExcName → Option Value} {mg mb : Str → Option Value} {row : List Tok0} {aT aRow : Addr} {ts rs : List Addr} {A : Around} {E : Value → Shared → Prop} {s : Shared} {a : Addr} {i : Nat} {t2 : Tok} {Q : Value → Shared → Prop}
theorem in_sign {vs : List Value} {xs : List Str} (C : Cx w p loose mean mg mb row aT aRow ts rs s.heap) (hk : ((cur row i).kind == Str.ofString "op") = true) (ht : IsTup s.heap a vs.toArray) (hs : StrsAre vs xs)
    (h : Q (.bool (signIn (cur row i) xs)) s) : wpAny (model prog w) A (compareOp .In (sv (cur row i).sign t2) (.ref a)) Q E s := by
  have e2 : (cur row i).kind = Str.ofString "op" := by simpa using hk
  obtain ⟨x, e4⟩ := Option.isSome_iff_exists.mp (C.op i e2)
  rw [e4]
  refine in_tuple_strs ht hs ?_
  have e5 : signIn (cur row i) xs = xs.any (· == x) := by unfold signIn; rw [e4]
  rw [e5] at h; exact h
end
local macro_rules | `(tactic| walk_at "compareOp In") => row [tSh (ap `compareOp [(ap `CmpOp.In []), (ap `sv [b_, b_]), (ap `Value.ref [b_])]), tTo `in_sign [bCx, bA, bTup, bCons, bH]]
local macro_rules | `(tactic| walk_at "call ref") => row [tAt 128, tTo `at_op_at [bCx, bRoom, bRel, bRel, bTup, bCons, bH], tIntros, tInv]

theorem frames_pushE {h₀ g h : Heap} {L : Addr} {m : Str → Option Value} {env : Env} {l : List Env} (F : Fr g L h m) (hl : g.FunFrames h₀ l) (h0 : h₀.StaysIn g) (hf : env.frame = some L) (hk : env.scope.kind ≠ .module) : h.FunFrames h₀ (env :: l) := by
  have hLB : h₀.get? L = none := by
    cases z : h₀.get? L with
    | none => rfl
    | some o => exact absurd (Heap.lt_size (h0 _ _ z)) (Nat.not_lt.mpr F.above)
  exact Heap.FunFrames.cons hk hf F.ns hLB (hl.of_keeps fun b o e _ => ⟨o, F.keep b o e, rfl⟩)
theorem fa_cons {env : Env} {L : Addr} {l : List Env} (hf : env.frame = some L) : fa (env :: l) = L :: fa l := by
  simp only [fa, List.filterMap_cons, hf]
/-- leaving any frame -/
theorem thr_leaveE {A : Around} {M : Model} {E : Value → Shared → Prop} {s : Shared} {B g h₁ : Heap} {L C e : Addr} {m : Str → Option Value} {env : Env} {l : List Env} {ln : Value} {fl : Option Value} {Q : Unit → Shared → Prop}
    (hfr : A.frames = some l) (F : Fr g L h₁ m) (hl : g.FunFrames B l) (hfl : fl = none ∨ fl = some .none) (hB : B.StaysIn g) (hf : env.frame = some L) (hk : env.scope.kind ≠ .module)
    (x : Thr C h₁ (fa (env :: l)) e ln fl s.heap) (hQ : ∀ h', Thr C g (fa l) e ln (some .none) h' → Q () { s with heap := h' }) :
    wpAny M (A.deeper env) (leaving env (.ref e)) Q E s := by
  have hl1 := frames_pushE F hl hB hf hk
  unfold leaving
  refine wpAny_bind (thr_note (Around.frames_deeper hfr) hl1 hf hfl x fun h2 x2 => ?_)
  refine thr_flight x2 fun h3 x3 => hQ h3 (x3.less (Up.after F ?_) F.keep)
  have := x3.up
  rwa [fa_cons hf] at this
/-- a code record by its name -/
noncomputable def CodeOk (h : Heap) (c : Addr) (q : Str) : Prop := ∃ oc vs t, h.get? c = some oc ∧ oc.data = .fields vs ∧ vs[1]? = some (.str q t)
theorem CodeOk.rec {h : Heap} {c : Addr} {q : Str} (x : CodeOk h c q) : h.CodeRec (.ref c) q := by
  obtain ⟨oc, vs, t, e, d, v⟩ := x; exact ⟨c, oc, vs, t, rfl, e, d, v⟩
theorem CodeOk.up {h h' : Heap} {c : Addr} {q : Str} {as fs : List Addr} (x : CodeOk h c q) (u : Up as fs h h') (n : c ∉ as) : CodeOk h' c q := by
  obtain ⟨oc, vs, t, e, d, v⟩ := x
  obtain ⟨sl, e2, _⟩ := u _ _ e n
  exact ⟨_, vs, t, e2, d, v⟩
theorem CodeOk.keeps {h h' : Heap} {c : Addr} {q : Str} (x : CodeOk h c q) (k : h.StaysIn h') : CodeOk h' c q := by
  obtain ⟨oc, vs, t, e, d, v⟩ := x; exact ⟨oc, vs, t, k _ _ e, d, v⟩
/-- such a record is no object of another kind -/
theorem CodeOk.ne {h : Heap} {c a : Addr} {q : Str} {o : Obj} (x : CodeOk h c q) (e : h.get? a = some o) (n : ∀ vs, o.data = .fields vs → ∀ y t, vs[1]? ≠ some (.str y t)) : c ≠ a := fun z => by
  obtain ⟨oc, vs, t, e2, d, v⟩ := x
  rw [z, e] at e2; cases e2
  exact n vs d _ _ v
theorem triples_snoc {l : List Value} {p : Pos} {c : Value} (h : TriplesOk l) : TriplesOk (l ++ [rawInt p.line, rawInt p.col, c]) := by
  fun_induction TriplesOk l with
  | case1 => exact True.intro
  | case2 i t j u c' r ih => exact ih h
  | case3 => exact h.elim
theorem among_snoc {l : List Value} {p q : Pos} {c c' : Value} (h : TriplesOk l) (hs : codeAmong p l = some c') : codeAmong p (l ++ [rawInt q.line, rawInt q.col, c]) = some c' := by
  fun_induction TriplesOk l with
  | case1 => cases hs
  | case2 i t j u c2 r ih =>
    simp only [List.cons_append, codeAmong] at hs ⊢
    split at hs
    · rw [if_pos (by assumption)]; exact hs
    · rw [if_neg (by assumption)]; exact ih h hs
  | case3 => exact h.elim
theorem among_other {l : List Value} {p q : Pos} {c : Value} (h : TriplesOk l) (hn : codeAmong p l = none) (ne : ¬ (q.line = p.line ∧ q.col = p.col)) : codeAmong p (l ++ [rawInt q.line, rawInt q.col, c]) = none := by
  fun_induction TriplesOk l with
  | case1 =>
    simp only [List.nil_append, rawInt, codeAmong]
    rw [if_neg]
    intro z
    simp only [Bool.and_eq_true, beq_iff_eq] at z
    exact ne ⟨by omega, by omega⟩
  | case2 i t j u c2 r ih =>
    simp only [List.cons_append, codeAmong] at hn ⊢
    split at hn
    · cases hn
    · rw [if_neg (by assumption)]; exact ih h hn
  | case3 => exact h.elim
/-- what a code table says of a place -/
noncomputable def PosOk (h : Heap) (ps : Array Value) (p : Pos) (q : Str) : Prop := codeAmong p ps.toList = none ∨ ∃ c, codeAmong p ps.toList = some (.ref c) ∧ CodeOk h c q
section
variable {M : Model} {A : Around} {E : Value → Shared → Prop} {s : Shared} {h₀ : Heap} {L a c P : Addr} {m mg mb : Str → Option Value} {cn : Str} {cs : Scope} {ccd : Value} {cl : List (Str × Addr)} {news : List (Addr × Obj)} {g : Obj → List (Addr × Obj)}
  {p : Program} {loose : List Str} {mean : ExcName → Option Value} {name qual : Str} {params : Arguments} {body : Expr} {scope : Scope} {ps : Array Value} {pos : Pos} {firstLine : Nat} {clos : List (Str × Addr)}
/-- a lambda, its code made or found -/
theorem mk_lam {Q : Value → Shared → Prop} (F : Fr h₀ L s.heap m) (N : News h₀ L s.heap news) (T : Top p loose mean mg mb h₀) (C : CodeHd h₀ c P) (hcd : ccd = .ref c) (U : UpdF P (tabObj ps) news g) (ht : TriplesOk ps.toList) (hp : PosOk h₀ ps pos qual)
    (hcl : closureFor scope (envX cn cs L a ccd cl) = pure clos)
    (h : ∀ f c' ctv ps' h' tk, Fr h₀ L h' m → News h₀ L h' ((f, kla_obj name qual params body scope clos ((mg "__name__").getD .none) c' ctv) :: g (tabObj ps')) → CodeOk h' c' qual → codeAmong pos ps'.toList = some (.ref c') → (ps' = ps ∨ ps' = ps ++ #[rawInt pos.line, rawInt pos.col, .ref c']) →
      (∀ q ∈ news, q.1 < f) → Q (.ref f) { s with heap := h', toks := tk }) :
    wpAny M A (makeFunction name qual params (.expr body) scope (envX cn cs L a ccd cl) [] [] [] pos firstLine) Q E s := by
  rcases hp with hn | ⟨c', hf, hc⟩
  · refine kla_nest F N T C hcd U ht hn hcl fun f c' oc vs t ctv h' tk F' N' d v l1 l2 => ?_
    refine h f c' ctv _ h' tk F' (fun q hq => N' q ?_) ⟨oc, vs, t, (N' _ (.tail _ (.head _))).1, d, v⟩ ?_ (.inr rfl) (fun q hq => Nat.lt_trans (l1 q hq) l2)
    · rcases List.mem_cons.mp hq with rfl | hq
      · exact .head _
      · exact .tail _ (.tail _ hq)
    · rw [Array.toList_append]; exact codeAmong_snoc _ ht hn
  · obtain ⟨own, rest, rfl, hg, h1, h2⟩ := U.split
    refine kla_hit F N T C hcd (List.mem_append_right _ (.head _)) ht hf hcl fun f ctv h' tk F' N' l1 => ?_
    refine h f c' ctv ps h' tk F' (by rw [hg]; exact N') (hc.keeps F'.keep) hf (.inl rfl) l1
end
/-- entering a lambda without cells of its own -/
theorem enterL {prog : Program} {w : World} {A : Around} {s : Shared} {R : Result → Shared → Prop} {name qual : Str} {params : Arguments} {body : Expr} {scope : Scope} {cl : List (Str × Addr)} {pm ctv : Value} {c' f : Addr} {args : Args} {binds : List (Str × Value)}
    (hn : s.heap.NoLimit) (ho : s.heap.get? f = some (kla_obj name qual params body scope cl pm c' ctv)) (hcd : s.heap.CodeRec (.ref c') qual) (hroom : A.depth < recursionLimit)
    (hbind : bindArgs (kla_fn name qual params body scope cl pm (.ref c') ctv) args = pure binds) (hloc : ∀ y ∈ binds, scope.names.lookup y.1 = some .local)
    (h : ∀ L' h₁, Fr s.heap L' h₁ (fun y => binds.reverse.lookup y) → News s.heap L' h₁ [] →
      wpAny (model prog w) (A.deeper (envX qual scope L' f (.ref c') cl)) (eval body (envX qual scope L' f (.ref c') cl)) (fun v s' => R (.ok (.ret v)) s')
        (fun e s' => wpAny (model prog w) (A.deeper (envX qual scope L' f (.ref c') cl)) (leaving (envX qual scope L' f (.ref c') cl) e) (fun _ s'' => R (.error e) s'') (fun e' s'' => R (.error e') s'') s')
        { s with heap := h₁, toks := s.toks + binds.length })
    (hco : scope.isCoroutine = false) (hgen : scope.isGenerator = false) (hk : scope.kind = .function) (hcell : ∀ x ∈ scope.names, x.2 ≠ .cell) : codeAny (model prog w) A (.call (.ref f) args) R s := by
  refine kla_callFunE hroom ho rfl hco hgen rfl hcd ?_
  rw [hbind]
  refine wpAny_pure (wpAny_newFunctionEnv hcell hloc (fun h₁ hns hsb => ⟨hn.fresh _ hsb, ?_⟩) hk)
  show codeAny _ _ (.expr body (envX qual scope s.heap.objs.size f (.ref c') cl)) _ _
  have hk₁ : ∀ b o, s.heap.get? b = some o → h₁.get? b = some o := fun b o e => hsb.extBut b o (Nat.ne_of_lt (Heap.lt_size e)) (Heap.get?_push_of_some _ e)
  exact kla_codeExpr (h s.heap.objs.size h₁ ⟨hns, hk₁, Nat.le_refl _⟩ News.nil)
/-- a free name whose cell stands in the base -/
theorem name_B {M : Model} {A : Around} {E : Value → Shared → Prop} {s : Shared} {h₀ : Heap} {L a c : Addr} {m : Str → Option Value} {cn : Str} {cs : Scope} {ccd : Value} {cl : List (Str × Addr)} {x : Str} {pos : Pos} {v : Value} {o : Obj} {Q : Value → Shared → Prop}
    (F : Fr h₀ L s.heap m) (hc : cl.lookup x = some c) (e : h₀.get? c = some o) (hv : o.data = .cell (some v)) (h : Q v s)
    (hk : cs.kind = .function := by rfl) (hx : (envX cn cs L a ccd cl).kindOf x = some .free := by rfl) (hb : (x == ("__debug__" : Str)) = false := by decide) (hn : (x == ("__classdict__" : Str)) = false := by decide) :
    wpAny M A (eval (.Name x pos) (envX cn cs L a ccd cl)) Q E s := wpAny_Name (wpAny_loadName_free hk hx hc ⟨_, F.keep _ _ e, hv⟩ h hn) hb
local macro_rules | `(tactic| walk_at "eval Name") => row [tTo `name_B [bK, bRfl, bW, bW, bH, bRfl, bRfl]]

/-- standing anew upon the heap as it is, without the objects `as`: these go into the ledger -/
theorem rebaseH {g h₁ h' : Heap} {L : Addr} {m : Str → Option Value} {mu' : List (Addr × Obj)} {as : List Addr} (F : Fr g L h₁ m) (hL : ∀ o, h₁.get? L = some o → ∃ sl, h'.get? L = some { o with slots := sl })
    (hm : ∀ a ∈ as, a ≠ L) (h2 : ∀ q ∈ mu', h'.get? q.1 = some q.2 ∧ q.1 ∈ as) :
    ∃ g', Fr g' L h' m ∧ News g' L h' mu' ∧ (∀ b o, b < L → b ∉ as → h'.get? b = some o → g'.get? b = some o) ∧ (∀ b o, g'.get? b = some o → h'.get? b = some o) := by
  have old : ∀ b o, (hideAll (cutAt h' L) as).get? b = some o → h'.get? b = some o := fun b o e => by
    have e1 := of_hideAll _ e
    by_cases hb : b < L
    · rw [cutAt_get hb] at e1; exact e1
    · rw [Heap.get?_none_of_le (Nat.le_trans (cutAt_size _ _) (Nat.not_lt.mp hb))] at e1; cases e1
  refine ⟨hideAll (cutAt h' L) as, ⟨?_, old, ?_⟩, fun q hq => ⟨(h2 q hq).1, hm _ (h2 q hq).2, hideAll_none _ (h2 q hq).2⟩, fun b o hb nb e => hideAll_get _ ((cutAt_get hb).trans e) nb, old⟩
  · obtain ⟨oL, es, ep, hL1, r⟩ := F.ns
    obtain ⟨sl, e1⟩ := hL oL hL1
    exact ⟨_, es, ep, e1, r⟩
  · rw [hideAll_size]; exact cutAt_size _ _

local macro_rules | `(tactic| walk_at "binaryOp Add ref ref") => row [tSh (ap `binaryOp [b_, (ap `Value.ref [b_]), (ap `Value.ref [b_])]), tRef `kmk_add_lit [bK, bK, bL, bL, (bY (`(tactic| kl_lit))), bH, (bY (`(tactic| kl_room)))], tIntro [`D₉, `h₉, `F₉, `N₉, `l₉], tOff, tSweep]
noncomputable abbrev lamPos : Pos := { line := 173, col := 28, endLine := 173, endCol := 61 }
noncomputable abbrev lamQ : Str := Str.ofString "_law_looking.<locals>.<lambda>"
theorem updf_of {h₀ h : Heap} {L d : Addr} {news : List (Addr × Obj)} {o : Obj} {gf : Obj → List (Addr × Obj)} (_N : News h₀ L h news) (U : UpdF d o news gf) : UpdF d o news gf := U
theorem noRec {ps vs : Array Value} {oc : Obj} {y : Str} {t : Tok} (ht : TriplesOk ps.toList) (e : oc = tabObj ps) (q4 : oc.data = .fields vs) (q5 : vs[1]? = some (.str y t)) : False := by
  subst e; cases q4
  rw [← Array.getElem?_toList] at q5
  generalize ps.toList = zs at ht q5
  match zs, ht, q5 with
  | .int _ _ :: .int _ _ :: _ :: _, _, q => cases q
/-- what a look leaves -/
inductive LkPost (prog : Program) (w : World) (h₀ : Heap) (kt : Nat → Tok) (aT : Addr) (tb : Value) (ts rs : List Addr) (aRow aR dR aS aB aSc aCl aM aSS : Addr) (nd ba : Bool) (n : Nat) (b1 b2 : Int) (fs : List Addr) (h h' : Heap) : Prop
  | mk (pl' j' : Nat) (tp' tq' : Tok) (oS' : Obj) (b0' b1' : Int) (t0' t1' t2' : Tok) (nB' : Nat) (ps' : Array Value) (up : Up [dR, aS, aB, 300] fs h h') (g1 : h'.get? aR = some (instObj 188 dR)) (g2 : h'.get? dR = some (rdDict w kt aT tb pl' tp' (.ref (adr ts j')) aSc aCl nd ba n)) (g3 : h'.get? aS = some oS') (d : oS'.IsDictOf (strKind prog w) (stKvs aRow pl' tq' (.ref (adr rs j')) aM aSS)) (g4 : h'.get? aB = some (boxObj b0' b1' b2 t0' t1' t2' nB')) (c0 : 0 ≤ b0') (c1 : b0' < 10 ^ 90) (c2 : 0 ≤ b1') (c3 : b1' ≤ b1 + 2) (g5 : h'.get? 300 = some (tabObj ps')) (tr : TriplesOk ps'.toList) (po : PosOk h' ps' lamPos lamQ) (poC : ∀ c, codeAmong lamPos ps'.toList = some (.ref c) → h₀.get? c = none)
theorem PosOk.keeps {h h' : Heap} {ps : Array Value} {p : Pos} {q : Str} (x : PosOk h ps p q) (k : h.StaysIn h') : PosOk h' ps p q := by
  rcases x with x | ⟨c, x, y⟩
  · exact .inl x
  · exact .inr ⟨c, x, y.keeps k⟩
theorem lk_up {h₀ h g h' : Heap} {L : Addr} {m : Str → Option Value} {a1 a2 a3 a4 a5 : Addr} {o1 o2 o3 o4 o5 : Obj} {fs : List Addr} (hA : At h₀ h [(a1, o1), (a2, o2), (a3, o3), (a4, o4), (a5, o5)]) (u : Up [a1, a2, a3, a4, a5] fs h g) (F : Fr g L h' m) (e : h'.get? a1 = some o1) :
    Up [a2, a3, a4, a5] fs h h' := fun b o q nb => by
  by_cases z : b = a1
  · subst z
    rw [(hA.2 _ (.head _)).1] at q; cases q
    exact ⟨_, e, fun _ => rfl⟩
  · obtain ⟨sl, e1, k1⟩ := u b o q (by intro y; rcases List.mem_cons.mp y with y | y; exact z y; exact nb y)
    exact ⟨sl, F.keep _ _ e1, k1⟩
section
variable {prog : Program} {w : World} {p : Program} {loose : List Str} {mean : ExcName → Option Value} {mg mb : Str → Option Value} {row : List Tok0} {aRow : Addr} {ts rs : List Addr}
  {dp un : Nat} {l : List Env} {gd : Option (List Code)} {s : Shared} {Q E : Value → Shared → Prop} {h₀ : Heap}
  {aR dR aT aSc aCl aS aM aSS aB : Addr} {kt : Nat → Tok} {tb last : Value} {pl j : Nat} {tp tq : Tok} {nd ba : Bool} {n nM : Nat} {oS : Obj} {sc : List Sc}
theorem lk_mk {g h' : Heap} {L : Addr} {m : Str → Option Value} {o3 o4 o2 : Obj} {news : List (Addr × Obj)} {fs : List Addr} {pl' j' : Nat} {tp' tq' : Tok} {oS' : Obj} {b0' b1' b1 b2 : Int} {t0' t1' t2' : Tok} {nB' : Nat} {ps ps' : Array Value}
    (hA : At h₀ s.heap [(aR, instObj 188 dR), (dR, o2), (aS, o3), (aB, o4), (300, tabObj ps)]) (u : Up [aR, dR, aS, aB, 300] fs s.heap g) (hP : PosOk h' ps' lamPos lamQ) (hT : TriplesOk ps'.toList) (hO : ∀ c, codeAmong lamPos ps'.toList = some (.ref c) → h₀.get? c = none) (F : Fr g L h' m) (N : News g L h' news)
    (m1 : (aR, instObj 188 dR) ∈ news) (m2 : (dR, rdDict w kt aT tb pl' tp' (.ref (adr ts j')) aSc aCl nd ba n) ∈ news) (m3 : (aS, oS') ∈ news) (m4 : (aB, boxObj b0' b1' b2 t0' t1' t2' nB') ∈ news) (m5 : (300, tabObj ps') ∈ news)
    (d : oS'.IsDictOf (strKind prog w) (stKvs aRow pl' tq' (.ref (adr rs j')) aM aSS)) (c0 : 0 ≤ b0') (c1 : b0' < 10 ^ 90) (c2 : 0 ≤ b1') (c3 : b1' ≤ b1 + 2) :
    LkPost prog w h₀ kt aT tb ts rs aRow aR dR aS aB aSc aCl aM aSS nd ba n b1 b2 fs s.heap h' :=
  ⟨pl', j', tp', tq', oS', b0', b1', t0', t1', t2', nB', ps', lk_up hA u F (N.get m1), N.get m1, N.get m2, N.get m3, d, N.get m4, c0, c1, c2, c3, N.get m5, hT, hP, hO⟩
inductive SkS (prog : Program) (w : World) {news : List (Addr × Obj)} {gf : Obj → List (Addr × Obj)} {aS : Addr} {oS : Obj} (_U : UpdF aS oS news gf) (aRow aM aSS : Addr) (row : List Tok0) (rs : List Addr) (P j : Nat) (k : Nat) (m : Str → Option Value) (news' : List (Addr × Obj)) : Prop
  | mk (p' j' : Nat) (tq' : Tok) (oS' : Obj) (i1 : m (Str.ofString "state") = some (.ref aS)) (j2 : news' = gf oS') (j3 : oS'.IsDictOf (strKind prog w) (stKvs aRow p' tq' (.ref (adr rs j')) aM aSS)) (j4 : skipTo row p' j' = skipTo row P j) (j5 : k = row.length - p')
end

local macro_rules | `(tactic| walk_at "call ref") => stopAt 298
noncomputable abbrev noArgs : Arguments := { posonlyargs := [], args := [], vararg := none, kwonlyargs := [], kw_defaults := [], kwarg := none, defaults := [] }
section
variable {prog : Program} {w : World} {p : Program} {loose : List Str} {mean : ExcName → Option Value} {mg mb : Str → Option Value} {row : List Tok0} {aRow : Addr} {ts rs : List Addr}
  {dp un : Nat} {l : List Env} {gd : Option (List Code)} {s : Shared} {Q E : Value → Shared → Prop} {h₀ : Heap}
  {aR dR aT aSc aCl aS aM aSS aB : Addr} {kt : Nat → Tok} {tb last : Value} {pl j : Nat} {tp tq : Tok} {nd ba : Bool} {n nM : Nat} {oS : Obj} {sc : List Sc}
theorem expect_refused {f c' ck cr cs : Addr} {q k : Str} {v : Option Str} {t1 t2 : Tok} {o1 o2 o3 : Obj} {pm ctv : Value} (C0 : Cx w p loose mean mg mb row aT aRow ts rs h₀) (hr : dp + 50 < recursionLimit) (hu : un + 600 < cLine) (h0 : h₀.StaysIn s.heap) (hl : s.heap.FunFrames h₀ l)
    (hi : s.heap.get? aR = some (instObj 188 dR)) (hd : s.heap.get? dR = some (rdDict w kt aT tb pl tp last aSc aCl nd ba n))
    (hf : s.heap.get? f = some (kla_obj (Str.ofString "<lambda>") q noArgs
      (((Expr.Name (Str.ofString "reader") { line := 173, col := 36, endLine := 173, endCol := 42 }).Attribute (Str.ofString "expect") { line := 173, col := 36, endLine := 173, endCol := 49 }).Call
          [Expr.Name (Str.ofString "kind") { line := 173, col := 50, endLine := 173, endCol := 54 }, Expr.Name (Str.ofString "sign") { line := 173, col := 56, endLine := 173, endCol := 60 }]
          [] { line := 173, col := 36, endLine := 173, endCol := 61 })
      { kind := ScopeKind.function, names := [(Str.ofString "kind", NameKind.free), (Str.ofString "reader", NameKind.free), (Str.ofString "sign", NameKind.free)], isGenerator := false, isCoroutine := false }
      [(Str.ofString "sign", cs), (Str.ofString "reader", cr), (Str.ofString "kind", ck)] pm c' ctv))
    (hc : s.heap.CodeRec (.ref c') q) (g1 : s.heap.get? ck = some o1) (d1 : o1.data = .cell (some (.str k t1))) (g2 : s.heap.get? cr = some o2) (d2 : o2.data = .cell (some (.ref aR))) (g3 : s.heap.get? cs = some o3) (d3 : o3.data = .cell (some (sv v t2)))
    (hb : isTok (cur row pl) k v = false) (hsh : short k v) (h : ∀ h' t tk', Up [] (fa l) s.heap h' → Q (.int (cur row pl).line t) { s with heap := h', toks := tk' }) :
    wpAny (model prog w) (ar dp un (some l) gd) (call (.ref 298) [.ref f]) Q E s := by
  refine refused_at C0.base (by omega) (by omega) h0 hl ⟨_, _, hf, rfl⟩ ?_ h
  intro env h₁ tk Q' E' st hl1 hE
  have st1 : h₀.StaysIn h₁ := fun b o e => st _ _ (h0 b o e)
  have C := C0.keeps st1
  obtain ⟨X, T⟩ := id C.base
  have hi := st _ _ hi
  have hd := st _ _ hd
  have g1 := st _ _ g1
  have g2 := st _ _ g2
  have g3 := st _ _ g3
  have hc1 : h₁.CodeRec (.ref c') q := by obtain ⟨c, oc, vs, t, e1, e2, e3, e4⟩ := hc; exact ⟨c, oc, vs, t, e1, st _ _ e2, e3, e4⟩
  refine wpAny_call (enterL T.nolimit (st _ _ hf) hc1 (by ktr_room) (binds := []) rfl (by simp) ?_ rfl rfl rfl (by decide))
  intro L' h₂ F N
  dsimp only
  k_unmd
  k_fold
  k_steps
  rename Fr _ _ _ _ => kF
  refine expect_no (C.keeps kF.keep) (by ktr_room) (by ktr_units) (kF.keep _ _ hi) (kF.keep _ _ hd) hb (short_k hsh) (short_v hsh) (fun b o q => kF.keep _ _ (st1 b o q)) (frames_pushE kF hl1 st1 (by rfl) (by nofun)) ?_
  intro h' e t3 tk' x
  k_unfold
  refine thr_leaveE (A := ar (dp + 1) (un + 3) (some (env :: l)) gd) (l := env :: l) (env := envX _ _ _ _ _ _) rfl kF hl1 (.inr rfl) st1 (by rfl) (by nofun) x fun h' x => ?_
  exact hE _ _ _ _ x
end
/-- standing anew behind a callee that has changed nothing but the frames' slots -/
theorem rebaseN {g h₁ h' h₀ : Heap} {L : Addr} {m : Str → Option Value} {news : List (Addr × Obj)} {l : List Env} (F : Fr g L h₁ m) (N : News g L h₁ news) (st : h₀.StaysIn g) (hl : g.FunFrames h₀ l) (u : Up [] (L :: fa l) h₁ h') :
    Reb h₀ g h' L m news l := by
  exact rebase (as := news.map (·.1)) (mu' := news) F st hl (u.mono (by simp) fun _ q => q)
    (fun a ha => by obtain ⟨q, hq, rfl⟩ := List.mem_map.mp ha; exact ⟨(N q hq).2.2, (N q hq).2.1⟩)
    (fun q hq => ⟨u.keep (N q hq).1 (by simp) (fun z => by
      rcases List.mem_cons.mp z with z | z
      · exact (N q hq).2.1 z
      · obtain ⟨_, o, e, _⟩ := hl.mem z
        rw [(N q hq).2.2] at e; cases e), .inl (List.mem_map_of_mem hq)⟩)
theorem lamQ_is {x : Str} (e : x = Str.ofString "_law_looking") : x ++ Str.ofString ".<locals>." ++ Str.ofString "<lambda>" = lamQ := by subst e; decide +kernel

theorem fm {α : Type u} {P : α → Prop} {a : α} {l : List α} (h : P a) (t : ∀ q ∈ l, P q) : ∀ q ∈ a :: l, P q := List.forall_mem_cons.mpr ⟨h, t⟩
theorem npick {h₀ h : Heap} {L : Addr} {l l' : List (Addr × Obj)} {q : Addr × Obj} (N : News h₀ L h l) (m : q ∈ l) (r : News h₀ L h l') : News h₀ L h (q :: l') := fm (N q m) r
theorem off_map {l : List (Addr × Obj)} {F : List Addr} (H : ∀ z ∈ l, z.1 ∉ F) : ∀ b ∈ F, b ∉ l.map (·.1) := fun b hb q => by
  obtain ⟨z, hz, rfl⟩ := List.mem_map.mp q; exact H z hz hb
/-- what a frame that may write mu has kept -/
theorem keep_led {h₀ h g h3 : Heap} {L : Addr} {m : Str → Option Value} {mu : List (Addr × Obj)} {ws : List Addr} (hA : At h₀ h mu) (kp : KeepsBut (mu.map (·.1)) h g) (F : Fr g L h3 m) (hs : ∀ z ∈ mu, z.1 ∈ ws ∨ h3.get? z.1 = some z.2) :
    ∀ b o, b ∉ ws → h.get? b = some o → h3.get? b = some o := fun b o nb e => by
  by_cases q : b ∈ mu.map (·.1)
  · obtain ⟨z, hz, rfl⟩ := List.mem_map.mp q
    rcases hs z hz with w | w
    · exact absurd w nb
    · rw [(hA.2 z hz).1] at e; cases e; exact w
  · exact F.keep _ _ (kp b o e q)
theorem not1 {x a : Addr} (h : x ≠ a) : x ∉ [a] := fun q => h (List.mem_singleton.mp q)
theorem not2 {x a b : Addr} (h1 : x ≠ a) (h2 : x ≠ b) : x ∉ [a, b] := fun q => (fm (P := fun y => x ≠ y) h1 (fm h2 (List.forall_mem_nil _))) x q rfl
theorem not3 {x a b d : Addr} (h1 : x ≠ a) (h2 : x ≠ b) (h3 : x ≠ d) : x ∉ [a, b, d] := fun q => (fm (P := fun y => x ≠ y) h1 (fm h2 (fm h3 (List.forall_mem_nil _)))) x q rfl
theorem not4 {x a b d e : Addr} (h1 : x ≠ a) (h2 : x ≠ b) (h3 : x ≠ d) (h4 : x ≠ e) : x ∉ [a, b, d, e] := fun q => (fm (P := fun y => x ≠ y) h1 (fm h2 (fm h3 (fm h4 (List.forall_mem_nil _))))) x q rfl
theorem all1 {α : Type u} {P : α → Prop} {a : α} (h : P a) : ∀ z ∈ [a], P z := fm h (List.forall_mem_nil _)
theorem all3 {α : Type u} {P : α → Prop} {a b c : α} (h1 : P a) (h2 : P b) (h3 : P c) : ∀ z ∈ [a, b, c], P z := fm h1 (fm h2 (fm h3 (List.forall_mem_nil _)))
theorem all4 {α : Type u} {P : α → Prop} {a b c d : α} (h1 : P a) (h2 : P b) (h3 : P c) (h4 : P d) : ∀ z ∈ [a, b, c, d], P z := fm h1 (fm h2 (fm h3 (fm h4 (List.forall_mem_nil _))))
theorem all5 {α : Type u} {P : α → Prop} {a b c d e : α} (h1 : P a) (h2 : P b) (h3 : P c) (h4 : P d) (h5 : P e) : ∀ z ∈ [a, b, c, d, e], P z := fm h1 (all4 h2 h3 h4 h5)
theorem all6 {α : Type u} {P : α → Prop} {a b c d e f : α} (h1 : P a) (h2 : P b) (h3 : P c) (h4 : P d) (h5 : P e) (h6 : P f) : ∀ z ∈ [a, b, c, d, e, f], P z := fm h1 (all5 h2 h3 h4 h5 h6)
/-- what does not change -/
structure Co where
  aR : Addr
  dR : Addr
  aT : Addr
  aRow : Addr
  aS : Addr
  aB : Addr
  aSc : Addr
  aCl : Addr
  aSS : Addr
  kt : Nat → Tok
  n : Nat
  ts : List Addr
  rs : List Addr
  row : List Tok0
/-- what changes; nd, ba, pl, j: the reader's marks and places, md, mb, ql, qj: the state's -/
structure Va where
  pl : Nat
  j : Nat
  ql : Nat
  qj : Nat
  tp : Tok
  tq : Tok
  tb : Value
  nd : Bool
  ba : Bool
  md : Bool
  mb : Bool
  aM : Addr
  nM : Nat
  oS : Obj
  lo : List Sc
  top : Sc
  b0 : Int
  b1 : Int
  b2 : Int
  t0 : Tok
  t1 : Tok
  t2 : Tok
  nB : Nat
  ps3 : Array Value
  ps4 : Array Value
  cod : List (Addr × Obj)
noncomputable abbrev Va.sc (v : Va) : List Sc := v.lo ++ [v.top]
noncomputable def scAd (sc : List Sc) : List Addr := sc.flatMap fun c => [c.an, c.an', c.tu]
noncomputable def core (c : Co) : List Addr := [c.aR, c.dR, c.aS, c.aB, c.aSc, c.aCl, c.aSS, 300, 314]
noncomputable def adrs (c : Co) (v : Va) : List Addr := core c ++ v.aM :: scAd v.sc
noncomputable def wr (c : Co) (v : Va) : List Addr := core c ++ [v.top.an, v.top.an']
section
variable {c : Co} {v : Va} {b : Addr}
theorem mc1 : c.aR ∈ core c := .head _
theorem mc2 : c.dR ∈ core c := .tail _ (.head _)
theorem mc3 : c.aS ∈ core c := .tail _ (.tail _ (.head _))
theorem mc4 : c.aB ∈ core c := .tail _ (.tail _ (.tail _ (.head _)))
theorem mc5 : c.aSc ∈ core c := .tail _ (.tail _ (.tail _ (.tail _ (.head _))))
theorem mc6 : c.aCl ∈ core c := .tail _ (.tail _ (.tail _ (.tail _ (.tail _ (.head _)))))
theorem mc7 : c.aSS ∈ core c := .tail _ (.tail _ (.tail _ (.tail _ (.tail _ (.tail _ (.head _))))))
theorem mc8 : (300 : Addr) ∈ core c := .tail _ (.tail _ (.tail _ (.tail _ (.tail _ (.tail _ (.tail _ (.head _)))))))
theorem mc9 : (314 : Addr) ∈ core c := .tail _ (.tail _ (.tail _ (.tail _ (.tail _ (.tail _ (.tail _ (.tail _ (.head _))))))))
theorem mca (h : b ∈ core c) : b ∈ adrs c v := List.mem_append_left _ h
theorem mcw (h : b ∈ core c) : b ∈ wr c v := List.mem_append_left _ h
theorem mcM : v.aM ∈ adrs c v := List.mem_append_right _ (.head _)
theorem mcs (h : b ∈ scAd v.sc) : b ∈ adrs c v := List.mem_append_right _ (.tail _ h)
theorem mct : v.top.an ∈ wr c v := List.mem_append_right _ (.head _)
theorem mct' : v.top.an' ∈ wr c v := List.mem_append_right _ (.tail _ (.head _))
end
local macro_rules | `(tactic| lcg_sub) => tW (tFirst [tEx (ap `mcM []), tEx (ap `mct []), tEx (ap `mct' []), tSeq [tFirst [tRf (ap `mca [bH]), tRf (ap `mcw [bH]), `(tactic| skip)], tAny [] [`mc1, `mc2, `mc3, `mc4, `mc5, `mc6, `mc7, `mc8, `mc9]]])
section
variable {c : Co} {v : Va}
theorem adrs_core {b : Addr} (hb : b ∈ core c) : b ∈ adrs c v := List.mem_append_left _ hb
theorem nd_core (nd : (adrs c v).Nodup) : (core c).Nodup := (List.nodup_append.mp nd).1
theorem nd_off {b : Addr} (nd : (adrs c v).Nodup) (hb : b ∈ v.aM :: scAd v.sc) : ∀ a ∈ core c, a ≠ b := fun a ha => (List.nodup_append.mp nd).2.2 a ha b hb
/-- the nine places are apart -/
structure Off (c : Co) : Prop where
  x1 : c.aR ≠ c.dR
  x2 : c.aR ≠ c.aS
  x3 : c.aR ≠ c.aB
  x4 : c.aR ≠ c.aSc
  x5 : c.aR ≠ c.aCl
  x6 : c.aR ≠ c.aSS
  x7 : c.aR ≠ 300
  x8 : c.aR ≠ 314
  x9 : c.dR ≠ c.aS
  x10 : c.dR ≠ c.aB
  x11 : c.dR ≠ c.aSc
  x12 : c.dR ≠ c.aCl
  x13 : c.dR ≠ c.aSS
  x14 : c.dR ≠ 300
  x15 : c.dR ≠ 314
  x16 : c.aS ≠ c.aB
  x17 : c.aS ≠ c.aSc
  x18 : c.aS ≠ c.aCl
  x19 : c.aS ≠ c.aSS
  x20 : c.aS ≠ 300
  x21 : c.aS ≠ 314
  x22 : c.aB ≠ c.aSc
  x23 : c.aB ≠ c.aCl
  x24 : c.aB ≠ c.aSS
  x25 : c.aB ≠ 300
  x26 : c.aB ≠ 314
  x27 : c.aSc ≠ c.aCl
  x28 : c.aSc ≠ c.aSS
  x29 : c.aSc ≠ 300
  x30 : c.aSc ≠ 314
  x31 : c.aCl ≠ c.aSS
  x32 : c.aCl ≠ 300
  x33 : c.aCl ≠ 314
  x34 : c.aSS ≠ 300
  x35 : c.aSS ≠ 314
theorem nd_ne {l : List Addr} {a b : Addr} (i j : Nat) (hn : l.Nodup) (h : i < j) (e : l[i]? = some a) (e' : l[j]? = some b) : a ≠ b := fun z => by
  obtain ⟨hi, e1⟩ := List.getElem?_eq_some_iff.mp e
  obtain ⟨hj, e2⟩ := List.getElem?_eq_some_iff.mp e'
  exact absurd ((List.getElem_inj hn).mp (e1.trans (z.trans e2.symm))) (Nat.ne_of_lt h)
theorem core_off (hn : (core c).Nodup) : Off c :=
  ⟨nd_ne 0 1 hn (by decide) rfl rfl, nd_ne 0 2 hn (by decide) rfl rfl, nd_ne 0 3 hn (by decide) rfl rfl, nd_ne 0 4 hn (by decide) rfl rfl, nd_ne 0 5 hn (by decide) rfl rfl, nd_ne 0 6 hn (by decide) rfl rfl, nd_ne 0 7 hn (by decide) rfl rfl, nd_ne 0 8 hn (by decide) rfl rfl, nd_ne 1 2 hn (by decide) rfl rfl, nd_ne 1 3 hn (by decide) rfl rfl, nd_ne 1 4 hn (by decide) rfl rfl, nd_ne 1 5 hn (by decide) rfl rfl, nd_ne 1 6 hn (by decide) rfl rfl, nd_ne 1 7 hn (by decide) rfl rfl, nd_ne 1 8 hn (by decide) rfl rfl, nd_ne 2 3 hn (by decide) rfl rfl, nd_ne 2 4 hn (by decide) rfl rfl, nd_ne 2 5 hn (by decide) rfl rfl, nd_ne 2 6 hn (by decide) rfl rfl, nd_ne 2 7 hn (by decide) rfl rfl, nd_ne 2 8 hn (by decide) rfl rfl, nd_ne 3 4 hn (by decide) rfl rfl, nd_ne 3 5 hn (by decide) rfl rfl, nd_ne 3 6 hn (by decide) rfl rfl, nd_ne 3 7 hn (by decide) rfl rfl, nd_ne 3 8 hn (by decide) rfl rfl, nd_ne 4 5 hn (by decide) rfl rfl, nd_ne 4 6 hn (by decide) rfl rfl, nd_ne 4 7 hn (by decide) rfl rfl, nd_ne 4 8 hn (by decide) rfl rfl, nd_ne 5 6 hn (by decide) rfl rfl, nd_ne 5 7 hn (by decide) rfl rfl, nd_ne 5 8 hn (by decide) rfl rfl, nd_ne 6 7 hn (by decide) rfl rfl, nd_ne 6 8 hn (by decide) rfl rfl⟩
theorem adrs_cases {P : Addr → Prop} (h1 : P c.aR) (h2 : P c.dR) (h3 : P c.aS) (h4 : P c.aB) (h5 : P c.aSc) (h6 : P c.aCl) (h7 : P c.aSS) (h8 : P 300) (h9 : P 314) (hM : P v.aM) (hs : ∀ b ∈ scAd v.sc, P b) : ∀ b ∈ adrs c v, P b := fun b hb => by
  rcases List.mem_append.mp hb with hb | hb
  · exact fm h1 (fm h2 (fm h3 (all6 h4 h5 h6 h7 h8 h9))) b hb
  · exact fm hM hs b hb
end
theorem sq2 {c : Co} : c.dR ∈ [c.aR, c.dR, c.aS, c.aB, 300, 314] := .tail _ (.head _)
theorem sq3 {c : Co} : c.aS ∈ [c.aR, c.dR, c.aS, c.aB, 300, 314] := .tail _ (.tail _ (.head _))
theorem sq4 {c : Co} : c.aB ∈ [c.aR, c.dR, c.aS, c.aB, 300, 314] := .tail _ (.tail _ (.tail _ (.head _)))
theorem sq6 {c : Co} : (314 : Addr) ∈ [c.aR, c.dR, c.aS, c.aB, 300, 314] := .tail _ (.tail _ (.tail _ (.tail _ (.tail _ (.head _)))))
/-- a place of a code table, and its record among what is kept -/
noncomputable def codIn (cod : List (Addr × Obj)) (ps : Array Value) (p : Pos) (q : Str) : Prop :=
  codeAmong p ps.toList = none ∨ ∃ a oc vs t, codeAmong p ps.toList = some (.ref a) ∧ (a, oc) ∈ cod ∧ oc.data = .fields vs ∧ vs[1]? = some (.str q t)
noncomputable abbrev inPos : Pos := { line := 202, col := 4, endLine := 204, endCol := 21 }
noncomputable abbrev inQ : Str := Str.ofString "_law_nested.<locals>.within"
noncomputable abbrev lam4Pos : Pos := { line := 209, col := 32, endLine := 209, endCol := 62 }
noncomputable abbrev lam4Q : Str := Str.ofString "_law_nested.<locals>.<lambda>"
theorem codIn.pos {cod : List (Addr × Obj)} {ps : Array Value} {p : Pos} {q : Str} {h : Heap} (x : codIn cod ps p q) (k : ∀ z ∈ cod, h.get? z.1 = some z.2) : PosOk h ps p q := by
  rcases x with x | ⟨a, oc, vs, t, e1, e2, e3, e4⟩
  · exact .inl x
  · exact .inr ⟨a, e1, oc, vs, t, k _ e2, e3, e4⟩
theorem codIn.more {cod cod' : List (Addr × Obj)} {ps : Array Value} {p : Pos} {q : Str} (x : codIn cod ps p q) (k : ∀ z ∈ cod, z ∈ cod') : codIn cod' ps p q := by
  rcases x with x | ⟨a, oc, vs, t, e1, e2, e3, e4⟩
  · exact .inl x
  · exact .inr ⟨a, oc, vs, t, e1, k _ e2, e3, e4⟩
/-- what stands in the heap, but for the draws' list, the marks and the code records -/
structure StRest (w : World) (c : Co) (v : Va) (h : Heap) : Prop where
  gR : h.get? c.aR = some (instObj 188 c.dR)
  gD : h.get? c.dR = some (rdDict w c.kt c.aT v.tb v.pl v.tp (.ref (adr c.ts v.j)) c.aSc c.aCl v.nd v.ba c.n)
  gS : h.get? c.aS = some v.oS
  S : ScsAt h c.aSc c.aCl v.sc
  T : StsAt h c.aSS v.sc
  p3 : h.get? 300 = some (tabObj v.ps3)
  p4 : h.get? 314 = some (tabObj v.ps4)
structure StOwn (c : Co) (v : Va) (h : Heap) : Prop where
  gB : h.get? c.aB = some (boxObj v.b0 v.b1 v.b2 v.t0 v.t1 v.t2 v.nB)
  gM : h.get? v.aM = some (listOf #[.bool v.md, .bool v.mb] v.nM)
  gC : ∀ z ∈ v.cod, h.get? z.1 = some z.2
/-- a code record -/
noncomputable def Rec (o : Obj) : Prop := ∃ vs, o.data = .fields vs ∧ ∃ q t, vs[1]? = some (.str q t)
/-- what is true of the values -/
structure StPure (prog : Program) (w : World) (c : Co) (v : Va) : Prop where
  dS : v.oS.IsDictOf (strKind prog w) (stKvs c.aRow v.ql v.tq (.ref (adr c.rs v.qj)) v.aM c.aSS)
  b0 : 0 ≤ v.b0
  b0' : v.b0 < 10 ^ 90
  b1 : 0 ≤ v.b1
  tr3 : TriplesOk v.ps3.toList
  tr4 : TriplesOk v.ps4.toList
  c3 : codIn v.cod v.ps3 lamPos lamQ
  c4 : codIn v.cod v.ps4 inPos inQ
  c5 : codIn v.cod v.ps4 lam4Pos lam4Q
  nd : (adrs c v).Nodup
  nc : ∀ z ∈ v.cod, z.1 ∉ adrs c v
  cd2 : ∀ z ∈ v.cod, Rec z.2
theorem StPure.cd {prog : Program} {w : World} {c : Co} {v : Va} (x : StPure prog w c v) : ∀ z ∈ v.cod, ∃ vs, z.2.data = .fields vs := fun z hz => let ⟨vs, e, _⟩ := x.cd2 z hz; ⟨vs, e⟩
theorem nc_ne {prog : Program} {w : World} {c : Co} {v : Va} {b : Addr} (x : StPure prog w c v) (hb : b ∈ adrs c v) : ∀ q ∈ v.cod, q.1 ≠ b := fun q hq e => x.nc q hq (e ▸ hb)
theorem not_swap {c : Co} {v : Va} {x M : Addr} (h1 : x ≠ M) (h2 : x ∉ core c ++ scAd v.sc) : x ∉ core c ++ M :: scAd v.sc := fun q => by
  rcases List.mem_append.mp q with q | q
  · exact h2 (List.mem_append_left _ q)
  · rcases List.mem_cons.mp q with q | q
    · exact h1 q
    · exact h2 (List.mem_append_right _ q)
theorem adrs_of {c : Co} {v : Va} {x : Addr} (h : x ∈ core c ++ scAd v.sc) : x ∈ adrs c v := by
  rcases List.mem_append.mp h with q | q
  · exact mca q
  · exact mcs q
structure StA (prog : Program) (w : World) (c : Co) (v : Va) (h : Heap) : Prop where
  r : StRest w c v h
  o : StOwn c v h
  p : StPure prog w c v
/-- what a deed may leave of the scopes and the draws -/
structure Grown (v v' : Va) (k : Nat) : Prop where
  lo : v'.lo = v.lo
  top : ∃ ys, v'.top = { v.top with ys := ys } ∧ ys.length ≤ v.top.ys.length + k
  b1 : v'.b1 ≤ v.b1 + k
theorem Grown.refl {v : Va} {k : Nat} : Grown v v k := ⟨rfl, ⟨v.top.ys, rfl, by omega⟩, by omega⟩
theorem Grown.trans {v v1 v2 : Va} {a b k : Nat} (x : Grown v v1 a) (y : Grown v1 v2 b) (e : a + b ≤ k) : Grown v v2 k := by
  obtain ⟨x1, ⟨ys1, x2, x3⟩, x4⟩ := x
  obtain ⟨y1, ⟨ys2, y2, y3⟩, y4⟩ := y
  rw [x2] at y2 y3
  exact ⟨y1.trans x1, ⟨ys2, y2, by dsimp only at y3; omega⟩, by omega⟩
theorem Grown.mono {v v' : Va} {a k : Nat} (x : Grown v v' a) (e : a ≤ k) : Grown v v' k := x.trans (b := 0) .refl (by omega)
theorem Grown.scAd {v v' : Va} {k : Nat} (x : Grown v v' k) : scAd v'.sc = scAd v.sc := by
  obtain ⟨x1, ⟨ys, x2, _⟩, _⟩ := x
  simp only [Va.sc, Mine.scAd, x1, x2, List.flatMap_append, List.flatMap_cons, List.flatMap_nil]
theorem Grown.wr {v v' : Va} {k : Nat} {c : Co} (x : Grown v v' k) : wr c v' = wr c v := by
  obtain ⟨x1, ⟨ys, x2, _⟩, _⟩ := x
  simp only [Mine.wr, x2]
theorem wr_adrs {c : Co} {v : Va} {b : Addr} (h : b ∈ wr c v) : b ∈ adrs c v := by
  rcases List.mem_append.mp h with h | h
  · exact mca h
  · have e : v.top ∈ v.sc := List.mem_append_right _ (.head _)
    exact mcs (fm (List.mem_flatMap.mpr ⟨_, e, .head _⟩) (all1 (P := fun b => b ∈ scAd v.sc) (List.mem_flatMap.mpr ⟨_, e, .tail _ (.head _)⟩)) b h)
/-- what a deed leaves -/
structure Post (prog : Program) (w : World) (h₀ : Heap) (c : Co) (v : Va) (ws : List Addr) (k : Nat) (fs : List Addr) (h h' : Heap) (v' : Va) : Prop where
  st : StA prog w c v' h'
  gr : Grown v v' k
  up : Up (ws ++ wr c v) fs h h'
  dis : ∀ b ∈ fs, b ∉ adrs c v'
  outM : h₀.get? v'.aM = none
  outC : ∀ z ∈ v'.cod, h₀.get? z.1 = none
structure Fit (v : Va) : Prop where
  nd : v.nd = v.md
  ba : v.ba = v.mb
  pl : v.pl = v.ql
  j : v.j = v.qj
section
variable {prog : Program} {w : World} {c : Co} {v v' : Va} {h h' g : Heap} {b : Addr} {fs : List Addr}
theorem ScAt.move {q : Sc} (x : ScAt h q) (k : ∀ b o, b ∈ [q.an, q.an', q.tu] → h.get? b = some o → h'.get? b = some o) : ScAt h' q := by
  obtain ⟨⟨vs, n, e, y⟩, ⟨vs', n', e', y'⟩, o, e2, r⟩ := x
  exact ⟨⟨vs, n, k _ _ (by simp) e, y⟩, ⟨vs', n', k _ _ (by simp) e', y'⟩, o, k _ _ (by simp) e2, r⟩
theorem list_move {a : Addr} {its : Array Value} (x : h.IsList a its) (k : ∀ o, h.get? a = some o → h'.get? a = some o) : h'.IsList a its := by
  obtain ⟨o, e, r⟩ := x; exact ⟨o, k o e, r⟩
theorem scAd_mem {sc : List Sc} {q : Sc} (hq : q ∈ sc) {b : Addr} (hb : b ∈ [q.an, q.an', q.tu]) : b ∈ scAd sc := List.mem_flatMap.mpr ⟨q, hq, hb⟩
theorem StRest.move (x : StRest w c v h) (k : ∀ b o, b ∈ core c ++ scAd v.sc → b ≠ c.aB → h.get? b = some o → h'.get? b = some o) (nd : (adrs c v).Nodup) : StRest w c v h' := by
  have O := core_off (nd_core nd)
  have kk : ∀ {b}, b ∈ core c → b ≠ c.aB → ∀ {o}, h.get? b = some o → h'.get? b = some o := fun {_} m n {o} e => k _ o (List.mem_append_left _ m) n e
  have ks : ∀ q ∈ v.sc, ScAt h q → ScAt h' q := fun q hq y => y.move fun b o hb e => k b o (List.mem_append_right _ (scAd_mem hq hb)) (nd_off nd (.tail _ (scAd_mem hq hb)) _ mc4).symm e
  exact ⟨kk mc1 O.x3 x.gR, kk mc2 O.x10 x.gD, kk mc3 O.x16 x.gS,
    ⟨lo_move x.S.l0 fun o e => kk mc5 (Ne.symm O.x22) e, lo_move x.S.c0 fun o e => kk mc6 (Ne.symm O.x23) e, fun q hq => ks q hq (x.S.all q hq), x.S.few, x.S.bot⟩,
    ⟨lo_move x.T.l0 fun o e => kk mc7 (Ne.symm O.x24) e, fun q hq => ks q hq (x.T.all q hq), x.T.few⟩, kk mc8 (Ne.symm O.x25) x.p3, kk mc9 (Ne.symm O.x26) x.p4⟩
theorem StRest.keeps (x : StRest w c v h) (k : ∀ b o, h.get? b = some o → h'.get? b = some o) : StRest w c v h' :=
  ⟨k _ _ x.gR, k _ _ x.gD, k _ _ x.gS, x.S.keeps k, x.T.keeps k, k _ _ x.p3, k _ _ x.p4⟩
/-- every address of the state's is an object of the heap -/
theorem StA.has (x : StA prog w c v h) (hb : b ∈ adrs c v) : ∃ o, h.get? b = some o :=
  adrs_cases (P := fun b => ∃ o, h.get? b = some o) ⟨_, x.r.gR⟩ ⟨_, x.r.gD⟩ ⟨_, x.r.gS⟩ ⟨_, x.o.gB⟩ (let ⟨o, e, _⟩ := x.r.S.l; ⟨o, e⟩) (let ⟨o, e, _⟩ := x.r.S.c; ⟨o, e⟩) (let ⟨o, e, _⟩ := x.r.T.l; ⟨o, e⟩) ⟨_, x.r.p3⟩ ⟨_, x.r.p4⟩ ⟨_, x.o.gM⟩ (fun b hb => by
    obtain ⟨q, hq, hb⟩ := List.mem_flatMap.mp hb
    have y := x.r.S.all q hq
    exact all3 (P := fun b => ∃ o, h.get? b = some o) (let ⟨_, _, e, _⟩ := y.rd; ⟨_, e⟩) (let ⟨_, _, e, _⟩ := y.st; ⟨_, e⟩) (let ⟨o, e, _⟩ := y.tu; ⟨o, e⟩) b hb) b hb
theorem StA.lt (x : StA prog w c v h) (hb : b ∈ adrs c v) : b < h.objs.size := by
  obtain ⟨_, e⟩ := x.has hb; exact Heap.lt_size e
theorem StA.ltC (x : StA prog w c v h) {z : Addr × Obj} (hb : z ∈ v.cod) : z.1 < h.objs.size := Heap.lt_size (x.o.gC z hb)
/-- the whole state moves to a heap that has its objects -/
theorem StA.move (x : StA prog w c v h) (k : ∀ b o, b ∈ adrs c v ∨ b ∈ v.cod.map (·.1) → h.get? b = some o → h'.get? b = some o) : StA prog w c v h' :=
  ⟨x.r.move (fun b o m _ e => k b o (.inl (adrs_of m)) e) x.p.nd,
    ⟨k _ _ (.inl (mca mc4)) x.o.gB, k _ _ (.inl mcM) x.o.gM, fun z hz => k _ _ (.inr (List.mem_map_of_mem hz)) (x.o.gC z hz)⟩, x.p⟩
theorem StA.keeps (x : StA prog w c v h) (k : ∀ b o, h.get? b = some o → h'.get? b = some o) : StA prog w c v h' := x.move fun b o _ e => k b o e
/-- frames are no code records -/
theorem frames_noC {h₀ : Heap} {l : List Env} (hl : h.FunFrames h₀ l) (x : StA prog w c v h) : ∀ b ∈ fa l, b ∉ v.cod.map (·.1) := fun b hb q => by
  obtain ⟨z, hz, rfl⟩ := List.mem_map.mp q
  obtain ⟨_, o, e, nd⟩ := hl.mem hb
  rw [x.o.gC z hz] at e; cases e
  obtain ⟨vs, e⟩ := x.p.cd z hz
  exact nd vs e
end
section
variable {prog : Program} {w : World} {c : Co} {v : Va} {h h' h₀ : Heap} {l : List Env}
/-- from a look to the state -/
theorem look_post (x : StA prog w c v h) (fit : Fit v) (hl : h.FunFrames h₀ l) (outM : h₀.get? v.aM = none) (outC : ∀ z ∈ v.cod, h₀.get? z.1 = none) (dis : ∀ b ∈ fa l, b ∉ adrs c v)
    (y : LkPost prog w h₀ c.kt c.aT v.tb c.ts c.rs c.aRow c.aR c.dR c.aS c.aB c.aSc c.aCl v.aM c.aSS v.nd v.ba c.n v.b1 v.b2 (fa l) h h') :
    ∃ v', Post prog w h₀ c v [] 2 (fa l) h h' v' ∧ Fit v' := by
  obtain ⟨pl', j', tp', tq', oS', b0', b1', t0', t1', t2', nB', ps', up, g1, g2, g3, d, g4, c0, c1, c2, c3, g5, tr, po, poC⟩ := y
  have nd := x.p.nd
  have O := core_off (nd_core nd)
  have hne : ∀ {b}, b ∈ adrs c v → b ∉ [c.dR, c.aS, c.aB, 300] → ∀ {o}, h.get? b = some o → h'.get? b = some o := fun {b} hb nb {o} e => up.keep e nb (fun q => dis b q hb)
  have off : ∀ {b}, b ∈ v.aM :: scAd v.sc → b ∉ [c.dR, c.aS, c.aB, 300] := fun m => not4 (nd_off nd m _ mc2).symm (nd_off nd m _ mc3).symm (nd_off nd m _ mc4).symm (nd_off nd m _ mc8).symm
  have ks : ∀ q ∈ v.sc, ScAt h q → ScAt h' q := fun q hq y => y.move fun b o hb e => hne (mcs (scAd_mem hq hb)) (off (.tail _ (scAd_mem hq hb))) e
  have hcd : ∀ z ∈ v.cod, h'.get? z.1 = some z.2 := fun z hz =>
    up.keep (x.o.gC z hz) (fun q => x.p.nc z hz (all4 (P := fun b => b ∈ adrs c v) (mca mc2) (mca mc3) (mca mc4) (mca mc8) _ q)) (fun q => frames_noC hl x _ q (List.mem_map_of_mem hz))
  have kSc : ∀ {o}, h.get? c.aSc = some o → h'.get? c.aSc = some o := hne (mca mc5) (not4 (Ne.symm O.x11) (Ne.symm O.x17) (Ne.symm O.x22) O.x29)
  have kCl : ∀ {o}, h.get? c.aCl = some o → h'.get? c.aCl = some o := hne (mca mc6) (not4 (Ne.symm O.x12) (Ne.symm O.x18) (Ne.symm O.x23) O.x32)
  have kSS : ∀ {o}, h.get? c.aSS = some o → h'.get? c.aSS = some o := hne (mca mc7) (not4 (Ne.symm O.x13) (Ne.symm O.x19) (Ne.symm O.x24) O.x34)
  have g6 := hne (mca mc9) (not4 (Ne.symm O.x15) (Ne.symm O.x21) (Ne.symm O.x26) (by decide)) x.r.p4
  have gM := hne mcM (off (.head _)) x.o.gM
  have S' : ScsAt h' c.aSc c.aCl v.sc := ⟨lo_move x.r.S.l0 fun o e => kSc e, lo_move x.r.S.c0 fun o e => kCl e, fun q hq => ks q hq (x.r.S.all q hq), x.r.S.few, x.r.S.bot⟩
  have T' : StsAt h' c.aSS v.sc := ⟨lo_move x.r.T.l0 fun o e => kSS e, fun q hq => ks q hq (x.r.T.all q hq), x.r.T.few⟩
  obtain ⟨cod', hc1, hc2, hc3, hc6, hc4, hc5⟩ : ∃ cod' : List (Addr × Obj), (∀ z ∈ v.cod, z ∈ cod') ∧ codIn cod' ps' lamPos lamQ ∧ (∀ z ∈ cod', h'.get? z.1 = some z.2) ∧ (∀ z ∈ cod', h₀.get? z.1 = none) ∧ (∀ z ∈ cod', z.1 ∉ adrs c v) ∧ ∀ z ∈ cod', Rec z.2 := by
    rcases po with po | ⟨a, q1, q2⟩
    · exact ⟨v.cod, fun _ q => q, .inl po, hcd, outC, x.p.nc, x.p.cd2⟩
    · obtain ⟨oc, vs, t, q3, q4, q5⟩ := id q2
      have kd : ∀ {b : Addr} {o : Obj}, h'.get? b = some o → (∀ us, o.data ≠ .fields us) → b ≠ a := fun {b o} e nf z => by rw [z, q3] at e; cases e; exact nf _ q4
      have kl : ∀ {b : Addr} {its : Array Value}, h'.IsList b its → b ≠ a := fun ⟨o, e, _, n, hd⟩ => kd e (by intro us; rw [hd]; nofun)
      have kT : ∀ {b : Addr} {ps : Array Value}, TriplesOk ps.toList → h'.get? b = some (tabObj ps) → b ≠ a := fun ht e z => by rw [z] at e; exact noRec ht (Option.some.inj (q3.symm.trans e)) q4 q5
      exact ⟨(a, oc) :: v.cod, fun _ q => .tail _ q, .inr ⟨a, oc, vs, t, q1, .head _, q4, q5⟩, fm q3 hcd, fm (poC _ q1) outC,
        fm (fun hb => adrs_cases (P := fun b => b ≠ a) (kd g1 (by nofun)) (kd g2 (by nofun)) (kd g3 (by obtain ⟨es, ep, _, q, _⟩ := d; rw [q]; nofun)) (kd g4 (by nofun)) (kl S'.l) (kl S'.c) (kl T'.l) (kT tr g5) (kT x.p.tr4 g6) (kd gM (by nofun)) (fun b hb => by
          obtain ⟨q, hq, hb⟩ := List.mem_flatMap.mp hb
          obtain ⟨⟨vs, n, r1, _⟩, ⟨vs', n', r2, _⟩, ot, r3, _, n3, r4⟩ := S'.all q hq
          exact all3 (P := fun b => b ≠ a) (kd r1 (by nofun)) (kd r2 (by nofun)) (kd r3 (by rw [r4]; nofun)) b hb) _ hb rfl) x.p.nc,
        fm ⟨vs, q4, _, _, q5⟩ x.p.cd2⟩
  exact ⟨{ v with pl := pl', j := j', ql := pl', qj := j', tp := tp', tq := tq', oS := oS', b0 := b0', b1 := b1', t0 := t0', t1 := t1', t2 := t2', nB := nB', ps3 := ps', cod := cod' },
    ⟨⟨⟨g1, g2, g3, S', T', g5, g6⟩, ⟨g4, gM, hc3⟩, ⟨d, c0, c1, c2, tr, x.p.tr4, hc2, x.p.c4.more hc1, x.p.c5.more hc1, nd, hc4, hc5⟩⟩,
    ⟨rfl, ⟨v.top.ys, rfl, by omega⟩, c3⟩, up.mono (all4 (mcw mc2) (mcw mc3) (mcw mc4) (mcw mc8)) fun _ q => q, dis, outM, hc6⟩, ⟨fit.nd, fit.ba, rfl, rfl⟩⟩
/-- what holds ahead of a deed -/
structure Pre (prog : Program) (w : World) (h₀ : Heap) (c : Co) (v : Va) (l : List Env) (h : Heap) : Prop where
  st : StA prog w c v h
  h0 : h₀.StaysIn h
  out : ∀ a ∈ wr c v, h₀.get? a = none
  outM : h₀.get? v.aM = none
  outC : ∀ z ∈ v.cod, h₀.get? z.1 = none
  hl : h.FunFrames h₀ l
  dis : ∀ b ∈ fa l, b ∉ adrs c v
theorem h0_up {as : List Addr} (h0 : h₀.StaysIn h) (hl : h.FunFrames h₀ l) (out : ∀ a ∈ as, h₀.get? a = none) (u : Up as (fa l) h h') : h₀.StaysIn h' := fun b o e =>
  u.keep (h0 _ _ e) (fun q => by rw [out b q] at e; cases e) (fun q => by rw [(hl.mem q).1] at e; cases e)
theorem Post.pre {v v' : Va} {ws : List Addr} {k : Nat} (P : Pre prog w h₀ c v l h) (Y : Post prog w h₀ c v ws k (fa l) h h' v') (hws : ∀ a ∈ ws, h₀.get? a = none ∧ a ∉ fa l) : Pre prog w h₀ c v' l h' where
  st := Y.st
  h0 := h0_up P.h0 P.hl (fun a ha => by rcases List.mem_append.mp ha with q | q; exact (hws a q).1; exact P.out a q) Y.up
  out := fun a ha => P.out a (Y.gr.wr ▸ ha)
  hl := frames_upAs P.hl (fun b hb q => by rcases List.mem_append.mp q with q | q; exact (hws b q).2 hb; exact P.dis b hb (wr_adrs q)) Y.up
  dis := Y.dis
  outM := Y.outM
  outC := Y.outC
theorem ent_lt {h h₁ g : Heap} {mu : List (Addr × Obj)} {L : Addr} {m : Str → Option Value} (hlt : ∀ q ∈ mu, q.1 < L) (kp : KeepsBut (mu.map (·.1)) h g) (F : Fr g L h₁ m) : ∀ b o, h.get? b = some o → b < L := fun b o e => by
  by_cases q : b ∈ mu.map (·.1)
  · obtain ⟨p, hp, rfl⟩ := List.mem_map.mp q; exact hlt p hp
  · exact fr_old F (kp b o e q)
/-- one call, and the steps around it -/
theorem Up.seg {h h₁ h' hE : Heap} {ws fs : List Addr} {L : Addr} (u1 : ∀ b o, h.get? b = some o → b ∉ ws → h₁.get? b = some o) (u2 : Up ws (L :: fs) h₁ h') (u3 : ∀ b o, b < L → b ∉ ws → h'.get? b = some o → hE.get? b = some o)
    (lt : ∀ b o, h.get? b = some o → b < L) : Up ws fs h hE := fun b o e nb => by
  obtain ⟨sl, e1, k1⟩ := u2 b o (u1 b o e nb) nb
  refine ⟨sl, u3 b _ (lt b o e) nb e1, fun q => k1 fun z => ?_⟩
  rcases List.mem_cons.mp z with z | z
  · exact absurd (lt b o e) (by rw [z]; exact Nat.lt_irrefl _)
  · exact q z
theorem Pre.push {v v1 : Va} {g h₁ : Heap} {L : Addr} {m : Str → Option Value} {env : Env} (P : Pre prog w h₀ c v l h) (S : StA prog w c v1 h₁) (hw : wr c v1 = wr c v) (hM : h₀.get? v1.aM = none) (hC : ∀ z ∈ v1.cod, h₀.get? z.1 = none) (hd : ∀ b ∈ fa l, b ∉ adrs c v1) (F : Fr g L h₁ m) (st : h₀.StaysIn g) (hlg : g.FunFrames h₀ l)
    (hf : env.frame = some L) (hk : env.scope.kind ≠ .module) (hL : ∀ b ∈ adrs c v1, b ≠ L) : Pre prog w h₀ c v1 (env :: l) h₁ where
  st := S
  h0 := fun b o e => F.keep _ _ (st b o e)
  out := fun a ha => P.out a (hw ▸ ha)
  outM := hM
  outC := hC
  hl := frames_pushE F hlg st hf hk
  dis := fun b hb q => by
    rw [fa_cons hf] at hb
    rcases List.mem_cons.mp hb with z | z
    · exact hL b q z
    · exact hd b z q
end

section
variable {prog : Program} {w : World} {A : Around} {E : Value → Shared → Prop} {s : Shared} {env : Env} {L : Addr}
/-- the end of a turn, the ground may be a new one -/
inductive TE2 (L : Addr) (s : Shared) (I : Addr) (oI : Obj) (J : Heap → (Str → Option Value) → List (Addr × Obj) → Prop) (U : Heap → Prop) (s₃ : Shared) : Prop
  | mk (h : Heap) (tk : Nat) (g : Heap) (m₂ : Str → Option Value) (news₂ : List (Addr × Obj)) (e : s₃ = { s with heap := h, toks := tk }) (u : U h) (F : Fr g L h m₂) (N : News g L h ((I, oI) :: news₂)) (off : ∀ q ∈ news₂, q.1 ≠ I) (j : J g m₂ news₂)
noncomputable def TurnEnd2 (L : Addr) (s : Shared) (I : Addr) (oI : Obj) (J : Heap → (Str → Option Value) → List (Addr × Obj) → Prop) (U : Heap → Prop) (Q : Flow → Shared → Prop) (f : Flow) (s₃ : Shared) : Prop :=
  match f with
  | .next | .cont => TE2 L s I oI J U s₃
  | .brk => Q .next s₃
  | .ret v => Q (.ret v) s₃
inductive FgS (s : Shared) (L : Addr) (n : Nat) (a : Int) (J : Nat → Heap → (Str → Option Value) → List (Addr × Obj) → Prop) (U : Nat → Heap → Prop) (k : Nat) (s' : Shared) : Prop
  | mk (h : Heap) (tk : Nat) (g : Heap) (m₁ : Str → Option Value) (news₁ : List (Addr × Obj)) (i : Nat) (e : s' = { s with heap := h, toks := tk }) (st : IsRangeIter h s.heap.objs.size (a + (i : Nat) * 1) ((n : Int) - (i : Nat)) 1) (u : U i h) (F : Fr g L h m₁) (N : News g L h news₁) (off : (∀ q ∈ news₁, q.1 ≠ s.heap.objs.size)) (j : J i g m₁ news₁) (hi : i ≤ n) (hk : k = n + 1 - i)
/-- a for over a range whose turns may change the ground -/
theorem for_range {Q : Flow → Shared → Prop} {x : Str} {px : Pos} {body : List Stmt} {r : Addr} {a b : Int} {t u v : Tok} {n : Nat} {g₀ : Heap} {m : Str → Option Value} {news : List (Addr × Obj)}
    (hh : A.handled = none) (hr : IsRange s.heap r a b 1 t u v) (hsm : Builtin.Range.small a b 1 = true) (hn : Builtin.Range.rangeSize a b 1 = (n : Int))
    (J : Nat → Heap → (Str → Option Value) → List (Addr × Obj) → Prop) (U : Nat → Heap → Prop) (F : Fr g₀ L s.heap m) (N : News g₀ L s.heap news) (hJ : J 0 g₀ m news) (hU : U 0 s.heap)
    (hst : ∀ i h h', U i h → (∀ b o, b ≠ s.heap.objs.size → h.get? b = some o → h'.get? b = some o) → U i h')
    (step : ∀ I i tv g m₁ news₁ h₁ tk₁ oI, I = s.heap.objs.size → i < n → J i g m₁ news₁ → U i h₁ → Fr g L h₁ m₁ → News g L h₁ ((I, oI) :: news₁) → (∀ q ∈ news₁, q.1 ≠ I) → (∃ vs, oI.data = .fields vs ∧ ∀ y t, vs[1]? ≠ some (.str y t)) →
      wpAny (model prog w) A (assign (.Name x px) env (.int (a + (i : Int) * 1) tv)) (fun _ s₂ => wpAny (model prog w) A (execs body env) (TurnEnd2 L s I oI (J (i + 1)) (U (i + 1)) Q) E s₂) E { s with heap := h₁, toks := tk₁ })
    (done : ∀ g m₁ news₁ h tk, J n g m₁ news₁ → U n h → Fr g L h m₁ → News g L h news₁ → Q .next { s with heap := h, toks := tk })
    (hE : PassesOwn (model prog w) A env E := by passes_own) :
    wpAny (model prog w) A (pyIter (.ref r)) (fun it s₂ => codeAny (model prog w) A (.forLoop (.Name x px) it body [] env) (fun r s' => match r with | .ok f => Q f s' | .error e => cameBackBy (model prog w) A env E e s') s₂) E s := by
  refine wpAny_pyIter_range hr hsm ?_
  have W := Walks.range (prog := prog) (w := w) hh s.heap.objs.size a 1 n
  have hp : ∀ z o, s.heap.get? z = some o → (s.heap.push { cls := .type "range_iterator", data := .fields #[rawInt a, rawInt (Builtin.Range.rangeSize a b 1), rawInt 1] }).get? z = some o := fun z o e => Heap.get?_push_of_some _ e
  have hLI : L < s.heap.objs.size := F.ns.lt
  refine codeAny_forLoop_any (FgS s L n a J U) ?_ (n + 1)
    ⟨_, s.toks, g₀, m, news, 0, rfl, ?_, hst _ _ _ hU fun b o _ e => hp b o e, F.push _, fun q hq => ⟨hp _ _ (N q hq).1, (N q hq).2⟩, fun q hq => Nat.ne_of_lt (Heap.lt_size (N q hq).1), hJ, Nat.zero_le _, rfl⟩
  rotate_left
  · show Heap.get? _ _ = _
    rw [Heap.get?_push_size _ rfl, hn]; simp
  rintro k s' ⟨h, tk, g, m₁, news₁, i, rfl, st, U₁, F₁, N₁, off, J₁, hi, rfl⟩
  have hgI : g.get? s.heap.objs.size = none := Heap.get?_none_of_le (Nat.le_trans F₁.above (Nat.le_of_lt hLI))
  have keep : ∀ h' : Heap, (∀ b o, b ∉ [s.heap.objs.size] → h.get? b = some o → h'.get? b = some o) → U i h' ∧ Fr g L h' m₁ ∧ News g L h' news₁ := fun h' k =>
    ⟨hst _ _ _ U₁ fun b o hb e => k b o (by simpa using hb) e, ⟨F₁.ns.at' fun o e => k _ o (by simpa using Nat.ne_of_lt hLI) e, fun b o e => k b o (by simp; rintro rfl; rw [hgI] at e; cases e) (F₁.keep b o e), F₁.above⟩,
      fun q hq => ⟨k _ _ (by simpa using off q hq) (N₁ q hq).1, (N₁ q hq).2⟩⟩
  by_cases hlt : i < n
  · refine W.item i _ _ _ hlt st fun v h' tk' hP st' k => wpAny_pure ?_
    obtain ⟨tv, rfl⟩ := hP
    obtain ⟨U₂, F₂, N₂⟩ := keep h' k
    have N₃ : ∀ {oI}, h'.get? s.heap.objs.size = some oI → News g L h' ((s.heap.objs.size, oI) :: news₁) := fun {oI} ho q hq => by
      rcases List.mem_cons.mp hq with rfl | hq
      · exact ⟨ho, Nat.ne_of_gt hLI, hgI⟩
      · exact N₂ q hq
    refine wpAny_passesOwn hE (wpAny_mono (step _ i tv g m₁ news₁ h' tk' _ rfl hlt J₁ U₂ F₂ (N₃ st') off ⟨_, rfl, fun y t q => by simp [rawInt] at q⟩) (fun _ s₂ h₂ => ?_) fun _ _ x => x)
    refine wpAny_passesOwn hE (wpAny_mono h₂ (fun f s₃ h₃ => ?_) fun _ _ x => x)
    cases f with
    | next =>
      obtain ⟨h₄, tk₄, g₄, m₄, news₄, rfl, U₄, F₄, N₄, off₄, J₄⟩ : TE2 _ _ _ _ _ _ _ := h₃
      exact ⟨n + 1 - (i + 1), by omega, h₄, tk₄, g₄, m₄, news₄, i + 1, rfl, (N₄ _ (.head _)).1, U₄, F₄, fun q hq => N₄ q (.tail _ hq), off₄, J₄, hlt, rfl⟩
    | cont =>
      obtain ⟨h₄, tk₄, g₄, m₄, news₄, rfl, U₄, F₄, N₄, off₄, J₄⟩ : TE2 _ _ _ _ _ _ _ := h₃
      exact ⟨n + 1 - (i + 1), by omega, h₄, tk₄, g₄, m₄, news₄, i + 1, rfl, (N₄ _ (.head _)).1, U₄, F₄, fun q hq => N₄ q (.tail _ hq), off₄, J₄, hlt, rfl⟩
    | brk => exact h₃
    | ret v => exact h₃
  · have hin : i = n := by omega
    subst hin
    refine W.done _ _ _ st fun h' tk' k => wpAny_execs_nil ?_
    obtain ⟨U₂, F₂, N₂⟩ := keep h' k
    exact done g m₁ news₁ h' tk' J₁ U₂ F₂ N₂
end

theorem callWith_F1' {M : Model} {A : Around} {E : Value → Shared → Prop} {s : Shared} {env : Env} {pos : Pos} {h₀ : Heap} {f : Addr} {first : List Value} {Q : Value → Shared → Prop} {e : Expr} {rest : List Expr} (_X : FnAt h₀ f)
    (h : wpAny M A (spliced (backTo pos (starEach (e :: rest) env))) (fun vs s₁ => FnAt s₁.heap f ∧ wpAny M A (call (.ref f) (first ++ vs)) Q E s₁) E s)
    (he : starEach (e :: rest) env = (false, eval e env) :: starEach rest env) (hplain : (backTo pos (starEach rest env)).any (·.1) = false) :
    wpAny M A (callWith pos (.ref f) first (backTo pos (starEach (e :: rest) env)) []) Q E s := callWith_F1 h he hplain
theorem stop_call {M : Model} {A : Around} {E : Value → Shared → Prop} {s : Shared} {h₀ : Heap} {f : Addr} {args : List Value} {Q : Value → Shared → Prop} (_X : FnAt h₀ f) (h : Stop (wpAny M A (call (.ref f) args) Q E s)) : wpAny M A (call (.ref f) args) Q E s := h
local macro_rules | `(tactic| walk_at "callWith ref") => row [`(tactic| have x₉ : FnAt _ _ := (by with_reducible assumption)), tClear [`x₉], tTo `callWith_F1' [bW, bH, bR, bR]]
local macro_rules | `(tactic| walk_at "And") => tSeq [tW (`(tactic| show FnAt _ _ ∧ _)), tRf `(⟨FnAt.keeps (by with_reducible assumption) (Fr.keep (by k_asm)), ?_⟩), tTry (`(tactic| dsimp only [List.nil_append, List.cons_append]))]
local macro_rules | `(tactic| walk_at "call ref") => row [tTo `stop_call [bW, bH]]
theorem frames_low {h g base : Heap} : ∀ {l : List Env}, h.FunFrames base l → (∀ b ∈ fa l, ∀ o, h.get? b = some o → g.get? b = some o) → g.FunFrames base l
  | [], _, _ => trivial
  | env :: l, ⟨hk, ⟨L, o, hf, hn, ho, hd⟩, hr⟩, k =>
    ⟨hk, ⟨L, o, hf, hn, k L (by rw [fa_cons hf]; exact .head _) o ho, hd⟩, frames_low hr fun b hb => k b (by rw [fa_cons hf]; exact .tail _ hb)⟩
theorem get_ne {h : Heap} {a b : Addr} {o o' : Obj} (e : h.get? a = some o) (e' : h.get? b = some o') (n : o ≠ o') : a ≠ b := fun z => by
  rw [z, e'] at e; exact n (Option.some.inj e).symm
theorem name2 {α : Sort u} {P : α → Prop} {a : α} (h : P a) : ∃ b, b = a ∧ P b := ⟨a, rfl, h⟩
/-- room for draws, names and scopes -/
noncomputable def Small (v : Va) (d k : Nat) : Prop := v.b1 + k ≤ 10 ^ 16 ∧ v.top.ys.length + k ≤ 16000 ∧ v.lo.length + d ≤ 50
theorem Small.grown {v v' : Va} {d a k : Nat} (x : Small v d k) (g : Grown v v' a) (b : Nat) (h : a + b ≤ k) : Small v' d b := by
  obtain ⟨x1, x2, x3⟩ := x
  obtain ⟨y1, ⟨ys, y2, y3⟩, y4⟩ := g
  refine ⟨by omega, ?_, by rw [y1]; exact x3⟩
  rw [y2]; dsimp only; omega
/-- a callee of the reader's -/
structure ReadOk (prog : Program) (w : World) (h₀ : Heap) (c : Co) (need d k : Nat) (aH : Addr) (fx : List (Addr × Obj)) (f : Addr) : Prop where
  go : ∀ {dp un : Nat} {l : List Env} {gd : Option (List Code)} {s : Shared} {v : Va} {nH : Nat} {Q E : Value → Shared → Prop}, dp + need < recursionLimit → un + 10 * need < cLine →
    Pre prog w h₀ c v l s.heap → Fit v → Small v d k → aH ∉ adrs c v → (∀ b ∈ fa l, b ≠ aH) → (∀ z ∈ fx, s.heap.get? z.1 = some z.2) → s.heap.get? aH = some (listOf #[] nH) →
    (∀ h' v' n' t tk', Post prog w h₀ c v [aH] k (fa l) s.heap h' v' → Fit v' → h'.get? aH = some (listOf #[.bool true] n') → Q (.str (Str.ofString "told") t) { s with heap := h', toks := tk' }) →
    wpAny (model prog w) (ar dp un (some l) gd) (call (.ref f) [.ref c.aR]) Q E s
section
variable {prog : Program} {w : World} {c : Co} {v : Va} {h h' : Heap}
/-- the state behind a change of some objects -/
theorem StA.change {v' : Va} {as : List Addr} (x : StA prog w c v h) (k : ∀ b o, b ∈ adrs c v ∨ b ∈ v.cod.map (·.1) → b ∉ as → h.get? b = some o → h'.get? b = some o) (p : StPure prog w c v') (hlo : v'.lo = v.lo) (htop : v'.top = v.top) (hcod : v'.cod = v.cod)
    (off : ∀ b ∈ c.aSc :: c.aCl :: c.aSS :: (scAd v.sc ++ v.cod.map (·.1)), b ∉ as)
    (eR : h'.get? c.aR = some (instObj 188 c.dR)) (eD : h'.get? c.dR = some (rdDict w c.kt c.aT v'.tb v'.pl v'.tp (.ref (adr c.ts v'.j)) c.aSc c.aCl v'.nd v'.ba c.n)) (eS : h'.get? c.aS = some v'.oS)
    (eB : h'.get? c.aB = some (boxObj v'.b0 v'.b1 v'.b2 v'.t0 v'.t1 v'.t2 v'.nB)) (eM : h'.get? v'.aM = some (listOf #[.bool v'.md, .bool v'.mb] v'.nM)) (e3 : h'.get? 300 = some (tabObj v'.ps3)) (e4 : h'.get? 314 = some (tabObj v'.ps4)) : StA prog w c v' h' := by
  have hsc : v'.sc = v.sc := by simp only [Va.sc, hlo, htop]
  have ks : ∀ q ∈ v.sc, ScAt h q → ScAt h' q := fun q hq y => y.move fun b o hb e => k b o (.inl (by simp [adrs, scAd_mem hq hb])) (off b (by simp [scAd_mem hq hb])) e
  refine ⟨⟨eR, eD, eS, ⟨?_, ?_, ?_, ?_, ?_⟩, ⟨?_, ?_, ?_⟩, e3, e4⟩, ⟨eB, eM, fun z hz => ?_⟩, p⟩ <;> (try rw [hsc])
  · exact lo_move x.r.S.l0 fun o e => k _ o (.inl (by lcg_sub)) (off _ (by simp)) e
  · exact lo_move x.r.S.c0 fun o e => k _ o (.inl (by lcg_sub)) (off _ (by simp)) e
  · exact fun q hq => ks q hq (x.r.S.all q hq)
  · exact x.r.S.few
  · exact x.r.S.bot
  · exact lo_move x.r.T.l0 fun o e => k _ o (.inl (by lcg_sub)) (off _ (by simp)) e
  · exact fun q hq => ks q hq (x.r.T.all q hq)
  · exact x.r.T.few
  · rw [hcod] at hz
    exact k _ _ (.inr (List.mem_map_of_mem hz)) (off _ (by simp; exact .inr (.inr (.inr (.inr ⟨z.2, hz⟩))))) (x.o.gC z hz)
theorem adrs_off {v : Va} (p : StPure prog w c v) {as : List Addr} (has : ∀ a ∈ as, a ∈ [c.aR, c.dR, c.aS, c.aB, 300, 314]) : ∀ b ∈ c.aSc :: c.aCl :: c.aSS :: (scAd v.sc ++ v.cod.map (·.1)), b ∉ as := fun b hb q => by
  have nd := p.nd
  have h1 := has b q
  have hc : b ∈ core c := by simp only [core, List.mem_cons, List.not_mem_nil, or_false] at h1 ⊢; rcases h1 with h1 | h1 | h1 | h1 | h1 | h1 <;> simp [h1]
  obtain ⟨_, _, _, a4, a5, a6, _, _, _, _, b4, b5, b6, _, _, _, c4, c5, c6, _, _, d4, d5, d6, _, _, _, _, e3, e4, _, f3, f4, g3, g4⟩ := core_off (nd_core nd)
  simp only [List.mem_cons, List.mem_append] at hb
  rcases hb with rfl | rfl | rfl | hb | hb
  · simp only [List.mem_cons, List.not_mem_nil, or_false] at h1
    rcases h1 with h1 | h1 | h1 | h1 | h1 | h1
    · exact a4 h1.symm
    · exact b4 h1.symm
    · exact c4 h1.symm
    · exact d4 h1.symm
    · exact e3 h1
    · exact e4 h1
  · simp only [List.mem_cons, List.not_mem_nil, or_false] at h1
    rcases h1 with h1 | h1 | h1 | h1 | h1 | h1
    · exact a5 h1.symm
    · exact b5 h1.symm
    · exact c5 h1.symm
    · exact d5 h1.symm
    · exact f3 h1
    · exact f4 h1
  · simp only [List.mem_cons, List.not_mem_nil, or_false] at h1
    rcases h1 with h1 | h1 | h1 | h1 | h1 | h1
    · exact a6 h1.symm
    · exact b6 h1.symm
    · exact c6 h1.symm
    · exact d6 h1.symm
    · exact g3 h1
    · exact g4 h1
  · exact nd_off nd (.tail _ hb) b hc rfl
  · obtain ⟨z, hz, rfl⟩ := List.mem_map.mp hb
    exact p.nc z hz (adrs_core hc)
/-- the reader's dict is written anew -/
theorem StA.setD {nd ba : Bool} {tb : Value} (x : StA prog w c v h) (k : ∀ b o, b ∈ adrs c v ∨ b ∈ v.cod.map (·.1) → b ∉ [c.dR] → h.get? b = some o → h'.get? b = some o) (e : h'.get? c.dR = some (rdDict w c.kt c.aT tb v.pl v.tp (.ref (adr c.ts v.j)) c.aSc c.aCl nd ba c.n)) : StA prog w c { v with tb := tb, nd := nd, ba := ba } h' := by
  have kk : ∀ b o, b ∈ adrs c v → b ≠ c.dR → h.get? b = some o → h'.get? b = some o := fun b o m n e => k b o (.inl m) (by simpa using n) e
  obtain ⟨a1, _, _, _, _, _, _, _, b2, b3, _, _, _, b7, b8, _⟩ := core_off (nd_core x.p.nd)
  refine x.change (v' := { v with tb := tb, nd := nd, ba := ba }) k ⟨x.p.dS, x.p.b0, x.p.b0', x.p.b1, x.p.tr3, x.p.tr4, x.p.c3, x.p.c4, x.p.c5, x.p.nd, x.p.nc, x.p.cd2⟩ rfl rfl rfl (adrs_off x.p (by simp))
    (kk _ _ (by lcg_sub) a1 x.r.gR) e (kk _ _ (by lcg_sub) (Ne.symm b2) x.r.gS) (kk _ _ (by lcg_sub) (Ne.symm b3) x.o.gB)
    (kk _ _ (by simp [adrs]) (Ne.symm (nd_off x.p.nd (.head _) _ (by lcg_sub))) x.o.gM) (kk _ _ (by lcg_sub) (Ne.symm b7) x.r.p3) (kk _ _ (by lcg_sub) (Ne.symm b8) x.r.p4)
end
local macro_rules | `(tactic| k_all) => tWA
noncomputable def codF (h₀ : Heap) (cod : List (Addr × Obj)) : List (Addr × Obj) := cod.filter fun z => (h₀.get? z.1).isNone
theorem codF_mem {h₀ : Heap} {cod : List (Addr × Obj)} {z : Addr × Obj} : z ∈ codF h₀ cod ↔ z ∈ cod ∧ h₀.get? z.1 = none := by simp [codF]
noncomputable abbrev mk (v : Va) : Addr × Obj := (v.aM, listOf #[.bool v.md, .bool v.mb] v.nM)
inductive Aft (h₀ h' : Heap) (L : Addr) (m : Str → Option Value) (news extra : List (Addr × Obj)) (v' : Va) (l : List Env) : Prop
  | mk (g2 : Heap) (F : Fr g2 L h' m) (N : News g2 L h' news) (st : h₀.StaysIn g2) (hl : g2.FunFrames h₀ l)
    (low : ∀ b o, b < L → b ∉ extra.map (·.1) → b ≠ v'.aM → b ∉ v'.cod.map (·.1) → h'.get? b = some o → g2.get? b = some o)
section
variable {prog : Program} {w : World} {c : Co} {v v' : Va} {h h' h₀ : Heap} {l : List Env}
/-- standing anew behind a deed: the frame's own things, the marks and the code records go to the ledger -/
theorem after {g h₂ : Heap} {L : Addr} {m : Str → Option Value} {env : Env} {ws : List Addr} {k : Nat} (extra : List (Addr × Obj)) (F : Fr g L h₂ m) (P1 : Pre prog w h₀ c v (env :: l) h₂) (Y : Post prog w h₀ c v ws k (fa (env :: l)) h₂ h' v') (hf : env.frame = some L)
    (hws : ∀ a ∈ ws, h₀.get? a = none ∧ a ∉ fa (env :: l)) (lt : ∀ b o, h.get? b = some o → b < L) (h0 : h₀.StaysIn h) (hl : h.FunFrames h₀ l) (hx : ∀ q ∈ extra, h'.get? q.1 = some q.2 ∧ h₀.get? q.1 = none ∧ q.1 ∉ fa (env :: l)) :
    Aft h₀ h' L m (extra ++ mk v' :: codF h₀ v'.cod) extra v' l := by
  have P2 := Post.pre P1 Y hws
  have hLm : L ∈ fa (env :: l) := by rw [fa_cons hf]; exact .head _
  have noC := frames_noC P2.hl P2.st
  obtain ⟨g2, F2, N2, low, sub⟩ := rebaseH (as := (extra ++ mk v' :: codF h₀ v'.cod).map (·.1)) (mu' := extra ++ mk v' :: codF h₀ v'.cod) F
    (fun o e => by
      have nL : L ∉ ws ++ wr c v := fun q => by
        rcases List.mem_append.mp q with q | q
        · exact (hws L q).2 hLm
        · exact P1.dis L hLm (wr_adrs q)
      obtain ⟨sl, e1, _⟩ := Y.up L o e nL; exact ⟨sl, e1⟩)
    (fun a ha => by
      obtain ⟨q, hq, rfl⟩ := List.mem_map.mp ha
      rcases List.mem_append.mp hq with hq | hq
      · intro z; exact (hx q hq).2.2 (z ▸ hLm)
      · rcases List.mem_cons.mp hq with rfl | hq
        · intro z; exact Y.dis L hLm (by rw [← z]; simp [adrs])
        · intro z; exact noC L hLm (by rw [← z]; exact List.mem_map_of_mem (codF_mem.mp hq).1))
    (fun q hq => ⟨by
      rcases List.mem_append.mp hq with hq | hq
      · exact (hx q hq).1
      · rcases List.mem_cons.mp hq with rfl | hq
        · exact Y.st.o.gM
        · exact Y.st.o.gC q (codF_mem.mp hq).1, List.mem_map_of_mem hq⟩)
  have low1 : ∀ b o, b < L → b ∉ extra.map (·.1) → b ≠ v'.aM → b ∉ (codF h₀ v'.cod).map (·.1) → h'.get? b = some o → g2.get? b = some o := fun b o l1 l2 l3 l4 e => low b o l1 (by
    rw [List.map_append, List.map_cons]
    intro q
    rcases List.mem_append.mp q with q | q
    · exact l2 q
    · rcases List.mem_cons.mp q with q | q
      · exact l3 q
      · exact l4 q) e
  refine ⟨g2, F2, N2, fun b o e => ?_, ?_, fun b o l1 l2 l3 l4 e => low1 b o l1 l2 l3 (fun q => l4 ?_) e⟩
  · have hb := lt b o (h0 b o e)
    refine low1 b o hb (fun q => ?_) (fun q => by rw [q, Y.outM] at e; cases e) (fun q => ?_) (P2.h0 b o e)
    · obtain ⟨z, hz, rfl⟩ := List.mem_map.mp q; rw [(hx z hz).2.1] at e; cases e
    · obtain ⟨z, hz, rfl⟩ := List.mem_map.mp q; rw [(codF_mem.mp hz).2] at e; cases e
  · have hl2 : h'.FunFrames h₀ l := P2.hl.2.2
    have ff : ∀ b ∈ fa l, b ∈ fa (env :: l) := fun b hb => by rw [fa_cons hf]; exact .tail _ hb
    refine frames_low hl2 fun b hb o e => low1 b o ?_ (fun q => ?_) (fun q => ?_) (fun q => ?_) e
    · obtain ⟨_, o, e, _⟩ := hl.mem hb; exact lt b o e
    · obtain ⟨z, hz, rfl⟩ := List.mem_map.mp q; exact (hx z hz).2.2 (ff _ hb)
    · exact Y.dis b (ff _ hb) (by rw [q]; simp [adrs])
    · obtain ⟨z, hz, rfl⟩ := List.mem_map.mp q; exact noC _ (ff _ hb) (List.mem_map_of_mem (codF_mem.mp hz).1)
  · obtain ⟨z, hz, rfl⟩ := List.mem_map.mp q; exact List.mem_map_of_mem (codF_mem.mp hz).1
theorem Pre.gone {ws : List Addr} {D : Addr} (P : Pre prog w h₀ c v l h) (hws : ∀ a ∈ ws, ∃ o, h.get? a = some o) (hn : h.get? D = none) : D ∉ ws ++ wr c v ∧ D ∉ fa l ∧ h₀.get? D = none := by
  refine ⟨fun q => ?_, fun q => ?_, ?_⟩
  · rcases List.mem_append.mp q with q | q
    · obtain ⟨o, e⟩ := hws D q; rw [hn] at e; cases e
    · obtain ⟨o, e⟩ := P.st.has (wr_adrs q); rw [hn] at e; cases e
  · obtain ⟨_, o, e, _⟩ := P.hl.mem q; rw [hn] at e; cases e
  · cases q : h₀.get? D with
    | none => rfl
    | some o => rw [P.h0 _ _ q] at hn; cases hn
/-- the steps behind a deed keep all but what they write -/
theorem seg_end {g2 hE : Heap} {L : Addr} {m : Str → Option Value} {extra newsE : List (Addr × Obj)} {wsE : List Addr} (st : h₀.StaysIn g2) (S : StA prog w c v' h') (P2 : h₀.StaysIn h')
    (low : ∀ b o, b < L → b ∉ extra.map (·.1) → b ≠ v'.aM → b ∉ v'.cod.map (·.1) → h'.get? b = some o → g2.get? b = some o) (F : Fr g2 L hE m) (N : News g2 L hE newsE) (hx : ∀ q ∈ extra, q.1 ∈ wsE ∨ (q ∈ newsE ∧ h'.get? q.1 = some q.2))
    (hM : mk v' ∈ newsE) (hC : ∀ z ∈ codF h₀ v'.cod, z ∈ newsE) (lt : ∀ b ∈ core c ++ scAd v'.sc, b < L) : ∀ b o, (b < L ∨ b ∈ adrs c v' ∨ b ∈ v'.cod.map (·.1)) → b ∉ wsE → h'.get? b = some o → hE.get? b = some o := fun b o hb nb e => by
  by_cases q1 : b ∈ v'.cod.map (·.1)
  · obtain ⟨z, hz, rfl⟩ := List.mem_map.mp q1
    rw [S.o.gC z hz] at e; cases e
    cases q : h₀.get? z.1 with
    | none => exact N.get (hC z (codF_mem.mpr ⟨hz, q⟩))
    | some o1 =>
      have e1 := P2 _ _ q
      rw [S.o.gC z hz] at e1; cases e1
      exact F.keep _ _ (st _ _ q)
  · by_cases q2 : b = v'.aM
    · subst q2
      rw [S.o.gM] at e; cases e
      exact N.get hM
    · by_cases q3 : b ∈ extra.map (·.1)
      · obtain ⟨z, hz, rfl⟩ := List.mem_map.mp q3
        rcases hx z hz with h1 | ⟨h1, h2⟩
        · exact absurd h1 nb
        · rw [h2] at e; cases e; exact N.get h1
      · refine F.keep _ _ (low b o ?_ q3 q2 q1 e)
        rcases hb with hb | hb | hb
        · exact hb
        · simp only [adrs, List.mem_append, List.mem_cons] at hb
          rcases hb with hb | hb | hb
          · exact lt b (List.mem_append_left _ hb)
          · exact absurd hb q2
          · exact lt b (List.mem_append_right _ hb)
        · exact absurd hb q1
end

section
variable {prog : Program} {w : World} {p : Program} {loose : List Str} {mean : ExcName → Option Value} {mg mb : Str → Option Value} {c : Co} {v : Va}
  {dp un : Nat} {l : List Env} {gd : Option (List Code)} {s : Shared} {Q E : Value → Shared → Prop} {h₀ : Heap} {aH f : Addr} {fx : List (Addr × Obj)} {need d k nH : Nat} {x y : Bool}
theorem reading_at (C : Cx w p loose mean mg mb c.row c.aT c.aRow c.ts c.rs h₀) (R : ReadOk prog w h₀ c need d k aH fx f) (hr : dp + need + 10 < recursionLimit) (hu : un + 10 * need + 50 < cLine) (P : Pre prog w h₀ c v l s.heap) (hx : x = v.md) (hy : y = v.mb) (hpl : v.pl = v.ql) (hj : v.j = v.qj) (hs : Small v d k)
    (hH : aH ∉ adrs c v) (hH0 : h₀.get? aH = none) (hHl : ∀ b ∈ fa l, b ≠ aH) (hfx : ∀ z ∈ fx, s.heap.get? z.1 = some z.2) (hfd : ∀ z ∈ fx, z.1 ≠ c.dR) (hf : FnAt s.heap f) (ha : s.heap.get? aH = some (listOf #[] nH))
    (h : ∀ h' v' n' t tk', Post prog w h₀ c v [aH] k (fa l) s.heap h' v' → v'.nd = v.nd → v'.ba = v.ba → v'.pl = v'.ql → v'.j = v'.qj → h'.get? aH = some (listOf #[.bool true] n') → Q (.str (Str.ofString "told") t) { s with heap := h', toks := tk' }) :
    wpAny (model prog w) (ar dp un (some l) gd) (call (.ref 164) [.ref c.aR, .bool x, .bool y, .ref f]) Q E s := by
  refine wpAny_call ?_
  have B := C.base
  have S := P.st
  have a1 := (core_off (nd_core S.p.nd)).x1
  have hA : At h₀ s.heap [(c.aR, instObj 188 c.dR), (c.dR, rdDict w c.kt c.aT v.tb v.pl v.tp (.ref (adr c.ts v.j)) c.aSc c.aCl v.nd v.ba c.n)] := ⟨P.h0, fm ⟨S.r.gR, P.out _ (by lcg_sub)⟩ (all1 ⟨S.r.gD, P.out _ (by lcg_sub)⟩)⟩
  have X0 := Frag.In.keeps B.X hA.1
  ktr_enter
  intro g L h₁ m0 hm0 F N' X T st hlt kp
  have lt := ent_lt hlt kp F
  have nf : f ≠ c.dR := fun z => by obtain ⟨o, fd, e, ed⟩ := hf; rw [z, S.r.gD] at e; cases e; cases ed
  have nf2 : f ≠ c.aR := fun z => by obtain ⟨o, fd, e, ed⟩ := hf; rw [z, S.r.gR] at e; cases e; cases ed
  have fg : FnAt g f := by obtain ⟨o, fd, e, ed⟩ := hf; exact ⟨o, fd, kp _ _ e (not2 nf2 nf), ed⟩
  have hlg : g.FunFrames h₀ l := frames_upAs P.hl (off_map (fm (fun q => P.dis _ q (mca mc1)) (all1 fun q => P.dis _ q (mca mc2)))) (Up.of_keeps (fs := []) kp)
  dsimp only
  k_unmd
  k_fold
  k_steps
  rename Fr _ _ _ _ => kF
  rename News _ _ _ _ => kN
  rename_i D2 _ _ _ _ _ _ _ _ _ _
  have k1 := keeps_but hA kp kF (kN.get (by k_mem))
  have S1 := S.setD (nd := x) (ba := y) (tb := v.tb) (fun b o _ nb e => k1 b o e nb) (kN.get (by k_mem))
  have nH : aH ≠ c.dR := fun z => hH (z ▸ mca mc2)
  have P1 : ∀ {env : Env}, env.frame = some L → env.scope.kind ≠ .module → Pre prog w h₀ c { v with tb := v.tb, nd := x, ba := y } (env :: l) _ := fun hf hk => Pre.push P S1 rfl P.outM P.outC P.dis kF st hlg hf hk fun b hb => Nat.ne_of_lt (by obtain ⟨o, e⟩ := S.has hb; exact lt b o e)
  have nL : ∀ {env : Env}, env.frame = some L → ∀ b ∈ fa (env :: l), b ≠ aH := fun hf b hb => by
    rw [fa_cons hf] at hb
    rcases List.mem_cons.mp hb with z | z
    · rw [z]; exact Nat.ne_of_gt (lt _ _ ha)
    · exact hHl b z
  refine R.go (l := envOf _ _ L 164 _ :: l) (by ktr_room) (by ktr_units) (P1 rfl (by nofun)) ⟨hx, hy, hpl, hj⟩ hs hH (nL rfl) (fun z hz => k1 _ _ (hfx z hz) (not1 (hfd z hz))) (k1 _ _ ha (not1 nH)) fun h' v' n' t tk' Y fit' eH => ?_
  have P2 := Post.pre (P1 rfl (by nofun)) Y (fun a ha => by rcases List.mem_singleton.mp ha with rfl; exact ⟨hH0, fun q => nL rfl _ q rfl⟩)
  have fr : ∀ {D : Addr}, g.get? D = none → D ≠ c.aR → D ≠ c.dR → s.heap.get? D = none := fun hn n1 n2 => fresh_but kp hn (not2 n1 n2)
  have q3 : D2 ≠ c.dR := get_ne (kN.get (by k_mem)) (kN.get (.tail _ (.tail _ (.tail _ (.head _))))) (fun q => by have q1 := congrArg Obj.data q; cases q1)
  have q4 : D2 ≠ c.aR := get_ne (kN.get (by k_mem)) (kN.get (.tail _ (.tail _ (.head _)))) (fun q => by have q1 := congrArg Obj.data q; cases q1)
  have f2 := fr (kN _ (.tail _ (.head _))).2.2 q4 q3
  obtain ⟨f3, f4, f5⟩ := P.gone (ws := [aH]) (fun a q => by rcases List.mem_singleton.mp q with rfl; exact ⟨_, ha⟩) f2
  have e2 : h'.get? D2 = some (tupObj [.bool v.nd, .bool v.ba] 0) := Y.up.keep (kN.get (by k_mem)) f3 (fun q => by
    rw [fa_cons (L := L) rfl] at q
    rcases List.mem_cons.mp q with q | q
    · exact (kN _ (.tail _ (.head _))).2.1 q
    · exact f4 q)
  obtain ⟨g2, F2, N2, st2, hl2, low⟩ := after (l := l) (h := s.heap) [(D2, tupObj [.bool v.nd, .bool v.ba] 0), (c.aR, instObj 188 c.dR), (c.dR, _)] kF (P1 rfl (by nofun)) Y rfl (fun a ha => by rcases List.mem_singleton.mp ha with rfl; exact ⟨hH0, fun q => nL rfl _ q rfl⟩) lt P.h0 P.hl (all3 ⟨e2, f5, fun q => by
        rw [fa_cons (L := L) rfl] at q
        rcases List.mem_cons.mp q with q | q
        · exact (kN _ (.tail _ (.head _))).2.1 q
        · exact f4 q⟩ ⟨Y.st.r.gR, P.out _ (mcw mc1), fun q => Y.dis _ q (mca mc1)⟩ ⟨Y.st.r.gD, P.out _ (mcw mc2), fun q => Y.dis _ q (mca mc2)⟩)
  dsimp only [List.cons_append, List.nil_append] at N2
  have q1 : v'.aM ≠ c.dR := (nd_off Y.st.p.nd (.head _) _ (by lcg_sub)).symm
  have q2 : ∀ z ∈ codF h₀ v'.cod, z.1 ≠ c.dR := fun z hz => nc_ne Y.st.p (mca mc2) z (codF_mem.mp hz).1
  have C2 := C.keeps st2
  obtain ⟨X2, T2⟩ := id C2.base
  clear kF kN X T fg
  k_steps
  rename Fr _ _ _ _ => kF
  rename News _ _ _ _ => kN
  have k3 := seg_end (wsE := [c.dR]) st2 Y.st P2.h0 low kF kN (all3 (.inr ⟨by k_mem, e2⟩) (.inr ⟨by k_mem, Y.st.r.gR⟩) (.inl (.head _))) (by k_mem) (fun z hz => by repeat (first | exact hz | apply List.Mem.tail)) (fun b hb => by
    rw [Y.gr.scAd] at hb
    obtain ⟨o, e⟩ := S.has (adrs_of hb)
    exact lt b o e)
  have SE := Y.st.setD (nd := v.nd) (ba := v.ba) (tb := v'.tb) (fun b o m nb e => k3 b o (.inr m) nb e) (kN.get (by k_mem))
  have nw : ∀ b, b ∉ [aH] ++ wr c v → b ∉ [c.dR] := fun b nb q => nb (List.mem_append_right _ (all1 (P := fun b => b ∈ wr c v) (mcw mc2) _ q))
  have u2 := Y.up
  rw [fa_cons (L := L) rfl] at u2
  exact h _ { v' with nd := v.nd, ba := v.ba } n' t _ ⟨SE, ⟨Y.gr.lo, Y.gr.top, Y.gr.b1⟩, Up.seg (fun b o e nb => k1 b o e (nw b nb)) u2 (fun b o hb nb e => k3 b o (.inl hb) (nw b nb) e) lt, fun b hb => Y.dis b (by rw [fa_cons (L := L) rfl]; exact .tail _ hb), Y.outM, Y.outC⟩ rfl rfl fit'.pl fit'.j
    (k3 _ _ (.inl (lt _ _ ha)) (not1 nH) eH)
end
local macro_rules | `(tactic| walk_at "call ref") => stopAt 164
section
variable {prog : Program} {w : World} {p : Program} {loose : List Str} {mean : ExcName → Option Value} {mg mb : Str → Option Value} {c : Co} {v : Va}
  {dp un : Nat} {l : List Env} {gd : Option (List Code)} {s : Shared} {Q E : Value → Shared → Prop} {h₀ : Heap} {aH f : Addr} {fx : List (Addr × Obj)} {need d k nH : Nat} {x y : Bool}
theorem within_at (C : Cx w p loose mean mg mb c.row c.aT c.aRow c.ts c.rs h₀) (R : ReadOk prog w h₀ c need d k aH fx f) (hr : dp + need + 20 < recursionLimit) (hu : un + 10 * need + 100 < cLine) (P : Pre prog w h₀ c v l s.heap) (hx : false = v.md) (hy : false = v.mb) (hpl : v.pl = v.ql) (hj : v.j = v.qj) (hs : Small v d k)
    (hH : aH ∉ adrs c v) (hH0 : h₀.get? aH = none) (hHl : ∀ b ∈ fa l, b ≠ aH) (hfx : ∀ z ∈ fx, s.heap.get? z.1 = some z.2) (hfd : ∀ z ∈ fx, z.1 ≠ c.dR) (hf : FnAt s.heap f) (ha : s.heap.get? aH = some (listOf #[] nH))
    (h : ∀ h' v' n' t tk', Post prog w h₀ c v [aH] k (fa l) s.heap h' v' → v'.nd = v.nd → v'.ba = v.ba → v'.pl = v'.ql → v'.j = v'.qj → h'.get? aH = some (listOf #[.bool true] n') → Q (.str (Str.ofString "told") t) { s with heap := h', toks := tk' }) :
    wpAny (model prog w) (ar dp un (some l) gd) (call (.ref 171) [.ref c.aR, .ref f]) Q E s := by
  refine wpAny_call ?_
  have S := P.st
  have B : Base w p loose mean mg mb s.heap := C.base.keeps P.h0
  obtain ⟨X, T⟩ := id B
  have hi := S.r.gR
  have hd := S.r.gD
  kc_enter
  intro L h₁ m0 hm0 F N
  dsimp only
  k_unmd
  k_fold
  k_steps
  rename Fr _ _ _ _ => kF
  have S1 := S.keeps kF.keep
  have lt : ∀ {b o}, s.heap.get? b = some o → b < L := fun e => fr_old kF e
  have P1 : ∀ {env : Env}, env.frame = some L → env.scope.kind ≠ .module → Pre prog w h₀ c v (env :: l) _ := fun hf hk => Pre.push P S1 rfl P.outM P.outC P.dis kF P.h0 P.hl hf hk fun b hb => Nat.ne_of_lt (by obtain ⟨o, e⟩ := S.has hb; exact lt e)
  refine reading_at (l := envOf _ _ L 171 _ :: l) C R (by ktr_room) (by ktr_units) (P1 rfl (by nofun)) hx hy hpl hj hs hH hH0 (fun b hb => by
    rw [fa_cons (L := L) rfl] at hb
    rcases List.mem_cons.mp hb with z | z
    · rw [z]; exact Nat.ne_of_gt (lt ha)
    · exact hHl b z) (fun z hz => kF.keep _ _ (hfx z hz)) hfd (hf.keeps kF.keep) (kF.keep _ _ ha) fun h' v' n' t tk' Y e1 e2 e3 e4 eH => ?_
  have u2 := Y.up
  rw [fa_cons (L := L) rfl] at u2
  k_steps
  exact h _ v' n' t _ ⟨Y.st, Y.gr, Up.after kF u2, fun b hb => Y.dis b (by rw [fa_cons (L := L) rfl]; exact .tail _ hb), Y.outM, Y.outC⟩ e1 e2 e3 e4 eH
theorem without_at (C : Cx w p loose mean mg mb c.row c.aT c.aRow c.ts c.rs h₀) (R : ReadOk prog w h₀ c need d k aH fx f) (hr : dp + need + 20 < recursionLimit) (hu : un + 10 * need + 100 < cLine) (P : Pre prog w h₀ c v l s.heap) (hx : true = v.md) (hy : v.ba = v.mb) (hpl : v.pl = v.ql) (hj : v.j = v.qj) (hs : Small v d k)
    (hH : aH ∉ adrs c v) (hH0 : h₀.get? aH = none) (hHl : ∀ b ∈ fa l, b ≠ aH) (hfx : ∀ z ∈ fx, s.heap.get? z.1 = some z.2) (hfd : ∀ z ∈ fx, z.1 ≠ c.dR) (hf : FnAt s.heap f) (ha : s.heap.get? aH = some (listOf #[] nH))
    (h : ∀ h' v' n' t tk', Post prog w h₀ c v [aH] k (fa l) s.heap h' v' → v'.nd = v.nd → v'.ba = v.ba → v'.pl = v'.ql → v'.j = v'.qj → h'.get? aH = some (listOf #[.bool true] n') → Q (.str (Str.ofString "told") t) { s with heap := h', toks := tk' }) :
    wpAny (model prog w) (ar dp un (some l) gd) (call (.ref 178) [.ref c.aR, .ref f]) Q E s := by
  refine wpAny_call ?_
  have S := P.st
  have B : Base w p loose mean mg mb s.heap := C.base.keeps P.h0
  obtain ⟨X, T⟩ := id B
  have hi := S.r.gR
  have hd := S.r.gD
  kc_enter
  intro L h₁ m0 hm0 F N
  dsimp only
  k_unmd
  k_fold
  k_steps
  rename Fr _ _ _ _ => kF
  have S1 := S.keeps kF.keep
  have lt : ∀ {b o}, s.heap.get? b = some o → b < L := fun e => fr_old kF e
  have P1 : ∀ {env : Env}, env.frame = some L → env.scope.kind ≠ .module → Pre prog w h₀ c v (env :: l) _ := fun hf hk => Pre.push P S1 rfl P.outM P.outC P.dis kF P.h0 P.hl hf hk fun b hb => Nat.ne_of_lt (by obtain ⟨o, e⟩ := S.has hb; exact lt e)
  refine reading_at (l := envOf _ _ L 178 _ :: l) C R (by ktr_room) (by ktr_units) (P1 rfl (by nofun)) hx hy hpl hj hs hH hH0 (fun b hb => by
    rw [fa_cons (L := L) rfl] at hb
    rcases List.mem_cons.mp hb with z | z
    · rw [z]; exact Nat.ne_of_gt (lt ha)
    · exact hHl b z) (fun z hz => kF.keep _ _ (hfx z hz)) hfd (hf.keeps kF.keep) (kF.keep _ _ ha) fun h' v' n' t tk' Y e1 e2 e3 e4 eH => ?_
  have u2 := Y.up
  rw [fa_cons (L := L) rfl] at u2
  k_steps
  exact h _ v' n' t _ ⟨Y.st, Y.gr, Up.after kF u2, fun b hb => Y.dis b (by rw [fa_cons (L := L) rfl]; exact .tail _ hb), Y.outM, Y.outC⟩ e1 e2 e3 e4 eH
end

section
variable {prog : Program} {w : World} {A : Around} {E : Value → Shared → Prop} {s : Shared} {a : Addr}
theorem notin_st {o : Obj} {kvs : List (Str × Value)} {x : Str} {t : Tok} {b : Bool} {Q : Value → Shared → Prop} (hd : o.IsDictOf (strKind prog w) kvs) (ho : s.heap.get? a = some o) (lo : (a == sysModules) = false)
    (hb : (valueAt kvs x).isSome = b) (h : Q (.bool (!b)) { s with toks := s.toks + 1 }) : wpAny (model prog w) A (compareOp .NotIn (.str x t) (.ref a)) Q E s := by
  have hm : s.heap.DictOf (strKind prog w) a kvs := Heap.dictOf_iff.mpr ⟨o, ho, hd⟩
  exact wpAny_notIn_of (strKind_is prog w x t) lo hm.mapOf (by rw [hb]; exact h)
theorem tab1 {x : Str} {v : Value} : valueAt [(x, v)] x = some v := by simp [valueAt]
theorem tab1s {x : Str} {v : Value} : (valueAt [(x, v)] x).isSome = true := by rw [tab1]; rfl
theorem tab0s {x : Str} : (valueAt ([] : List (Str × Value)) x).isSome = false := rfl
end
local macro_rules | `(tactic| tb_start) => tAny [`st_row, `st_at, `st_last, `st_marks, `st_scopes, `tab1] [`st_row, `st_at, `st_last, `st_marks, `st_scopes, `tab1]
local macro_rules | `(tactic| walk_at "compareOp NotIn str ref") => row [tTo `notin_st [bW, bRel, bA, (bY (tAny [] [`tab1s, `tab0s])), bH], tTry (`(tactic| dsimp only [Bool.not_true, Bool.not_false]))]
section
variable {prog : Program} {w : World} {p : Program} {loose : List Str} {mean : ExcName → Option Value} {mg mb : Str → Option Value} {c : Co} {v : Va}
  {dp un : Nat} {l : List Env} {gd : Option (List Code)} {s : Shared} {Q E : Value → Shared → Prop} {h₀ : Heap} {aH f dT : Addr} {oT : Obj} {nm : Str} {tn : Tok} {fx : List (Addr × Obj)} {need d k nH : Nat}
theorem part_yes (C : Cx w p loose mean mg mb c.row c.aT c.aRow c.ts c.rs h₀) (R : ReadOk prog w h₀ c need d k aH fx f) (hr : dp + need + 20 < recursionLimit) (hu : un + 10 * need + 100 < cLine) (P : Pre prog w h₀ c v l s.heap) (hx : v.nd = v.md) (hy : v.ba = v.mb) (hpl : v.pl + 1 = v.ql) (hj : v.pl = v.qj)
    (hT : s.heap.get? dT = some oT) (hTd : oT.IsDictOf (strKind prog w) [(nm, .ref f)]) (hlo : (dT == sysModules) = false) (htb : v.tb = .ref dT) (hTo : dT ≠ c.aR ∧ dT ≠ c.dR) (hs : Small v d k)
    (hH : aH ∉ adrs c v) (hH0 : h₀.get? aH = none) (hHl : ∀ b ∈ fa l, b ≠ aH) (hfx : ∀ z ∈ fx, s.heap.get? z.1 = some z.2) (hfd : ∀ z ∈ fx, z.1 ≠ c.dR) (hf : FnAt s.heap f) (ha : s.heap.get? aH = some (listOf #[] nH))
    (h : ∀ h' v' n' t tk', Post prog w h₀ c v [aH] k (fa l) s.heap h' v' → Fit v' → h'.get? aH = some (listOf #[.bool true] n') → Q (.str (Str.ofString "told") t) { s with heap := h', toks := tk' }) :
    wpAny (model prog w) (ar dp un (some l) gd) (call (.ref 185) [.ref c.aR, .str nm tn]) Q E s := by
  refine wpAny_call ?_
  have B := C.base
  have S := P.st
  have a1 := (core_off (nd_core S.p.nd)).x1
  have hgD := S.r.gD
  rw [htb] at hgD
  have hA : At h₀ s.heap [(c.aR, instObj 188 c.dR), (c.dR, rdDict w c.kt c.aT (.ref dT) v.pl v.tp (.ref (adr c.ts v.j)) c.aSc c.aCl v.nd v.ba c.n)] := ⟨P.h0, fm ⟨S.r.gR, P.out _ (by lcg_sub)⟩ (all1 ⟨hgD, P.out _ (by lcg_sub)⟩)⟩
  have X0 := Frag.In.keeps B.X hA.1
  ktr_enter
  intro g L h₁ m0 hm0 F N' X T st hlt kp
  have C' := C.keeps st
  have lt := ent_lt hlt kp F
  have nf : f ≠ c.dR := fun z => by obtain ⟨o, fd, e, ed⟩ := hf; rw [z, S.r.gD] at e; cases e; cases ed
  have nf2 : f ≠ c.aR := fun z => by obtain ⟨o, fd, e, ed⟩ := hf; rw [z, S.r.gR] at e; cases e; cases ed
  have fg : FnAt g f := by obtain ⟨o, fd, e, ed⟩ := hf; exact ⟨o, fd, kp _ _ e (not2 nf2 nf), ed⟩
  have hTg : g.get? dT = some oT := kp _ _ hT (not2 hTo.1 hTo.2)
  have hlg : g.FunFrames h₀ l := frames_upAs P.hl (off_map (fm (fun q => P.dis _ q (mca mc1)) (all1 fun q => P.dis _ q (mca mc2)))) (Up.of_keeps (fs := []) kp)
  dsimp only
  k_unmd
  k_fold
  k_steps
  rename Fr _ _ _ _ => kF
  rename News _ _ _ _ => kN
  have k1 := keeps_but hA kp kF (kN.get (by k_mem))
  obtain ⟨b1, -, -, -, -, -, -, -, b9, b10, -, -, -, b14, b15, -, -, -, -, -, -, -, -, -, -, -, -, -, -, -, -, -, -, -, -⟩ := core_off (nd_core S.p.nd)
  have kk : ∀ b o, b ∈ adrs c v → b ≠ c.dR → s.heap.get? b = some o → _ := fun b o _ n e => k1 b o e (not1 n)
  have S1 := S.change (v' := { v with pl := v.pl + 1, j := v.pl, tp := _ }) (as := [c.dR]) (fun b o _ nb e => k1 b o e nb) ⟨S.p.dS, S.p.b0, S.p.b0', S.p.b1, S.p.tr3, S.p.tr4, S.p.c3, S.p.c4, S.p.c5, S.p.nd, S.p.nc, S.p.cd2⟩ rfl rfl rfl (adrs_off S.p (all1 sq2))
    (kk _ _ (by lcg_sub) b1 S.r.gR) (by dsimp only; rw [htb]; exact kN.get (by k_mem)) (kk _ _ (by lcg_sub) (Ne.symm b9) S.r.gS) (kk _ _ (by lcg_sub) (Ne.symm b10) S.o.gB)
    (kk _ _ mcM (Ne.symm (nd_off S.p.nd (.head _) _ (by lcg_sub))) S.o.gM) (kk _ _ (by lcg_sub) (Ne.symm b14) S.r.p3) (kk _ _ (by lcg_sub) (Ne.symm b15) S.r.p4)
  have nH : aH ≠ c.dR := fun z => hH (by rw [z]; simp [adrs, core])
  refine R.go (l := envOf _ _ L 185 _ :: l) (by ktr_room) (by ktr_units) (Pre.push P S1 rfl P.outM P.outC P.dis kF st hlg rfl (by nofun) fun b hb => Nat.ne_of_lt (by obtain ⟨o, e⟩ := S.has hb; exact lt b o e)) ⟨hx, hy, hpl, hj⟩ hs hH (fun b hb => by
    rw [fa_cons (L := L) rfl] at hb
    rcases List.mem_cons.mp hb with z | z
    · rw [z]; exact Nat.ne_of_gt (lt _ _ ha)
    · exact hHl b z) (fun z hz => k1 _ _ (hfx z hz) (not1 (hfd z hz))) (k1 _ _ ha (not1 nH)) fun h' v' n' t tk' Y fit' eH => ?_
  have u2 := Y.up
  rw [fa_cons (L := L) rfl] at u2
  k_steps
  exact h _ v' n' t _ ⟨Y.st, ⟨Y.gr.lo, Y.gr.top, Y.gr.b1⟩, Up.seg (fun b o e nb => k1 b o e (fun q => nb (List.mem_append_right _ (all1 (P := fun b => b ∈ wr c v) (mcw mc2) _ q)))) u2 (fun b o _ _ e => e) lt, fun b hb => Y.dis b (by rw [fa_cons (L := L) rfl]; exact .tail _ hb), Y.outM, Y.outC⟩ fit' eH
end

local macro_rules | `(tactic| walk_at "call ref") => stopAt 185
noncomputable def nmOf : Option Str → Str
  | none => Str.ofString "None"
  | some x => x
section
variable {prog : Program} {w : World} {p : Program} {loose : List Str} {mean : ExcName → Option Value} {mg mb : Str → Option Value} {row : List Tok0} {aRow : Addr} {ts rs : List Addr}
  {dp un : Nat} {l : List Env} {gd : Option (List Code)} {s : Shared} {Q E : Value → Shared → Prop} {h₀ : Heap}
  {aR dR aT aSc aCl aS aM aSS aB dT : Addr} {kt : Nat → Tok} {last : Value} {pl j : Nat} {tp tq : Tok} {nd ba : Bool} {n nM : Nat} {oS oT : Obj}
theorem part_no {nm : Str} {tn : Tok} (C : Cx w p loose mean mg mb row aT aRow ts rs s.heap) (hr : dp + 20 < recursionLimit) (hu : un + 300 < cLine)
    (hi : s.heap.get? aR = some (instObj 188 dR)) (hd : s.heap.get? dR = some (rdDict w kt aT (.ref dT) pl tp last aSc aCl nd ba n)) (hT : s.heap.get? dT = some oT) (hTd : oT.IsDictOf (strKind prog w) []) (hlo : (dT == sysModules) = false)
    (hkz : nm.length ≤ 20) (h0 : h₀.StaysIn s.heap) (hl : s.heap.FunFrames h₀ l) (h : ∀ h' e t3 tk', Thr 52 s.heap (fa l) e (.int (cur row pl).line t3) (some .none) h' → E (.ref e) { s with heap := h', toks := tk' }) :
    wpAny (model prog w) (ar dp un (some l) gd) (call (.ref 185) [.ref aR, .str nm tn]) Q E s := by
  refine wpAny_call ?_
  have B := C.base
  obtain ⟨X, T⟩ := id B
  kc_enter
  intro L h₁ m0 hm0 F N'
  dsimp only
  k_unmd
  k_fold
  k_steps
  rename Fr _ _ _ _ => kF
  rename Thr _ _ _ _ _ _ _ => x
  refine thr_leave (A := ar dp un (some l) gd) rfl kF hl (.inr rfl) h0 x fun h' x => ?_
  exact h _ _ _ _ x
theorem part_refused {f c' cr cs : Addr} {q : Str} {v : Option Str} {t2 : Tok} {o2 o3 : Obj} {pm ctv : Value} (C0 : Cx w p loose mean mg mb row aT aRow ts rs h₀) (hr : dp + 50 < recursionLimit) (hu : un + 600 < cLine) (h0 : h₀.StaysIn s.heap) (hl : s.heap.FunFrames h₀ l)
    (hi : s.heap.get? aR = some (instObj 188 dR)) (hd : s.heap.get? dR = some (rdDict w kt aT (.ref dT) pl tp last aSc aCl nd ba n)) (hT : s.heap.get? dT = some oT) (hTd : oT.IsDictOf (strKind prog w) []) (hlo : (dT == sysModules) = false)
    (hf : s.heap.get? f = some (kla_obj (Str.ofString "<lambda>") q noArgs
      (((Expr.Name (Str.ofString "reader") { line := 209, col := 40, endLine := 209, endCol := 46 }).Attribute (Str.ofString "part") { line := 209, col := 40, endLine := 209, endCol := 51 }).Call
          [(Expr.Name (Str.ofString "str") { line := 209, col := 52, endLine := 209, endCol := 55 }).Call [Expr.Name (Str.ofString "sign") { line := 209, col := 56, endLine := 209, endCol := 60 }] [] { line := 209, col := 52, endLine := 209, endCol := 61 }]
          [] { line := 209, col := 40, endLine := 209, endCol := 62 })
      { kind := ScopeKind.function, names := [(Str.ofString "reader", NameKind.free), (Str.ofString "sign", NameKind.free), (Str.ofString "str", NameKind.globalImplicit)], isGenerator := false, isCoroutine := false }
      [(Str.ofString "sign", cs), (Str.ofString "reader", cr)] pm c' ctv))
    (hc : s.heap.CodeRec (.ref c') q) (g2 : s.heap.get? cr = some o2) (d2 : o2.data = .cell (some (.ref aR))) (g3 : s.heap.get? cs = some o3) (d3 : o3.data = .cell (some (sv v t2)))
    (hv : ∀ x, v = some x → x.length ≤ 20) (h : ∀ h' t tk', Up [] (fa l) s.heap h' → Q (.int (cur row pl).line t) { s with heap := h', toks := tk' }) :
    wpAny (model prog w) (ar dp un (some l) gd) (call (.ref 298) [.ref f]) Q E s := by
  refine refused_at C0.base (by omega) (by omega) h0 hl ⟨_, _, hf, rfl⟩ ?_ h
  intro env h₁ tk Q' E' st hl1 hE
  have st1 : h₀.StaysIn h₁ := fun b o e => st _ _ (h0 b o e)
  have C := C0.keeps st1
  obtain ⟨X, T⟩ := id C.base
  have hi := st _ _ hi
  have hd := st _ _ hd
  have hT := st _ _ hT
  have g2 := st _ _ g2
  have g3 := st _ _ g3
  have hc1 : h₁.CodeRec (.ref c') q := by obtain ⟨c, oc, vs, t, e1, e2, e3, e4⟩ := hc; exact ⟨c, oc, vs, t, e1, st _ _ e2, e3, e4⟩
  refine wpAny_call (enterL T.nolimit (st _ _ hf) hc1 (by ktr_room) (binds := []) rfl (by simp) ?_ rfl rfl rfl (by decide))
  intro L' h₂ F N
  dsimp only
  k_unmd
  k_fold
  have end_ : ∀ {nm : Str} {tn : Tok} {h₃ : Heap} {m : Str → Option Value} {tk3 : Nat} {env2 : Env}, Fr h₁ L' h₃ m → nm.length ≤ 20 → env2.frame = some L' → env2.scope.kind ≠ .module → ∀ (Q3 E3 : Value → Shared → Prop),
      (∀ h' e t3 tk', Thr 52 h₃ (fa (env2 :: env :: l)) e (.int (cur row pl).line t3) (some .none) h' → E3 (.ref e) { s with heap := h', toks := tk' }) →
      wpAny (model prog w) (ar (dp + 1 + 1) (un + 3 + 3) (some (env2 :: env :: l)) gd) (call (.ref 185) [.ref aR, .str nm tn]) Q3 E3 { s with heap := h₃, toks := tk3 } := fun {nm tn h₃ m tk3 env2} kF hn hf2 hk2 Q3 E3 hh =>
    part_no (C.keeps kF.keep) (by omega) (by omega) (kF.keep _ _ hi) (kF.keep _ _ hd) (kF.keep _ _ hT) hTd hlo hn (fun b o q => kF.keep _ _ (st1 b o q)) (frames_pushE kF hl1 st1 hf2 hk2) hh
  cases v with
  | none =>
    k_steps
    rename Fr _ _ _ _ => kF
    refine end_ kF (by decide +kernel) (by rfl) (by nofun) _ _ fun h' e t3 tk' x => ?_
    k_unfold
    refine thr_leaveE (A := ar (dp + 1) (un + 3) (some (env :: l)) gd) (l := env :: l) (env := envX _ _ _ _ _ _) rfl kF hl1 (.inr rfl) st1 (by rfl) (by nofun) x fun h' x => ?_
    exact hE _ _ _ _ x
  | some y =>
    have hy := hv y rfl
    k_steps
    rename Fr _ _ _ _ => kF
    refine end_ kF hy (by rfl) (by nofun) _ _ fun h' e t3 tk' x => ?_
    k_unfold
    refine thr_leaveE (A := ar (dp + 1) (un + 3) (some (env :: l)) gd) (l := env :: l) (env := envX _ _ _ _ _ _) rfl kF hl1 (.inr rfl) st1 (by rfl) (by nofun) x fun h' x => ?_
    exact hE _ _ _ _ x
end

local macro_rules | `(tactic| walk_at "call ref") => row [tFirst [tAt 291, tAt 326, tAt 305, tAt 312, tAt 319, tAt 171, tAt 178, tAt 150, tAt 157, tAt 135], tStop]
noncomputable def cost : Nat → Nat
  | 0 => 26
  | d + 1 => 4 * (cost d + 6) + 2
noncomputable def lapc : Nat → Nat
  | 0 => 6
  | d + 1 => cost d + 6
theorem cost_lap (d : Nat) : cost d = 4 * lapc d + 2 := by cases d <;> rfl
noncomputable def need : Nat → Nat
  | 0 => 100
  | d + 1 => need d + 60
/-- the contract of the deeds -/
noncomputable def DeedsOk (prog : Program) (w : World) (h₀ : Heap) (c : Co) (d : Nat) : Prop :=
  ∀ {dp un : Nat} {l : List Env} {gd : Option (List Code)} {s : Shared} {v : Va} {z : Int} {tz : Tok} {Q E : Value → Shared → Prop}, dp + need d < recursionLimit → un + 10 * need d < cLine → z = d →
    Pre prog w h₀ c v l s.heap → Fit v → Small v d (cost d) →
    (∀ h' v' tk', Post prog w h₀ c v [] (cost d) (fa l) s.heap h' v' → Fit v' → Q (.bool true) { s with heap := h', toks := tk' }) →
    wpAny (model prog w) (ar dp un (some l) gd) (call (.ref 326) [.ref c.aB, .ref c.aR, .ref c.aS, .int z tz]) Q E s
section
variable {prog : Program} {w : World} {p : Program} {loose : List Str} {mean : ExcName → Option Value} {mg mb : Str → Option Value}
/-- entering a def made in a body, that writes upon mu -/
theorem enterX {A : Around} {R : Result → Shared → Prop} {s : Shared} {h₀ : Heap} {mu : List (Addr × Obj)} {name qual : Str} {params : Arguments} {body : List Stmt} {scope : Scope} {cl : List (Str × Addr)} {doc pm ctv : Value} {c' f : Addr} {args : Args} {binds : List (Str × Value)}
    (B : Base w p loose mean mg mb h₀) (N : At h₀ s.heap mu)
    (ho : s.heap.get? f = some (fnMade name qual params body scope cl doc pm c' ctv)) (hcd : s.heap.CodeRec (.ref c') qual) (hroom : A.depth < recursionLimit)
    (hbind : bindArgs (fnX name qual params body scope cl .none .none doc pm none (.ref c') ctv) args = pure binds) (hloc : ∀ y ∈ binds, scope.names.lookup y.1 = some .local)
    (h : ∀ g L' h₁, ∀ m, (∀ y v, binds.reverse.lookup y = some v → m y = some v) → Fr g L' h₁ m → News g L' h₁ mu → (k0.heap_1 w.params).In g → Top p loose mean mg mb g → h₀.StaysIn g → (∀ q ∈ mu, q.1 < L') → KeepsBut (mu.map (·.1)) s.heap g →
      wpAny (model prog w) (A.deeper (envX qual scope L' f (.ref c') cl)) (execs body (envX qual scope L' f (.ref c') cl))
        (fun fl s' => R (.ok (.ret (match fl with | .ret v => v | _ => .none))) s')
        (fun e s' => wpAny (model prog w) (A.deeper (envX qual scope L' f (.ref c') cl)) (leaving (envX qual scope L' f (.ref c') cl) e) (fun _ s'' => R (.error e) s'') (fun e' s'' => R (.error e') s'') s')
        { s with heap := h₁, toks := s.toks + binds.length })
    (hco : scope.isCoroutine = false) (hgen : scope.isGenerator = false) (hk : scope.kind = .function) (hcell : ∀ x ∈ scope.names, x.2 ≠ .cell) : codeAny (model prog w) A (.call (.ref f) args) R s := by
  have nm : ∀ b o, h₀.get? b = some o → b ∉ mu.map (·.1) := fun b o e q => by
    obtain ⟨p, hp, rfl⟩ := List.mem_map.mp q
    rw [(N.2 p hp).2] at e; cases e
  have st : h₀.StaysIn (hideAll s.heap (mu.map (·.1))) := fun b o e => hideAll_get _ (N.1 b o e) (nm b o e)
  have st' : ∀ b o, h₀.get? b = some o → (hideAll s.heap (mu.map (·.1))).get? b = some o := st
  refine codeAny_call_function hroom ho rfl hco hgen rfl hcd ?_
  rw [hbind]
  refine wpAny_pure (wpAny_newFunctionEnv hcell hloc (fun h₁ hns hsb => ⟨((B.T.nolimit.keeps N.1)).fresh _ hsb, codeAny_func ?_⟩) hk)
  have hk₁ : ∀ b o, s.heap.get? b = some o → h₁.get? b = some o := fun b o e => hsb.extBut b o (Nat.ne_of_lt (Heap.lt_size e)) (Heap.get?_push_of_some _ e)
  exact h (hideAll s.heap (mu.map (·.1))) s.heap.objs.size h₁ _ (fun _ _ e => e) ⟨hns, fun b o e => hk₁ b o (of_hideAll _ e), Nat.le_of_eq (hideAll_size _ _)⟩
    (fun q hq => ⟨hk₁ _ _ (N.2 q hq).1, Nat.ne_of_lt (Heap.lt_size (N.2 q hq).1), hideAll_none _ (List.mem_map_of_mem hq)⟩) (Frag.In.keeps B.X st') (Top.keeps B.T st') st
    (fun q hq => Heap.lt_size (N.2 q hq).1) (fun b o e hb => hideAll_get _ e hb)
end
section
variable {prog : Program} {w : World} {p : Program} {loose : List Str} {mean : ExcName → Option Value} {mg mb : Str → Option Value} {c : Co} {v : Va}
  {dp un : Nat} {l : List Env} {gd : Option (List Code)} {s : Shared} {Q E : Value → Shared → Prop} {h₀ : Heap}
/-- the reader and the state agree -/
theorem agrees_st (C : Cx w p loose mean mg mb c.row c.aT c.aRow c.ts c.rs s.heap) (S : StA prog w c v s.heap) (fit : Fit v) (hr : dp + 8 < recursionLimit) (hu : un + 100 < cLine)
    (h : ∀ h' tk', s.heap.StaysIn h' → Q (.bool true) { s with heap := h', toks := tk' }) :
    wpAny (model prog w) (ar dp un (some l) gd) (call (.ref 291) [.ref c.aR, .ref c.aS]) Q E s := by
  have hM := S.o.gM
  have dS := S.p.dS
  rw [← fit.nd, ← fit.ba] at hM
  rw [← fit.pl, ← fit.j] at dS
  exact agrees_at C hr hu S.r.gR S.r.gD S.r.gS dS hM S.r.S S.r.T h
/-- the row of a def's statements in _law_nested -/
noncomputable abbrev inBody : List Stmt := [
  Stmt.Expr ((((Expr.Name (Str.ofString "heard") { line := 203, col := 8, endLine := 203, endCol := 13 }).Attribute (Str.ofString "append") { line := 203, col := 8, endLine := 203, endCol := 20 }).Call
    [Expr.BoolOp BoolOp.And [
      (Expr.Name (Str.ofString "_law_agrees") { line := 203, col := 21, endLine := 203, endCol := 32 }).Call [Expr.Name (Str.ofString "inner") { line := 203, col := 33, endLine := 203, endCol := 38 }, Expr.Name (Str.ofString "state") { line := 203, col := 40, endLine := 203, endCol := 45 }] [] { line := 203, col := 21, endLine := 203, endCol := 46 },
      (Expr.Name (Str.ofString "_law_deeds") { line := 203, col := 51, endLine := 203, endCol := 61 }).Call [Expr.Name (Str.ofString "box") { line := 203, col := 62, endLine := 203, endCol := 65 }, Expr.Name (Str.ofString "inner") { line := 203, col := 67, endLine := 203, endCol := 72 }, Expr.Name (Str.ofString "state") { line := 203, col := 74, endLine := 203, endCol := 79 },
        (Expr.Name (Str.ofString "deep") { line := 203, col := 81, endLine := 203, endCol := 85 }).BinOp Operator.Sub (Expr.Constant (Const.int 1) 0 { line := 203, col := 88, endLine := 203, endCol := 89 }) { line := 203, col := 81, endLine := 203, endCol := 89 }] [] { line := 203, col := 51, endLine := 203, endCol := 90 }]
      { line := 203, col := 21, endLine := 203, endCol := 90 }] [] { line := 203, col := 8, endLine := 203, endCol := 91 })) { line := 203, col := 8, endLine := 203, endCol := 91 },
  Stmt.Return (some (Expr.Constant (Const.str (Str.ofString "told")) 0 { line := 204, col := 15, endLine := 204, endCol := 21 })) { line := 204, col := 8, endLine := 204, endCol := 21 }]
noncomputable abbrev inScope : Scope := { kind := ScopeKind.function, names := [(Str.ofString "inner", NameKind.local), (Str.ofString "box", NameKind.free), (Str.ofString "deep", NameKind.free), (Str.ofString "heard", NameKind.free), (Str.ofString "state", NameKind.free), (Str.ofString "_law_agrees", NameKind.globalImplicit), (Str.ofString "_law_deeds", NameKind.globalImplicit)], isGenerator := false, isCoroutine := false, more := [] }
noncomputable abbrev inArgs : Arguments := { posonlyargs := [], args := [{ arg := Str.ofString "inner", annotation := none, pos := { line := 202, col := 15, endLine := 202, endCol := 20 } }], vararg := none, kwonlyargs := [], kw_defaults := [], kwarg := none, defaults := [] }
set_option maxHeartbeats 600000 in
theorem told_ok {d : Nat} {aH f c' cb cd ch cs : Addr} {ob od oh os oc : Obj} {q : Str} {vs : Array Value} {t td : Tok} {doc pm ctv : Value} {z : Int} (C : Cx w p loose mean mg mb c.row c.aT c.aRow c.ts c.rs h₀) (IH : DeedsOk prog w h₀ c d) (hz : z = (d : Int) + 1)
    (hH0 : h₀.get? aH = none) (db : ob.data = .cell (some (.ref c.aB))) (dd : od.data = .cell (some (.int z td))) (dh : oh.data = .cell (some (.ref aH))) (ds : os.data = .cell (some (.ref c.aS))) (dc : oc.data = .fields vs) (dv : vs[1]? = some (.str q t)) :
    ReadOk prog w h₀ c (need d + 20) d (cost d) aH [(f, fnMade (Str.ofString "within") q inArgs inBody inScope [(Str.ofString "state", cs), (Str.ofString "heard", ch), (Str.ofString "deep", cd), (Str.ofString "box", cb)] doc pm c' ctv), (c', oc), (cb, ob), (cd, od), (ch, oh), (cs, os)] f := by
  refine ⟨?_⟩
  intro dp un l gd s v nH Q E hr hu P fit hs hH hHl hfx ha h
  refine wpAny_call ?_
  have B := C.base
  have S := P.st
  have hA : At h₀ s.heap [(aH, listOf #[] nH)] := ⟨P.h0, fun q hq => by rcases List.mem_singleton.mp hq with rfl; exact ⟨ha, hH0⟩⟩
  have X0 := Frag.In.keeps B.X hA.1
  have ho := hfx _ (.head _)
  have hc := hfx _ (.tail _ (.head _))
  dsimp only at ho hc
  have hcr : s.heap.CodeRec (.ref c') q := ⟨c', oc, vs, t, rfl, hc, dc, dv⟩
  have hb : bindArgs (fnX (Str.ofString "within") q inArgs inBody inScope [(Str.ofString "state", cs), (Str.ofString "heard", ch), (Str.ofString "deep", cd), (Str.ofString "box", cb)] .none .none doc pm none (.ref c') ctv) ⟨[.ref c.aR], []⟩ = pure [(Str.ofString "inner", .ref c.aR)] := by rfl
  refine enterX B hA ho hcr (by ktr_room) hb (locs (by rfl)) ?_ rfl rfl rfl (by decide)
  intro g L h₁ m0 hm0 F N' X T st hlt kp
  have lt := ent_lt hlt kp F
  have nh : ∀ {b : Addr} {o : Obj}, s.heap.get? b = some o → (∀ a n, o.data ≠ .seq a n) → g.get? b = some o := fun {b o} e n => kp _ _ e (by
    simp only [List.map_cons, List.map_nil, List.mem_singleton]
    intro q; rw [q, ha] at e; cases e; exact n _ _ rfl)
  have gb := nh (hfx (cb, ob) (by simp)) (by intro a n; dsimp only; rw [db]; nofun)
  have gd' := nh (hfx (cd, od) (by simp)) (by intro a n; dsimp only; rw [dd]; nofun)
  have gh := nh (hfx (ch, oh) (by simp)) (by intro a n; dsimp only; rw [dh]; nofun)
  have gs := nh (hfx (cs, os) (by simp)) (by intro a n; dsimp only; rw [ds]; nofun)
  dsimp only at gb gd' gh gs
  have hlg : g.FunFrames h₀ l := frames_upAs P.hl (fun b hb q => hHl b hb (by simpa using q)) (Up.of_keeps (fs := []) kp)
  dsimp only [inBody, inScope, inArgs]
  k_unmd
  k_fold
  clear hb hcr ho hc hfx
  k_steps
  rename Fr _ _ _ _ => kF
  rename News _ _ _ _ => kN
  have nH : ∀ b, b ∈ adrs c v ∨ b ∈ v.cod.map (·.1) → b ∉ [aH] := fun b hb q => by
    rcases List.mem_singleton.mp q with rfl
    rcases hb with hb | hb
    · exact hH hb
    · obtain ⟨z, hz, e⟩ := List.mem_map.mp hb
      obtain ⟨us, e2⟩ := S.p.cd z hz
      have e3 := S.o.gC z hz
      rw [e, ha] at e3
      rw [← Option.some.inj e3] at e2; cases e2
  have SA : ∀ {h₂ : Heap} {m : Str → Option Value}, Fr g L h₂ m → StA prog w c v h₂ := fun F2 => S.move fun b o hb e => F2.keep _ _ (kp b o e (nH b hb))
  refine agrees_st (C.keeps fun b o e => kF.keep _ _ (st b o e)) (SA kF) fit (by ktr_room) (by ktr_units) fun h' tk' kS => ?_
  have F2 := Fr.keeps kF kS
  have N2 := News.grown kN kS
  clear kF kN kS
  k_steps
  rename Fr _ _ _ _ => kF
  rename News _ _ _ _ => kN
  have P1 : ∀ {env : Env}, env.frame = some L → env.scope.kind ≠ .module → Pre prog w h₀ c v (env :: l) _ := fun hf hk => Pre.push P (SA kF) rfl P.outM P.outC P.dis kF st hlg hf hk fun b hb => Nat.ne_of_lt (by obtain ⟨o, e⟩ := S.has hb; exact lt b o e)
  refine IH (l := envX _ _ L f _ _ :: l) (by ktr_room) (by ktr_units) (by omega) (P1 rfl (by nofun)) fit hs fun h' v' tk' Y fit' => ?_
  have P2 := Post.pre (P1 rfl (by nofun)) Y (List.forall_mem_nil _)
  have nHw : aH ∉ wr c v := fun q => hH (wr_adrs q)
  have nHf : ∀ {env : Env}, env.frame = some L → aH ∉ fa (env :: l) := fun hf q => by
    rw [fa_cons hf] at q
    rcases List.mem_cons.mp q with q | q
    · exact absurd (lt _ _ ha) (by rw [q]; exact Nat.lt_irrefl _)
    · exact hHl _ q rfl
  have e2 := Y.up.keep (kN.get (by k_mem)) nHw (nHf rfl)
  obtain ⟨g2, F2, N2, st2, hl2, low⟩ := after (l := l) (h := s.heap) [(aH, _)] kF (P1 rfl (by nofun)) Y rfl (List.forall_mem_nil _) lt P.h0 P.hl (all1 ⟨e2, hH0, nHf rfl⟩)
  dsimp only [List.cons_append, List.nil_append] at N2
  have q1 : v'.aM ≠ aH := get_ne Y.st.o.gM e2 (fun q => by have q1 := congrArg Obj.data q; simp at q1)
  have q0 : ∀ z ∈ v'.cod, z.1 ≠ aH := fun z hz q => by
    obtain ⟨us, e3⟩ := Y.st.p.cd z hz
    have e4 := Y.st.o.gC z hz
    rw [q, e2] at e4
    rw [← Option.some.inj e4] at e3; cases e3
  have q2 : ∀ z ∈ codF h₀ v'.cod, z.1 ≠ aH := fun z hz => q0 z (codF_mem.mp hz).1
  have C2 := C.keeps st2
  obtain ⟨X2, T2⟩ := id C2.base
  have u2 := Y.up
  rw [fa_cons (L := L) rfl] at u2
  have u1 : ∀ b o, s.heap.get? b = some o → b ∉ [aH] ++ wr c v → _ := fun b o e nb => kF.keep _ _ (kp b o e (by simp at nb ⊢; exact nb.1))
  clear kF kN X T
  k_steps
  rename Fr _ _ _ _ => kF
  rename News _ _ _ _ => kN
  have k3 := seg_end (wsE := [aH]) st2 Y.st P2.h0 low kF kN (fun q hq => by rcases List.mem_singleton.mp hq with rfl; exact .inl (.head _)) (by k_mem) (fun z hz => by repeat (first | exact hz | apply List.Mem.tail)) (fun b hb => by
    rw [Y.gr.scAd] at hb
    obtain ⟨o, e⟩ := S.has (b := b) (by simp only [adrs, List.mem_append, List.mem_cons] at hb ⊢; rcases hb with hb | hb <;> simp [hb])
    exact lt b o e)
  have SE := Y.st.move fun b o hb e => k3 b o (.inr hb) (fun q => by
    rcases List.mem_singleton.mp q with rfl
    rcases hb with hb | hb
    · simp only [adrs, List.mem_append, List.mem_cons, Y.gr.scAd] at hb
      rcases hb with hb | hb | hb
      · exact hH (by simp [adrs, hb])
      · exact q1 hb.symm
      · exact hH (by simp [adrs, hb])
    · obtain ⟨z, hz, e⟩ := List.mem_map.mp hb; exact q0 z hz e) e
  exact h _ v' _ _ _ ⟨SE, Y.gr, Up.seg u1 (u2.mono (fun b hb => List.mem_append_right _ (by simpa using hb)) fun _ q => q) (fun b o hb nb e => k3 b o (.inl hb) (fun q => nb (List.mem_append_left _ q)) e) lt, fun b hb => Y.dis b (by rw [fa_cons (L := L) rfl]; exact .tail _ hb), Y.outM, Y.outC⟩ fit' (kN.get (by k_mem))
end

theorem updF_mid {P : Addr} {o : Obj} {cod : List (Addr × Obj)} (h2 : ∀ q ∈ cod, q.1 ≠ P) : ∀ {pre : List (Addr × Obj)}, (∀ q ∈ pre, q.1 ≠ P) → UpdF P o (pre ++ (P, o) :: cod) (fun o' => pre ++ (P, o') :: cod)
  | [], _ => .head h2
  | q :: r, h => .tail (h q (.head _)) (updF_mid h2 fun z hz => h z (.tail _ hz))
theorem codIn.grow {cod cod' : List (Addr × Obj)} {ps : Array Value} {p pos : Pos} {q : Str} {c : Value} (x : codIn cod ps p q) (ht : TriplesOk ps.toList) (k : ∀ z ∈ cod, z ∈ cod') (ne : ¬ (pos.line = p.line ∧ pos.col = p.col)) :
    codIn cod' (ps ++ #[rawInt pos.line, rawInt pos.col, c]) p q := by
  rcases x with x | ⟨a, oc, vs, t, e1, e2, e3, e4⟩
  · exact .inl (by rw [Array.toList_append]; exact among_other ht x ne)
  · exact .inr ⟨a, oc, vs, t, by rw [Array.toList_append]; exact among_snoc ht e1, k _ e2, e3, e4⟩
/-- what a def or a lambda made in a body brings to the records -/
structure MadeRec (P : Addr) (ps ps' : Array Value) (pre cod cod' : List (Addr × Obj)) (pos : Pos) (q : Str) (c' : Addr) (oc : Obj) : Prop where
  sub : ∀ z ∈ cod, z ∈ cod'
  mem : (c', oc) ∈ cod'
  data : ∃ vs t, oc.data = .fields vs ∧ vs[1]? = some (.str q t)
  tr : TriplesOk ps'.toList
  here : codIn cod' ps' pos q
  else_ : ∀ p y, codIn cod ps p y → ¬ (pos.line = p.line ∧ pos.col = p.col) → codIn cod' ps' p y
  new : cod' = cod ∨ (cod' = (c', oc) :: cod ∧ ∀ z ∈ pre ++ (P, tabObj ps) :: cod, z.1 < c')
section
variable {M : Model} {A : Around} {E : Value → Shared → Prop} {s : Shared} {h₀ : Heap} {L a c P : Addr} {m mg mb : Str → Option Value} {cn : Str} {cs : Scope} {ccd : Value} {cl : List (Str × Addr)} {pre cod : List (Addr × Obj)}
  {p : Program} {loose : List Str} {mean : ExcName → Option Value} {name qual q' : Str} {params : Arguments} {scope : Scope} {ps : Array Value} {pos : Pos} {firstLine : Nat} {clos : List (Str × Addr)}
theorem news_perm {h : Heap} {l l' : List (Addr × Obj)} (N : News h₀ L h l) (k : ∀ z ∈ l', z ∈ l) : News h₀ L h l' := fun z hz => N z (k z hz)
theorem mk_def {body : List Stmt} {Q : Value → Shared → Prop} (pre cod : List (Addr × Obj)) (F : Fr h₀ L s.heap m) (N : News h₀ L s.heap (pre ++ (P, tabObj ps) :: cod)) (T : Top p loose mean mg mb h₀) (C : CodeHd h₀ c P) (hcd : ccd = .ref c) (hpre : ∀ q ∈ pre, q.1 ≠ P) (hcod : ∀ q ∈ cod, q.1 ≠ P) (ht : TriplesOk ps.toList)
    (hp : codIn cod ps pos q') (hq : qual = q') (hcl : closureFor scope (envX cn cs L a ccd cl) = pure clos)
    (h : ∀ f c' oc ctv doc ps' cod' h' tk, Fr h₀ L h' m → News h₀ L h' ((f, fnMade name qual params body scope clos doc ((mg "__name__").getD .none) c' ctv) :: (pre ++ (P, tabObj ps') :: cod')) → MadeRec P ps ps' pre cod cod' pos q' c' oc → qual = q' → (∀ q ∈ pre ++ (P, tabObj ps) :: cod, q.1 < f) → Q (.ref f) { s with heap := h', toks := tk }) :
    wpAny M A (makeFunction name qual params (.stmts body) scope (envX cn cs L a ccd cl) [] [] [] pos firstLine) Q E s := by
  subst hq
  rcases hp with hn | ⟨c', oc, vs, t, hf, hm, hd, hv⟩
  · refine nest_K F N T C hcd (updF_mid hcod hpre) ht hn hcl fun f c' oc vs t ctv doc h' tk F' N' d v l1 l2 => ?_
    refine h f c' oc ctv doc _ ((c', oc) :: cod) h' tk F' (news_perm N' fun z hz => ?_) ⟨fun z hz => .tail _ hz, .head _, ⟨vs, t, d, v⟩, by rw [Array.toList_append]; exact triples_snoc (c := .ref c') ht, .inr ⟨c', oc, vs, t, by rw [Array.toList_append]; exact codeAmong_snoc _ ht hn, .head _, d, v⟩,
      fun p y x ne => x.grow ht (fun z hz => .tail _ hz) ne, .inr ⟨rfl, l1⟩⟩ rfl (fun q hq => Nat.lt_trans (l1 q hq) l2)
    simp only [List.mem_cons, List.mem_append] at hz ⊢
    rcases hz with hz | hz | hz | hz | hz <;> simp [hz]
  · refine nestHit_K F N T C hcd (List.mem_append_right _ (.head _)) ht hf hcl fun f ctv doc h' tk F' N' l1 => ?_
    exact h f c' oc ctv doc ps cod h' tk F' N' ⟨fun z hz => hz, hm, ⟨vs, t, hd, hv⟩, ht, .inr ⟨c', oc, vs, t, hf, hm, hd, hv⟩, fun p y x _ => x, .inl rfl⟩ rfl l1
theorem mk_lamc {body : Expr} {Q : Value → Shared → Prop} (pre cod : List (Addr × Obj)) (F : Fr h₀ L s.heap m) (N : News h₀ L s.heap (pre ++ (P, tabObj ps) :: cod)) (T : Top p loose mean mg mb h₀) (C : CodeHd h₀ c P) (hcd : ccd = .ref c) (hpre : ∀ q ∈ pre, q.1 ≠ P) (hcod : ∀ q ∈ cod, q.1 ≠ P) (ht : TriplesOk ps.toList)
    (hp : codIn cod ps pos q') (hq : qual = q') (hcl : closureFor scope (envX cn cs L a ccd cl) = pure clos)
    (h : ∀ f c' oc ctv ps' cod' h' tk, Fr h₀ L h' m → News h₀ L h' ((f, kla_obj name qual params body scope clos ((mg "__name__").getD .none) c' ctv) :: (pre ++ (P, tabObj ps') :: cod')) → MadeRec P ps ps' pre cod cod' pos q' c' oc → qual = q' → (∀ q ∈ pre ++ (P, tabObj ps) :: cod, q.1 < f) → Q (.ref f) { s with heap := h', toks := tk }) :
    wpAny M A (makeFunction name qual params (.expr body) scope (envX cn cs L a ccd cl) [] [] [] pos firstLine) Q E s := by
  subst hq
  rcases hp with hn | ⟨c', oc, vs, t, hf, hm, hd, hv⟩
  · refine kla_nest F N T C hcd (updF_mid hcod hpre) ht hn hcl fun f c' oc vs t ctv h' tk F' N' d v l1 l2 => ?_
    refine h f c' oc ctv _ ((c', oc) :: cod) h' tk F' (news_perm N' fun z hz => ?_) ⟨fun z hz => .tail _ hz, .head _, ⟨vs, t, d, v⟩, by rw [Array.toList_append]; exact triples_snoc (c := .ref c') ht, .inr ⟨c', oc, vs, t, by rw [Array.toList_append]; exact codeAmong_snoc _ ht hn, .head _, d, v⟩,
      fun p y x ne => x.grow ht (fun z hz => .tail _ hz) ne, .inr ⟨rfl, l1⟩⟩ rfl (fun q hq => Nat.lt_trans (l1 q hq) l2)
    simp only [List.mem_cons, List.mem_append] at hz ⊢
    rcases hz with hz | hz | hz | hz | hz <;> simp [hz]
  · refine kla_hit F N T C hcd (List.mem_append_right _ (.head _)) ht hf hcl fun f ctv h' tk F' N' l1 => ?_
    exact h f c' oc ctv ps cod h' tk F' N' ⟨fun z hz => hz, hm, ⟨vs, t, hd, hv⟩, ht, .inr ⟨c', oc, vs, t, hf, hm, hd, hv⟩, fun p y x _ => x, .inl rfl⟩ rfl l1
end
theorem MadeRec.off {P c' a : Addr} {ps ps' : Array Value} {pre cod cod' : List (Addr × Obj)} {pos : Pos} {q : Str} {oc o : Obj} (x : MadeRec P ps ps' pre cod cod' pos q c' oc) (m : (a, o) ∈ pre ++ (P, tabObj ps) :: cod) (n : ∀ z ∈ cod, z.1 ≠ a) : ∀ z ∈ cod', z.1 ≠ a := fun z hz => by
  rcases x.new with e | ⟨e, l⟩
  · rw [e] at hz; exact n z hz
  · rw [e] at hz
    rcases List.mem_cons.mp hz with rfl | hz
    · exact Nat.ne_of_gt (l _ m)
    · exact n z hz
theorem code318 {w : World} {h : Heap} (X : (k0.heap_1 w.params).In h) : CodeHd h 318 314 :=
  ⟨_, _, _, _, _, _, _, _, _, X _ _ (by k_is), rfl, rfl, rfl, rfl, rfl, rfl, rfl, rfl, by decide⟩
theorem allLt_ne {d : Addr} {l : List (Addr × Obj)} (x : AllLt d l) : ∀ q ∈ l, q.1 ≠ d := by
  induction l with
  | nil => intro q hq; cases hq
  | cons p r ih =>
    intro q hq
    rcases List.mem_cons.mp hq with rfl | hq
    · exact Nat.ne_of_lt x.1
    · exact ih x.2 q hq
theorem below_all {l news : List (Addr × Obj)} {d : Addr} (h : ∀ p ∈ news, p.1 < d) (k : ∀ q ∈ l, q ∈ news) : ∀ q ∈ l, q.1 ≠ d := fun q hq => Nat.ne_of_lt (h q (k q hq))
local macro_rules | `(tactic| k_all) => tFirst [tWA, tSeq [tRf (ap `below_all [bW, `((fun q hq => ?_))]), `(tactic| repeat (first | exact hq | apply List.Mem.tail)), `(tactic| done)]]
local macro_rules | `(tactic| walk_at "exec FunctionDef") => row [tRef `nestDef_K [bR, bR, bR, bH], tStop]
section
variable {prog : Program} {w : World} {A : Around} {E : Value → Shared → Prop} {s : Shared} {a b : Addr} {x : Bool} {Q : Value → Shared → Prop}
theorem bl_eq1 (ra : s.heap.IsList a #[.bool x]) (rb : s.heap.IsList b #[.bool x]) (hu : A.units + 64 < cLine) (h : Q (.bool true) s) :
    wpAny (model prog w) A (compareOp .Eq (.ref a) (.ref b)) Q E s := bl_eq (l := [x]) ra rb hu h
end
local macro_rules | `(tactic| walk_at "compareOp Eq ref ref") => row [tTo `bl_eq1 [bLn, bLn, bU, bH]]
section
variable {prog : Program} {w : World} {c : Co} {v : Va} {h h' : Heap}
/-- the state behind a change of some objects, new marks and new records -/
theorem StA.change2 {v' : Va} {as : List Addr} (x : StA prog w c v h) (k : ∀ b o, b ∈ adrs c v → b ∉ as → h.get? b = some o → h'.get? b = some o) (p : StPure prog w c v') (hlo : v'.lo = v.lo) (htop : v'.top = v.top)
    (has : ∀ a ∈ as, a ∈ [c.aR, c.dR, c.aS, c.aB, 300, 314]) (eC : ∀ z ∈ v'.cod, h'.get? z.1 = some z.2)
    (eR : h'.get? c.aR = some (instObj 188 c.dR)) (eD : h'.get? c.dR = some (rdDict w c.kt c.aT v'.tb v'.pl v'.tp (.ref (adr c.ts v'.j)) c.aSc c.aCl v'.nd v'.ba c.n)) (eS : h'.get? c.aS = some v'.oS)
    (eB : h'.get? c.aB = some (boxObj v'.b0 v'.b1 v'.b2 v'.t0 v'.t1 v'.t2 v'.nB)) (eM : h'.get? v'.aM = some (listOf #[.bool v'.md, .bool v'.mb] v'.nM)) (e3 : h'.get? 300 = some (tabObj v'.ps3)) (e4 : h'.get? 314 = some (tabObj v'.ps4)) : StA prog w c v' h' := by
  have off := adrs_off x.p has
  have hsc : v'.sc = v.sc := by simp only [Va.sc, hlo, htop]
  have ks : ∀ q ∈ v.sc, ScAt h q → ScAt h' q := fun q hq y => y.move fun b o hb e => k b o (by simp [adrs, scAd_mem hq hb]) (off b (by simp [scAd_mem hq hb])) e
  refine ⟨⟨eR, eD, eS, ⟨?_, ?_, ?_, ?_, ?_⟩, ⟨?_, ?_, ?_⟩, e3, e4⟩, ⟨eB, eM, eC⟩, p⟩ <;> (try rw [hsc])
  · exact lo_move x.r.S.l0 fun o e => k _ o (by lcg_sub) (off _ (by simp)) e
  · exact lo_move x.r.S.c0 fun o e => k _ o (by lcg_sub) (off _ (by simp)) e
  · exact fun q hq => ks q hq (x.r.S.all q hq)
  · exact x.r.S.few
  · exact x.r.S.bot
  · exact lo_move x.r.T.l0 fun o e => k _ o (by lcg_sub) (off _ (by simp)) e
  · exact fun q hq => ks q hq (x.r.T.all q hq)
  · exact x.r.T.few
end
section
variable {prog : Program} {w : World} {A : Around} {E : Value → Shared → Prop} {s : Shared} {a : Addr} {x y z : Value} {way : Int} {u : Tok} {Q : Value → Shared → Prop} {value slice : Expr}
theorem item3 (hl : s.heap.IsList a [x, y, z].toArray) (hw : way = 9 ∨ way = 10 ∨ way = 11) (h1 : way = 9 → Q x s) (h2 : way = 10 → Q y s) (h3 : way = 11 → Q z s)
    (hs : subscripted slice false (.ref a) (.int (way - 9) u) = operate [.ref a, .int (way - 9) u] (getItem (.ref a) (.int (way - 9) u)) := by with_unfolding_all rfl) :
    wpAny (model prog w) A (subscriptTail value slice (.ref a) (.int (way - 9) u)) Q E s := by
  rcases hw with rfl | rfl | rfl
  · exact item_at (k := 9 - 9) hl (by decide) (by decide) rfl (h1 rfl) hs
  · exact item_at (k := 10 - 9) hl (by decide) (by decide) rfl (h2 rfl) hs
  · exact item_at (k := 11 - 9) hl (by decide) (by decide) rfl (h3 rfl) hs
end
local macro_rules | `(tactic| walk_at "subscriptTail") => row [tSh (ap `subscriptTail [b_, b_, (ap `Value.ref [b_]), (ap `Value.int [`((_ - 9)), b_])]), tRef `item3 [bLn, bW, bH, bH, bH], `(tactic| all_goals (intro e₉; subst e₉))]
theorem nd_swap {c : Co} {v : Va} {M : Addr} (nd : (adrs c v).Nodup) (h : M ∉ core c ++ scAd v.sc) : (core c ++ M :: scAd v.sc).Nodup := by
  unfold adrs at nd
  rw [List.nodup_append] at nd ⊢
  obtain ⟨n1, n2, n3⟩ := nd
  rw [List.nodup_cons] at n2 ⊢
  rw [List.mem_append, not_or] at h
  refine ⟨n1, ⟨h.2, n2.2⟩, fun a ha b hb => ?_⟩
  rcases List.mem_cons.mp hb with rfl | hb
  · intro q; exact h.1 (q ▸ ha)
  · exact n3 a ha b (.tail _ hb)
theorem Up.seg2 {h h₁ h' hE : Heap} {ws ws2 fs : List Addr} {L : Addr} (u1 : ∀ b o, h.get? b = some o → b ∉ ws → h₁.get? b = some o) (u2 : Up ws2 (L :: fs) h₁ h') (hw : ∀ b o, h.get? b = some o → b ∉ ws → b ∉ ws2) (u3 : ∀ b o, b < L → b ∉ ws → h'.get? b = some o → hE.get? b = some o)
    (lt : ∀ b o, h.get? b = some o → b < L) : Up ws fs h hE := fun b o e nb => by
  obtain ⟨sl, e1, k1⟩ := u2 b o (u1 b o e nb) (hw b o e nb)
  refine ⟨sl, u3 b _ (lt b o e) nb e1, fun q => k1 fun z => ?_⟩
  rcases List.mem_cons.mp z with z | z
  · exact absurd (lt b o e) (by rw [z]; exact Nat.lt_irrefl _)
  · exact q z
section
variable {prog : Program} {w : World} {A : Around} {E : Value → Shared → Prop} {s : Shared} {h₀ : Heap} {L a : Addr} {m : Str → Option Value} {news : List (Addr × Obj)}
theorem st_setM {o : Obj} {t : Tok} {aRow aM aSS b : Addr} {p : Int} {tp : Tok} {last : Value} {g : Obj → List (Addr × Obj)} {Q : Unit → Shared → Prop} (hd : o.IsDictOf (strKind prog w) (stKvs aRow p tp last aM aSS)) (F : Fr h₀ L s.heap m) (N : News h₀ L s.heap news) (U : UpdF a o news g)
    (h : ∀ h' o', Fr h₀ L h' m → News h₀ L h' (g o') → o'.IsDictOf (strKind prog w) (stKvs aRow p tp last b aSS) → Q () { s with heap := h', toks := s.toks + 1 }) :
    wpAny (model prog w) A (setItem (.ref a) (.str (Str.ofString "marks") t) (.ref b)) Q E s := st_set F N U hd st_put_marks (by show 5 ≤ 1000; decide) h
end
local macro_rules | `(tactic| walk_at "setItem ref str") => row [tSh (ap `setItem [(ap `Value.ref [b_]), (ap `Value.str [(ap `Str.ofString [`("marks")]), b_]), (ap `Value.ref [b_])]), tTo `st_setM [bW, bK, bK, bF, bH], tIntro [`h₉, `o₉, `F₉, `N₉, `hd₉], tAtN, tSweep]

inductive Three (cells : List (Addr × Obj)) (c₁ c₂ c₃ : Addr) (x₁ x₂ x₃ : Option Value) : Prop
  | mk (o₁ o₂ o₃ : Obj) (e : cells = [(c₁, o₁), (c₂, o₂), (c₃, o₃)]) (d1 : o₁.data = .cell x₁) (d2 : o₂.data = .cell x₂) (d3 : o₃.data = .cell x₃)
theorem three_of {cm : Str → Option Value} {n₁ n₂ n₃ : Str} {c₁ c₂ c₃ : Addr} {cells : List (Addr × Obj)} (x : CellsAre cm [(n₁, c₁), (n₂, c₂), (n₃, c₃)] cells) : Three cells c₁ c₂ c₃ (cm n₁) (cm n₂) (cm n₃) := by
  obtain ⟨o1, o2, o3, e, d1, d2, d3⟩ := x.three
  exact ⟨o1, o2, o3, e, d1, d2, d3⟩
section
variable {prog : Program} {w : World} {p : Program} {loose : List Str} {mean : ExcName → Option Value} {mg mb : Str → Option Value} {row : List Tok0} {aRow : Addr} {ts rs : List Addr}
  {dp un : Nat} {l : List Env} {gd : Option (List Code)} {s : Shared} {Q E : Value → Shared → Prop} {h₀ : Heap}
  {aR dR aT aSc aCl aS aM aSS aB : Addr} {kt : Nat → Tok} {tb last : Value} {pl j : Nat} {tp tq : Tok} {nd ba : Bool} {n nM : Nat} {oS : Obj} {sc : List Sc}
theorem looking_at {way : Int} {tw : Tok} {ps : Array Value} {b0 b1 b2 : Int} {t0 t1 t2 : Tok} {nB : Nat} (C : Cx w p loose mean mg mb row aT aRow ts rs h₀)
    (hA : At h₀ s.heap [(aR, instObj 188 dR), (dR, rdDict w kt aT tb pl tp (.ref (adr ts j)) aSc aCl nd ba n), (aS, oS), (aB, boxObj b0 b1 b2 t0 t1 t2 nB), (300, tabObj ps)])
    (hd : oS.IsDictOf (strKind prog w) (stKvs aRow pl tq (.ref (adr rs j)) aM aSS))
    (hnd : [aR, dR, aS, aB, 300].Nodup) (hr : dp + 60 < recursionLimit) (hu : un + 700 < cLine) (h0 : h₀.StaysIn s.heap) (hl : s.heap.FunFrames h₀ l) (hdis : ∀ b ∈ fa l, b ∉ [aR, dR, aS, aB, 300])
    (hb0 : 0 ≤ b0) (hb0' : b0 < 10 ^ 90) (hb1 : 0 ≤ b1) (hb1' : b1 < 10 ^ 16) (hTr : TriplesOk ps.toList) (hPs : PosOk s.heap ps lamPos lamQ) (hPo : ∀ c, codeAmong lamPos ps.toList = some (.ref c) → h₀.get? c = none)
    (h : ∀ b h' tk', b = true → LkPost prog w h₀ kt aT tb ts rs aRow aR dR aS aB aSc aCl aM aSS nd ba n b1 b2 (fa l) s.heap h' → Q (.bool b) { s with heap := h', toks := tk' }) :
    wpAny (model prog w) (ar dp un (some l) gd) (call (.ref 305) [.ref aB, .ref aR, .ref aS, .int way tw]) Q E s := by
  refine wpAny_call ?_
  refine hide fun PP hPP => ?_
  have B := C.base
  have X0 := Frag.In.keeps B.X hA.1
  simp only [List.nodup_cons, List.mem_cons, List.not_mem_nil, not_or, or_false, not_false_eq_true, List.nodup_nil, and_true] at hnd
  obtain ⟨⟨q1, q2, q3, q4⟩, ⟨q5, q6, q7⟩, ⟨q8, q9⟩, q10⟩ := hnd
  refine hPP ?_
  clear hPP PP
  kn_enter
  intro g L h₁ tk cells m0 hm0 F N' Y X T st hlt kp
  refine hide fun PP hPP => ?_
  obtain ⟨o1, o2, o3, rfl, d1, d2, d3⟩ := three_of Y
  clear Y
  dsimp only [List.cons_append, List.nil_append] at N'
  have hS8 := sorts_at X
  have C' := C.keeps st
  have CH := code304 X
  have kU : Up [aR, dR, aS, aB, 300] (fa l) s.heap g := Up.of_keeps kp
  have hPg : PosOk g ps lamPos lamQ := by
    rcases hPs with z | ⟨c, z, y⟩
    · exact .inl z
    · refine .inr ⟨c, z, y.up kU ?_⟩
      have y1 := y.ne (hA.2 _ (.head _)).1 (by intro vs e; cases e)
      have y2 := y.ne (hA.2 _ (.tail _ (.head _))).1 (by intro vs e; cases e)
      have y3 := y.ne (hA.2 _ (.tail _ (.tail _ (.head _)))).1 (by intro vs e; obtain ⟨es, ep, _, q, _⟩ := hd; rw [q] at e; cases e)
      have y4 := y.ne (hA.2 _ (.tail _ (.tail _ (.tail _ (.head _))))).1 (by intro vs e; cases e)
      have y5 := y.ne (hA.2 _ (.tail _ (.tail _ (.tail _ (.tail _ (.head _)))))).1 (fun vs e x t q => noRec hTr rfl e q)
      simp only [List.mem_cons, List.not_mem_nil, or_false, not_or]
      exact ⟨y1, y2, y3, y4, y5⟩
  clear hPs
  have lt1 := ltN (hlt _ (.head _))
  have lt2 := ltN (hlt _ (.tail _ (.head _)))
  have lt3 := ltN (hlt _ (.tail _ (.tail _ (.head _))))
  have lt4 := ltN (hlt _ (.tail _ (.tail _ (.tail _ (.head _)))))
  have lt5 := ltN (hlt _ (.tail _ (.tail _ (.tail _ (.tail _ (.head _))))))
  dsimp only at lt1 lt2 lt3 lt4 lt5
  have ly1 : ∀ {a : Nat}, a < L → a < L + 1 ∧ a < L + 1 + 1 ∧ a < L + 1 + 1 + 1 := fun h => by omega
  obtain ⟨ca1, ca2, ca3⟩ := ly1 lt1
  obtain ⟨cb1, cb2, cb3⟩ := ly1 lt2
  obtain ⟨cc1, cc2, cc3⟩ := ly1 lt3
  obtain ⟨cd1, cd2, cd3⟩ := ly1 lt4
  obtain ⟨ce1, ce2, ce3⟩ := ly1 lt5
  clear ly1 hlt
  obtain ⟨r1, r2, r3, hr1⟩ := C'.rowAt pl
  refine hPP ?_
  clear hPP PP
  dsimp only
  k_unmd
  k_fold
  k_steps
  all_goals try first
    | ((rename Fr _ _ _ _ => kF); (rename News _ _ _ _ => kN); (exact h true _ _ rfl (lk_mk hA kU (hPg.keeps kF.keep) hTr hPo kF kN (by k_mem) (by k_mem) (by k_mem) (by k_mem) (by k_mem) (by assumption) (by with_reducible assumption) (by with_reducible assumption) (by with_reducible assumption) (by omega))))
    | ((rename Fr _ _ _ _ => kF); (rename News _ _ _ _ => kN); (refine h _ _ _ ?_ (lk_mk hA kU (hPg.keeps kF.keep) hTr hPo kF kN (by k_mem) (by k_mem) (by k_mem) (by k_mem) (by k_mem) (by assumption) (by with_reducible assumption) (by with_reducible assumption) (by with_reducible assumption) (by omega))); (first
        | ((rename _ = isTok _ _ _ => z1); subst z1; (rename _ = isTok _ _ _ => z2); subst z2; exact beq_self_eq_true _)
        | ((rename _ = (_ && signIn _ _) => z1); subst z1; (rename (Tok0.kind _ == _) = _ => z2); rw [z2]; first | exact beq_self_eq_true _ | (simp only [Bool.true_and, Bool.false_and]; exact beq_self_eq_true _))))
    | (exfalso; (rename isTok _ _ _ = true => z1); (rename _ = isTok _ _ _ => z2); (rename (_ : Bool) = false => z3); rw [z3, z1] at z2; cases z2)
    | (exfalso; (rename isTok _ _ _ = false => z1); (rename _ = isTok _ _ _ => z2); (rename (_ : Bool) = true => z3); rw [z3, z1] at z2; cases z2)
  · rename Fr _ _ _ _ => kF
    rename News _ _ _ _ => kN
    have hlg : g.FunFrames h₀ l := frames_upAs hl hdis kU
    have hz := Eq.trans (Eq.symm (by assumption : _ = isTok (cur row pl) _ _)) (by assumption : _ = false)
    refine kla_eval rfl ?_
    rcases hPg with hn | ⟨c', hf, hc⟩
    · refine kla_nest kF kN T CH rfl (by k_updF) hTr hn rfl fun f c' oc vs t ctv hh tk1 F1 N1 dd vv l1 l2 => ?_
      dsimp only at N1
      clear kF kN l1 l2
      k_steps
      rename Fr _ _ _ _ => kF
      rename News _ _ _ _ => kN
      refine expect_refused C (by ktr_room) (by ktr_units) (fun b o e => kF.keep _ _ (st b o e)) (frames_pushE kF hlg st (by rfl) (by nofun)) (kN.get (by k_mem)) (kN.get (by k_mem)) (kN.get (by k_mem)) ⟨_, oc, vs, t, rfl, kN.get (by k_mem), dd, vv⟩
        (kN.get (by k_mem)) (by assumption) (kN.get (by k_mem)) d3 (kN.get (by k_mem)) (by assumption) hz (by assumption) fun h3 t3 tk3 u3 => ?_
      obtain ⟨g2, F2, N2, st2, hl2, up2⟩ := rebaseN kF kN st hlg u3
      have C2 := C.keeps st2
      obtain ⟨X2, T2⟩ := id C2.base
      obtain ⟨r4, r5, r6, hr2⟩ := C2.rowAt pl
      have kU2 := kU.trans (up2.mono (by simp) fun _ q => q)
      have hc2 : codeAmong lamPos (ps ++ #[rawInt lamPos.line, rawInt lamPos.col, .ref c']).toList = some (.ref c') := by rw [Array.toList_append]; exact codeAmong_snoc _ hTr hn
      have ht2 : TriplesOk (ps ++ #[rawInt lamPos.line, rawInt lamPos.col, .ref c']).toList := by rw [Array.toList_append]; exact triples_snoc hTr
      clear kF kN X T C' CH hS8 hr1
      k_steps
      rename Fr _ _ _ _ => kF
      rename News _ _ _ _ => kN
      refine h _ _ _ (by simp) (lk_mk hA kU2 (.inr ⟨c', hc2, oc, vs, t, kN.get (by k_mem), dd, vv.trans (congrArg (fun q => some (Value.str q t)) (lamQ_is rfl))⟩) ht2 (fun z e => by
        rw [hc2] at e; cases e
        cases q : h₀.get? c' with
        | none => rfl
        | some o => have q9 := st2 _ _ q; rw [(kN _ (by k_mem : (c', oc) ∈ _)).2.2] at q9; cases q9) kF kN (by k_mem) (by k_mem) (by k_mem) (by k_mem) (by k_mem) hd (by with_reducible assumption) (by with_reducible assumption) (by with_reducible assumption) (by omega))
    · refine kla_hit kF kN T CH rfl (by k_mem) hTr hf rfl fun f ctv hh tk1 F1 N1 l1 => ?_
      clear kF kN l1
      k_steps
      rename Fr _ _ _ _ => kF
      rename News _ _ _ _ => kN
      refine expect_refused C (by ktr_room) (by ktr_units) (fun b o e => kF.keep _ _ (st b o e)) (frames_pushE kF hlg st (by rfl) (by nofun)) (kN.get (by k_mem)) (kN.get (by k_mem)) (kN.get (by k_mem)) (hc.keeps kF.keep).rec
        (kN.get (by k_mem)) (by assumption) (kN.get (by k_mem)) d3 (kN.get (by k_mem)) (by assumption) hz (by assumption) fun h3 t3 tk3 u3 => ?_
      obtain ⟨g2, F2, N2, st2, hl2, up2⟩ := rebaseN kF kN st hlg u3
      have C2 := C.keeps st2
      obtain ⟨X2, T2⟩ := id C2.base
      obtain ⟨r4, r5, r6, hr2⟩ := C2.rowAt pl
      have kU2 := kU.trans (up2.mono (by simp) fun _ q => q)
      have hc2 := hc.up up2 (by simp)
      clear kF kN X T C' CH hS8 hr1
      k_steps
      rename Fr _ _ _ _ => kF
      rename News _ _ _ _ => kN
      refine h _ _ _ (by simp) (lk_mk hA kU2 (.inr ⟨c', hf, hc2.keeps kF.keep⟩) hTr hPo kF kN (by k_mem) (by k_mem) (by k_mem) (by k_mem) (by k_mem) hd (by with_reducible assumption) (by with_reducible assumption) (by with_reducible assumption) (by omega))
  · rename Fr _ _ _ _ => kF
    rename News _ _ _ _ => kN
    have U := updf_of kN (by k_updF : UpdF aS oS _ _)
    refine While_inv2 (SkS prog w U aRow aM aSS row rs pl j) (n₀ := row.length - pl) kF kN ⟨pl, j, tq, oS, by ktn_lt, rfl, hd, rfl, rfl⟩ ?_
    intro k m₁ news₁ h₂ tk₁ F₁ N₁ J₁
    obtain ⟨p', j', tq', oS', j1, rfl, hd', j3, rfl⟩ := J₁
    clear kF kN
    dsimp only at N₁ ⊢
    k_unmd
    k_fold
    k_steps
    · rename _ = isTok _ _ _ => e1
      rename _ = true => e2
      rename Fr _ _ _ _ => kF
      rename News _ _ _ _ => kN
      have e3 := e1.symm.trans e2
      rw [isNl] at e3
      have e4 := of_decide_eq_true e3
      have e5 := C.notNl e4
      exact ⟨_, _, _, _, row.length - (p' + 1), rfl, kF, kN, by omega, p' + 1, p', _, _, j1, rfl, by assumption, (skip_go e5 e4).symm.trans j3, rfl⟩
    · rename _ = isTok _ _ _ => e1
      rename _ = false => e2
      rename Fr _ _ _ _ => kF
      rename News _ _ _ _ => kN
      have e3 := e1.symm.trans e2
      rw [isNl] at e3
      have e4 := j3.symm.trans (skip_end (j := j') (of_decide_eq_false e3))
      rw [e4] at kN
      exact h true _ _ rfl (lk_mk hA kU (hPg.keeps kF.keep) hTr hPo kF kN (by k_mem) (by k_mem) (by k_mem) (by k_mem) (by k_mem) hd' (by with_reducible assumption) (by with_reducible assumption) (by with_reducible assumption) (by omega))
end

section
variable {prog : Program} {w : World} {A : Around} {E : Value → Shared → Prop} {s : Shared} {a b : Addr} {Q : Value → Shared → Prop}
theorem dict_eq0 {oa ob : Obj} {ka : List (Str × Value)} (ha : s.heap.get? a = some oa) (hb : s.heap.get? b = some ob) (da : oa.IsDictOf (strKind prog w) ka) (db : ob.IsDictOf (strKind prog w) []) (la : (a == sysModules) = false) (lb : (b == sysModules) = false) (hu : A.units < cLine)
    (h : Q (.bool ka.isEmpty) s) : wpAny (model prog w) A (compareOp .Eq (.ref a) (.ref b)) Q E s := by
  cases ka with
  | nil => exact keq_eq (r := true) la lb (Heap.dictOf_iff.mpr ⟨oa, ha, da⟩) (Heap.dictOf_iff.mpr ⟨ob, hb, db⟩) hu (fun _ => KeqHits.nil) h
  | cons p r => exact keq_eq (r := false) la lb (Heap.dictOf_iff.mpr ⟨oa, ha, da⟩) (Heap.dictOf_iff.mpr ⟨ob, hb, db⟩) hu (fun e => by simp at e) (by simpa using h)
theorem kdn_evalS {env : Env} {h₀ : Heap} {L : Addr} {m : Str → Option Value} {news : List (Addr × Obj)} {keys : List (Option PySem.Expr)} {values : List PySem.Expr} {pos : Pos} (F : Fr h₀ L s.heap m) (N : News h₀ L s.heap news) (hbig : h₀.NoLimit)
    (hall : keys.all (·.isSome) = true) (hl : keys.length = values.length) (h0 : keys ≠ []) (hlen : keys.length ≤ 15)
    (h : ∀ (d : Addr) h' o, Fr h₀ L h' m → News h₀ L h' ((d, o) :: news) → (∀ p ∈ news, p.1 < d) → (d == sysModules) = false → o.IsDictOf (PySem.strKind prog w) [] →
      wpAny (model prog w) A (evalPairs (pairTrees keys values env pos)) (fun vs s₁ => KdnMade prog w (PySem.strKind prog w) d Q vs s₁) E { s with heap := h' }) :
    wpAny (model prog w) A (eval (.Dict keys values pos) env) Q E s := kdn_eval F N hbig hall hl h0 hlen h
theorem str_sv {v : Option Str} {t : Tok} (X : (k0.heap_1 w.params).In s.heap) (h : ∀ t' tk', Q (.str (nmOf v) t') { s with toks := tk' }) : wpAny (model prog w) A (call (.type "str") [sv v t]) Q E s := by
  cases v with
  | none =>
    dsimp only [sv]
    k_steps
    all_goals exact h _ _
  | some x =>
    dsimp only [sv]
    k_steps
    all_goals exact h _ _
end
local macro_rules | `(tactic| walk_at "compareOp Eq ref ref") => row [tTo `dict_eq0 [bNew, bNew, bW, bW, bA, bA, bU, bH], tTry (`(tactic| dsimp only [strPairs, List.isEmpty]))]
local macro_rules | `(tactic| walk_at "eval Dict") => row [tSh (ap `eval [(ap `PySem.Expr.Dict [`([some (PySem.Expr.Call _ _ _ _)]), b_, b_]), b_]), tRef `kdn_evalS [bK, bK, (ap `Top.nolimit [bK]), bRfl, bRfl, (ap `List.cons_ne_nil [b_, b_]), (ap `Nat.le_of_ble_eq_true [(ap `rfl [])]), bH], tIntro [`d₉, `h₉, `o₉, `F₉, `N₉, `l₉, `lo₉, `hd₉], tOff]
local macro_rules | `(tactic| walk_at "call type:str") => row [tSh (ap `call [(ap `Value.type [`("str")]), `([sv _ _])]), tTo `str_sv [bX, bH], tIntros]
local macro_rules | `(tactic| walk_at "eval Lambda") => stop
section
variable {prog : Program} {w : World} {s : Shared} {h₀ : Heap} {L d : Addr} {m : Str → Option Value} {news : List (Addr × Obj)} {g : Obj → List (Addr × Obj)} {o : Obj} {Q : Value → Shared → Prop}
theorem kdn1 {nm : Str} {t : Tok} {v : Value} (F : Fr h₀ L s.heap m) (N : News h₀ L s.heap news) (U : UpdF d o news g) (hd : o.IsDictOf (PySem.strKind prog w) [])
    (h : ∀ h' o', Fr h₀ L h' m → News h₀ L h' (g o') → o'.IsDictOf (PySem.strKind prog w) [(nm, v)] → Q (.ref d) { s with heap := h', toks := s.toks + 1 }) : KdnMade prog w (PySem.strKind prog w) d Q [(.str nm t, v)] s :=
  kdn_made_str F N U hd rfl (by simp [strPairs]) h
end
local macro_rules | `(tactic| walk_at "KdnMade") => row [tTo `kdn1 [bK, bK, bF, bW, bH], tIntro [`h₉, `o₉, `F₉, `N₉, `hd₉], tAtN, tSweep]
local macro_rules | `(tactic| k_put) => tW (tEx (ap `put_table []))
theorem need_ge : ∀ d, 100 ≤ need d
  | 0 => Nat.le_refl _
  | d + 1 => Nat.le_trans (need_ge d) (Nat.le_add_right _ _)

theorem lt_5 {L : Nat} : L < L + 1 + 1 + 1 + 1 + 1 := by omega
theorem lt_6 {L : Nat} : L < L + 1 + 1 + 1 + 1 + 1 + 1 := by omega
inductive Six (cells : List (Addr × Obj)) (c₁ c₂ c₃ c₄ c₅ c₆ : Addr) (x₁ x₂ x₃ x₄ x₅ x₆ : Option Value) : Prop
  | mk (o₁ o₂ o₃ o₄ o₅ o₆ : Obj) (e : cells = [(c₁, o₁), (c₂, o₂), (c₃, o₃), (c₄, o₄), (c₅, o₅), (c₆, o₆)]) (d1 : o₁.data = .cell x₁) (d2 : o₂.data = .cell x₂) (d3 : o₃.data = .cell x₃) (d4 : o₄.data = .cell x₄) (d5 : o₅.data = .cell x₅) (d6 : o₆.data = .cell x₆)
theorem six_of {cm : Str → Option Value} {n₁ n₂ n₃ n₄ n₅ n₆ : Str} {c₁ c₂ c₃ c₄ c₅ c₆ : Addr} {cells : List (Addr × Obj)} {x₁ x₂ x₃ x₄ x₅ x₆ : Option Value} (x : CellsAre cm [(n₁, c₁), (n₂, c₂), (n₃, c₃), (n₄, c₄), (n₅, c₅), (n₆, c₆)] cells)
    (h1 : cm n₁ = x₁) (h2 : cm n₂ = x₂) (h3 : cm n₃ = x₃) (h4 : cm n₄ = x₄) (h5 : cm n₅ = x₅) (h6 : cm n₆ = x₆) : Six cells c₁ c₂ c₃ c₄ c₅ c₆ x₁ x₂ x₃ x₄ x₅ x₆ := by
  obtain ⟨o1, o2, o3, o4, o5, o6, e, d1, d2, d3, d4, d5, d6⟩ := kc_six x
  exact ⟨o1, o2, o3, o4, o5, o6, e, h1 ▸ d1, h2 ▸ d2, h3 ▸ d3, h4 ▸ d4, h5 ▸ d5, h6 ▸ d6⟩
inductive Lts (a1 a2 a3 a4 a5 a6 L : Nat) (cod : List (Addr × Obj)) : Prop
  | mk (h1 : a1 < L) (h2 : a2 < L) (h3 : a3 < L) (h4 : a4 < L) (h5 : a5 < L) (h6 : a6 < L) (hc : ∀ q ∈ cod, q.1 < L)
theorem lts_of {a1 a2 a3 a4 a5 a6 L : Nat} {o1 o2 o3 o4 o5 o6 : Obj} {cod : List (Addr × Obj)} (h : ∀ q ∈ (a1, o1) :: (a2, o2) :: (a3, o3) :: (a4, o4) :: (a5, o5) :: (a6, o6) :: cod, q.1 < L) : Lts a1 a2 a3 a4 a5 a6 L cod :=
  ⟨h _ (.head _), h _ (.tail _ (.head _)), h _ (.tail _ (.tail _ (.head _))), h _ (.tail _ (.tail _ (.tail _ (.head _)))), h _ (.tail _ (.tail _ (.tail _ (.tail _ (.head _))))), h _ (.tail _ (.tail _ (.tail _ (.tail _ (.tail _ (.head _)))))),
    fun q hq => h q (.tail _ (.tail _ (.tail _ (.tail _ (.tail _ (.tail _ hq))))))⟩
inductive Ly (L a : Nat) : Prop
  | mk (h1 : @Ne Nat (L + 1) a) (h2 : @Ne Nat (L + 1 + 1) a) (h3 : @Ne Nat (L + 1 + 1 + 1) a) (h4 : @Ne Nat (L + 1 + 1 + 1 + 1) a) (h5 : @Ne Nat (L + 1 + 1 + 1 + 1 + 1) a) (h6 : @Ne Nat (L + 1 + 1 + 1 + 1 + 1 + 1) a)
theorem ly_of {L a : Nat} (h : a < L) : Ly L a := by constructor <;> omega
inductive Lz (L : Nat) : Prop
  | mk (h1 : @Ne Nat (L + 1) (L + 1 + 1 + 1 + 1 + 1 + 1)) (h2 : @Ne Nat (L + 1 + 1) (L + 1 + 1 + 1 + 1 + 1 + 1)) (h3 : @Ne Nat (L + 1 + 1 + 1) (L + 1 + 1 + 1 + 1 + 1 + 1)) (h4 : @Ne Nat (L + 1 + 1 + 1 + 1) (L + 1 + 1 + 1 + 1 + 1 + 1)) (h5 : @Ne Nat (L + 1 + 1 + 1 + 1 + 1) (L + 1 + 1 + 1 + 1 + 1 + 1))
theorem lz_of {L : Nat} : Lz L := by constructor <;> omega
inductive Lz5 (L : Nat) : Prop
  | mk (h1 : @Ne Nat (L + 1) (L + 1 + 1 + 1 + 1 + 1)) (h2 : @Ne Nat (L + 1 + 1) (L + 1 + 1 + 1 + 1 + 1)) (h3 : @Ne Nat (L + 1 + 1 + 1) (L + 1 + 1 + 1 + 1 + 1)) (h4 : @Ne Nat (L + 1 + 1 + 1 + 1) (L + 1 + 1 + 1 + 1 + 1))
theorem lz5_of {L : Nat} : Lz5 L := by constructor <;> omega
/-- an opaque rest of a ledger -/
structure InTl (tl : List (Addr × Obj)) (e1 e2 e3 e4 e5 : Addr × Obj) (cod : List (Addr × Obj)) : Prop where
  i1 : e1 ∈ tl
  i2 : e2 ∈ tl
  i3 : e3 ∈ tl
  i4 : e4 ∈ tl
  i5 : e5 ∈ tl
  ic : ∀ z ∈ cod, z ∈ tl
  all : ∀ {P : Addr × Obj → Prop}, P e1 → P e2 → P e3 → P e4 → P e5 → (∀ z ∈ cod, P z) → ∀ z ∈ tl, P z
theorem intl {e1 e2 e3 e4 e5 : Addr × Obj} {cod : List (Addr × Obj)} : ∃ tl, InTl tl e1 e2 e3 e4 e5 cod :=
  ⟨e1 :: e2 :: e3 :: e4 :: e5 :: cod, .head _, .tail _ (.head _), .tail _ (.tail _ (.head _)), .tail _ (.tail _ (.tail _ (.head _))), .tail _ (.tail _ (.tail _ (.tail _ (.head _)))),
    fun _ h => .tail _ (.tail _ (.tail _ (.tail _ (.tail _ h)))), fun h1 h2 h3 h4 h5 hc => fm h1 (fm h2 (fm h3 (fm h4 (fm h5 hc))))⟩
theorem gg_of {a b : Nat} (h : a < b) : b ≠ a ∧ b + 1 ≠ a ∧ b + 1 + 1 + 1 + 1 ≠ a ∧ b + 1 + 1 + 1 + 1 + 1 ≠ a ∧ b + 1 + 1 + 1 ≠ a := by omega
theorem lt_3 {L : Nat} : L < L + 1 + 1 + 1 := by omega
theorem frames_fresh {h base : Heap} {l : List Env} {D : Addr} (hl : h.FunFrames base l) (e : h.get? D = none) : D ∉ fa l := fun q => by
  obtain ⟨_, o, e2, _⟩ := hl.mem q; rw [e] at e2; cases e2
theorem fa_fresh {h base : Heap} {l : List Env} {D L : Addr} {env : Env} (hl : h.FunFrames base l) (e : h.get? D = none) (hf : env.frame = some L) (hD : L < D) : D ∉ fa (env :: l) := fun q => by
  rw [fa_cons hf] at q
  rcases List.mem_cons.mp q with q | q
  · exact absurd hD (by rw [q]; exact Nat.lt_irrefl _)
  · exact frames_fresh hl e q
theorem no_get {h : Heap} {D L : Addr} (lt : ∀ b o, h.get? b = some o → b < L) (hD : L < D) : h.get? D = none := by
  cases q : h.get? D with
  | none => rfl
  | some o => exact absurd (lt _ _ q) (Nat.lt_asymm hD)
theorem no_base {h₀ h : Heap} {D : Addr} (st : h₀.StaysIn h) (e : h.get? D = none) : h₀.get? D = none := by
  cases q : h₀.get? D with
  | none => rfl
  | some o => rw [st _ _ q] at e; cases e
theorem lo_ne {x y : Value} {n m : Nat} : listOf #[] n ≠ listOf #[x, y] m := fun q => by have q1 := congrArg Obj.data q; simp at q1
theorem Small.sub {v v' : Va} {d k k' : Nat} (x : Small v (d + 1) k) (h1 : v'.b1 + k' ≤ v.b1 + k) (h2 : v'.top = v.top) (h3 : v'.lo = v.lo) (hk : k' ≤ k) : Small v' d k' := by
  obtain ⟨x1, x2, x3⟩ := x
  refine ⟨by omega, ?_, ?_⟩
  · rw [h2]; omega
  · rw [h3]; omega
theorem intlN {g h : Heap} {L : Addr} {e1 e2 e3 e4 e5 : Addr × Obj} {rest cod : List (Addr × Obj)} (_N : News g L h (e1 :: rest)) : ∃ tl, InTl tl e1 e2 e3 e4 e5 cod := intl
/-- the code records behind a def or a lambda that is made in the body -/
structure CodOk (h₀ : Heap) (c : Co) (v : Va) (cod' : List (Addr × Obj)) : Prop where
  cd : ∀ z ∈ cod', Rec z.2
  nc : ∀ z ∈ cod', z.1 ∉ adrs c v
  out : ∀ z ∈ cod', h₀.get? z.1 = none
theorem codok {prog : Program} {w : World} {h₀ h : Heap} {c : Co} {v : Va} {l : List Env} {T c' L a : Addr} {o oc : Obj} {ps ps' : Array Value} {pre cod' : List (Addr × Obj)} {pos : Pos} {q : Str} (P : Pre prog w h₀ c v l h) (MR : MadeRec T ps ps' pre v.cod cod' pos q c' oc)
    (lt : ∀ b o, h.get? b = some o → b < L) (m : (a, o) ∈ pre ++ (T, tabObj ps) :: v.cod) (hL : L < a) : CodOk h₀ c v cod' := by
  rcases MR.new with e | ⟨e, l⟩
  · subst e; exact ⟨P.st.p.cd2, P.st.p.nc, P.outC⟩
  · subst e
    have lc : L < c' := Nat.lt_trans hL (l _ m)
    obtain ⟨vs, t, e1, e2⟩ := MR.data
    exact ⟨fm ⟨vs, e1, _, _, e2⟩ P.st.p.cd2, fm (fun q => by obtain ⟨o, e⟩ := P.st.has q; exact absurd (lt _ _ e) (Nat.lt_asymm lc)) P.st.p.nc, fm (no_base P.h0 (no_get lt lc)) P.outC⟩
theorem cod_two {P c2 L a : Addr} {o oc2 : Obj} {ps ps' : Array Value} {pre tl tl2 cod' : List (Addr × Obj)} {pos : Pos} {q : Str} (MR2 : MadeRec P ps ps' pre tl tl2 pos q c2 oc2) (m : (a, o) ∈ pre ++ (P, tabObj ps) :: tl) (hL : L < a)
    (hs : ∀ z ∈ cod', z ∈ tl) (hn : ∀ z ∈ tl, z ∈ cod' ∨ ∀ vs, z.2.data ≠ .fields vs) :
    ∃ cod2 : List (Addr × Obj), (∀ z ∈ cod', z ∈ cod2) ∧ (∀ z ∈ cod2, z ∈ tl2) ∧ (∀ z ∈ tl2, z ∈ cod2 ∨ ∀ vs, z.2.data ≠ .fields vs) ∧ ∀ z ∈ cod2, z ∈ cod' ∨ (L < z.1 ∧ Rec z.2) := by
  obtain ⟨vs2, u2, dc2, dv2⟩ := MR2.data
  rcases MR2.new with e | ⟨e, l2⟩
  · exact ⟨cod', fun _ q => q, fun z hz => by rw [e]; exact hs z hz, fun z hz => hn z (by rw [← e]; exact hz), fun z hz => .inl hz⟩
  · subst e
    exact ⟨(c2, oc2) :: cod', fun z hz => .tail _ hz, fm (.head _) fun z hz => .tail _ (hs z hz), fm (.inl (.head _)) fun z hz => (hn z hz).imp (.tail _) id, fm (.inr ⟨Nat.lt_trans hL (l2 _ m), vs2, dc2, _, _, dv2⟩) fun z hz => .inl hz⟩
/-- what a frame that may write mu and hands on an exception leaves -/
theorem up_led {h₀ h g g2 h6 : Heap} {L : Addr} {m : Str → Option Value} {mu : List (Addr × Obj)} {ws fs : List Addr} (hA : At h₀ h mu) (kp : KeepsBut (mu.map (·.1)) h g) (u : Up [] fs g g2) (F : Fr g2 L h6 m) (hs : ∀ z ∈ mu, z.1 ∈ ws ∨ h6.get? z.1 = some z.2) :
    Up ws fs h h6 := fun b o e nb => by
  by_cases q : b ∈ mu.map (·.1)
  · obtain ⟨z, hz, rfl⟩ := List.mem_map.mp q
    rcases hs z hz with w | w
    · exact absurd w nb
    · rw [(hA.2 z hz).1] at e; cases e; exact ⟨_, w, fun _ => rfl⟩
  · obtain ⟨sl, e2, k2⟩ := u b o (kp b o e q) List.not_mem_nil
    exact ⟨sl, F.keep _ _ e2, k2⟩
section
variable {prog : Program} {w : World} {p : Program} {loose : List Str} {mean : ExcName → Option Value} {mg mb : Str → Option Value} {c : Co} {v : Va}
  {dp un : Nat} {l : List Env} {gd : Option (List Code)} {s : Shared} {Q E : Value → Shared → Prop} {h₀ : Heap}
theorem nested_at {d : Nat} {way deep : Int} {tw td : Tok} (C : Cx w p loose mean mg mb c.row c.aT c.aRow c.ts c.rs h₀) (IH : DeedsOk prog w h₀ c d) (hr : dp + need d + 50 < recursionLimit) (hu : un + 10 * need d + 500 < cLine) (hdp : deep = (d : Int) + 1)
    (P : Pre prog w h₀ c v l s.heap) (fit : Fit v) (hs : Small v (d + 1) (cost d + 5)) (hw : (way = 9 ∨ way = 10 ∨ way = 11) ∨ way = 12)
    (h : ∀ h' v' tk', Post prog w h₀ c v [] (cost d + 5) (fa l) s.heap h' v' → Fit v' → Q (.bool true) { s with heap := h', toks := tk' }) :
    wpAny (model prog w) (ar dp un (some l) gd) (call (.ref 319) [.ref c.aB, .ref c.aR, .ref c.aS, .int way tw, .int deep td]) Q E s := by
  refine wpAny_call ?_
  have hr0 : dp + 50 < recursionLimit := by omega
  have hu0 : un + 500 < cLine := by omega
  have B := C.base
  have S := P.st
  have hA : At h₀ s.heap ((c.aR, instObj 188 c.dR) :: (c.dR, rdDict w c.kt c.aT v.tb v.pl v.tp (.ref (adr c.ts v.j)) c.aSc c.aCl v.nd v.ba c.n) :: (c.aS, v.oS) :: (c.aB, boxObj v.b0 v.b1 v.b2 v.t0 v.t1 v.t2 v.nB) :: (v.aM, listOf #[.bool v.md, .bool v.mb] v.nM) :: (314, tabObj v.ps4) :: v.cod) :=
    ⟨P.h0, fm ⟨S.r.gR, P.out _ (mcw mc1)⟩ (fm ⟨S.r.gD, P.out _ (mcw mc2)⟩ (fm ⟨S.r.gS, P.out _ (mcw mc3)⟩ (fm ⟨S.o.gB, P.out _ (mcw mc4)⟩ (fm ⟨S.o.gM, P.outM⟩ (fm ⟨S.r.p4, P.out _ (mcw mc9)⟩ fun q hq => ⟨S.o.gC q hq, P.outC q hq⟩)))))⟩
  have X0 := Frag.In.keeps B.X hA.1
  obtain ⟨b1, b2, b3, -, -, -, -, b8, b9, b10, -, -, -, b14, b15, b16, -, -, -, b20, b21, -, -, -, b25, b26, -, -, -, -, -, -, -, -, -⟩ := core_off (nd_core S.p.nd)
  have m1 : v.aM ≠ c.aR := (nd_off S.p.nd (.head _) _ mc1).symm
  have m2 : v.aM ≠ c.dR := (nd_off S.p.nd (.head _) _ mc2).symm
  have m3 : v.aM ≠ c.aS := (nd_off S.p.nd (.head _) _ mc3).symm
  have m4 : v.aM ≠ c.aB := (nd_off S.p.nd (.head _) _ mc4).symm
  have m5 : v.aM ≠ 314 := (nd_off S.p.nd (.head _) _ mc9).symm
  have n1 := nc_ne S.p (mca mc1)
  have n2 := nc_ne S.p (mca mc2)
  have n3 := nc_ne S.p (mca mc3)
  have n4 := nc_ne S.p (mca mc4)
  have n5 := nc_ne S.p (mca mc9)
  kn_enter
  intro g L h₁ tk cells m0 hm0 F N' Y X T st hlt kp
  refine hide fun PP hPP => ?_
  obtain ⟨o1, o2, o3, o4, o5, o6, e9, d1, d2, d3, d4, d5, d6⟩ := six_of (x₁ := none) (x₂ := none) (x₃ := some (.int deep td)) (x₄ := some (.ref c.aS)) (x₅ := some (.ref c.aR)) (x₆ := some (.ref c.aB)) Y rfl rfl rfl rfl rfl rfl
  clear Y
  subst e9
  have dS := S.p.dS
  dsimp only [List.cons_append, List.nil_append] at N'
  have CH := code318 X
  have lt := ent_lt hlt kp F
  obtain ⟨lt1, lt2, lt3, lt4, lt5, lt6, ltc⟩ := lts_of hlt
  have n6 : ∀ q ∈ v.cod, q.1 ≠ L + 1 + 1 + 1 + 1 + 1 := fun q hq => Nat.ne_of_lt (Nat.lt_trans (ltc q hq) lt_5)
  have n7 : ∀ q ∈ v.cod, q.1 ≠ L + 1 + 1 + 1 + 1 + 1 + 1 := fun q hq => Nat.ne_of_lt (Nat.lt_trans (ltc q hq) lt_6)
  obtain ⟨ys1, ys2, ys3, ys4, ys5, ys6⟩ := ly_of lt3
  obtain ⟨yb1, yb2, yb3, yb4, yb5, yb6⟩ := ly_of lt4
  obtain ⟨yd1, yd2, yd3, yd4, yd5, yd6⟩ := ly_of lt2
  obtain ⟨-, -, -, -, -, yr6⟩ := ly_of lt1
  obtain ⟨yt1, yt2, yt3, yt4, yt5, yt6⟩ := ly_of lt6
  obtain ⟨-, -, -, -, -, ym6⟩ := ly_of lt5
  obtain ⟨z1, z2, z3, z4, z5⟩ := lz_of (L := L)
  obtain ⟨-, -, -, -, yr5, -⟩ := ly_of lt1
  obtain ⟨-, -, -, -, ym5, -⟩ := ly_of lt5
  obtain ⟨w1, w2, w3, w4⟩ := lz5_of (L := L)
  refine hPP ?_
  clear hPP PP
  dsimp only
  k_unmd
  k_fold
  k_steps
  rename Fr _ _ _ _ => kF
  rename News _ _ _ _ => kN
  rename_i Kp _ _ _ _ _ _ _ _ _ _ _ _ _ _
  rename_i H _ _ _ _ _ _ _ _ _ _
  refine mk_def [_, _, _, _, _, _, _, _, _, _, _, _, _, _] v.cod kF kN T CH rfl (by repeat (first | exact List.forall_mem_nil _ | refine List.forall_mem_cons.mpr ⟨by k_ne, ?_⟩)) n5 S.p.tr4 S.p.c4 (by show Str.ofString "_law_nested" ++ Str.ofString ".<locals>." ++ Str.ofString "within" = inQ; decide +kernel) rfl fun f c' oc ctv doc ps' cod' h2 tk2 F2 N2 MR hqq lf => ?_
  dsimp only [List.cons_append, List.nil_append] at N2 lf
  have C' := C.keeps st
  have i2 := MR.off (a := c.dR) (by k_mem) n2
  have i3 := MR.off (a := c.aS) (by k_mem) n3
  have i4 := MR.off (a := c.aB) (by k_mem) n4
  have i5 : ∀ z ∈ cod', z.1 ≠ 314 := MR.off (a := 314) (o := tabObj v.ps4) (by k_mem) n5
  have i6 := MR.off (a := L + 1 + 1 + 1 + 1 + 1 + 1) (by k_mem) n7
  have ks : @Ne Nat Kp c.aS := Nat.ne_of_gt (by lcg_src)
  have kb : @Ne Nat Kp c.aB := Nat.ne_of_gt (by lcg_src)
  have kd : @Ne Nat Kp c.dR := Nat.ne_of_gt (by lcg_src)
  have kt : @Ne Nat Kp 314 := Nat.ne_of_gt (by lcg_src)
  have kl : @Ne Nat Kp (L + 1 + 1 + 1 + 1 + 1 + 1) := Nat.ne_of_gt (by lcg_src)
  have LK : L + 1 < Kp := by lcg_src
  have LH : L + 1 < H := by lcg_src
  have KH : @Ne Nat Kp H := Nat.ne_of_lt (by lcg_src)
  have Lf : L + 1 < f := lf _ (by k_mem : (L + 1, o6) ∈ _)
  have H5 : @Ne Nat (L + 1 + 1 + 1 + 1 + 1) H := Nat.ne_of_lt (by lcg_src)
  have H3 : @Ne Nat (L + 1 + 1 + 1) H := Nat.ne_of_lt (by lcg_src)
  rename _ = Data.cell (some (Value.ref H)) => dh
  rename_i oh
  rename_i nK _ _ _ _ _ _ _ _ _ _
  obtain ⟨tl, I⟩ := intlN N2 (e2 := (H, listOf #[] 0)) (e3 := (L + 1 + 1 + 1 + 1 + 1, oh)) (e4 := (L + 1 + 1 + 1 + 1, o3)) (e5 := (v.aM, listOf #[.bool v.md, .bool v.mb] v.nM)) (cod := cod')
  have N3 : News g L h2 ((L + 1 + 1 + 1 + 1 + 1 + 1, o1) :: (L + 1 + 1 + 1, o4) :: (L + 1 + 1, o5) :: (L + 1, o6) :: (Kp, listOf #[.bool v.md, .bool v.mb] nK) :: (c.aR, instObj 188 c.dR) :: (c.dR, rdDict w c.kt c.aT v.tb v.pl v.tp (.ref (adr c.ts v.j)) c.aSc c.aCl v.nd v.ba c.n) :: (c.aS, v.oS) :: (c.aB, boxObj v.b0 v.b1 v.b2 v.t0 v.t1 v.t2 v.nB) :: (314, tabObj ps') :: tl) :=
    npick N2 (by k_mem) (npick N2 (by k_mem) (npick N2 (by k_mem) (npick N2 (by k_mem) (npick N2 (by k_mem) (npick N2 (by k_mem) (npick N2 (by k_mem) (npick N2 (by k_mem) (npick N2 (by k_mem) (npick N2 (by k_mem)
      (I.all (N2 _ (by k_mem)) (N2 _ (by k_mem)) (N2 _ (by k_mem)) (N2 _ (by k_mem)) (N2 _ (by k_mem)) fun z hz => N2 z (by repeat (first | exact hz | apply List.Mem.tail))))))))))))
  have t1 : ∀ q ∈ tl, q.1 ≠ c.aS := I.all (Nat.ne_of_gt (lf _ (by k_mem : (c.aS, v.oS) ∈ _))) (Nat.ne_of_gt (by lcg_src : c.aS < H)) ys5 ys4 m3 i3
  have t2 : ∀ q ∈ tl, q.1 ≠ c.aB := I.all (Nat.ne_of_gt (lf _ (by k_mem : (c.aB, boxObj v.b0 v.b1 v.b2 v.t0 v.t1 v.t2 v.nB) ∈ _))) (Nat.ne_of_gt (by lcg_src : c.aB < H)) yb5 yb4 m4 i4
  have t3 : ∀ q ∈ tl, q.1 ≠ c.dR := I.all (Nat.ne_of_gt (lf _ (by k_mem : (c.dR, rdDict w c.kt c.aT v.tb v.pl v.tp (.ref (adr c.ts v.j)) c.aSc c.aCl v.nd v.ba c.n) ∈ _))) (Nat.ne_of_gt (by lcg_src : c.dR < H)) yd5 yd4 m2 i2
  have t4 : ∀ q ∈ tl, q.1 ≠ 314 := I.all (Nat.ne_of_gt (lf _ (by k_mem : (314, tabObj v.ps4) ∈ _))) (Nat.ne_of_gt (by lcg_src : 314 < H)) yt5 yt4 m5 i5
  have t5 : ∀ q ∈ tl, q.1 ≠ L + 1 + 1 + 1 + 1 + 1 + 1 := I.all (Nat.ne_of_gt (lf _ (by k_mem : (L + 1 + 1 + 1 + 1 + 1 + 1, o1) ∈ _))) (Nat.ne_of_gt (by lcg_src : L + 1 + 1 + 1 + 1 + 1 + 1 < H)) z5 z4 (Ne.symm ym6) i6
  have CO := codok P MR lt (by k_mem : (L + 1, o6) ∈ _) (Nat.lt_succ_self L)
  clear N2 n1 n2 n3 n4 n5 n6 n7 kF kN lf CH hlt d2 lt1 lt2 lt3 lt4 lt5 lt6 X0 m1 m2 i2 i3 i4 i5 i6 ltc
  have hb1 : v.b1 < 10 ^ 16 := by have := hs.1; omega
  have hb00 := S.p.b0
  have hb01 := S.p.b0'
  have hb10 := S.p.b1
  have hlg : g.FunFrames h₀ l := frames_upAs P.hl (off_map (fm (fun q => P.dis _ q (mca mc1)) (fm (fun q => P.dis _ q (mca mc2)) (fm (fun q => P.dis _ q (mca mc3)) (fm (fun q => P.dis _ q (mca mc4)) (fm (fun q => P.dis _ q mcM) (fm (fun q => P.dis _ q (mca mc9)) fun z hz q => frames_noC P.hl S _ q (List.mem_map_of_mem hz)))))))) (Up.of_keeps (fs := []) kp)
  have frs : ∀ {D : Addr}, L < D → s.heap.get? D = none := no_get lt
  have frs0 : ∀ {D : Addr}, L < D → h₀.get? D = none := fun {_} hD => no_base P.h0 (no_get lt hD)
  have ltA : ∀ b ∈ adrs c v, b < L := fun b hb => by obtain ⟨o, e⟩ := S.has hb; exact lt _ _ e
  have cdC := CO.cd
  have outC' := CO.out
  obtain ⟨vsR, tR, dcR, dvR⟩ := MR.data
  rw [← hqq] at dvR
  have told : ReadOk prog w h₀ c (need d + 20) d (cost d) H _ f := told_ok (mg := mg) (mb := mb) (p := p) (loose := loose) (mean := mean) C IH hdp (frs0 (Nat.lt_trans (Nat.lt_succ_self L) LH)) d6 d3 dh d4 dcR dvR (f := f) (c' := c') (cb := L + 1) (cd := L + 1 + 1 + 1 + 1) (ch := L + 1 + 1 + 1 + 1 + 1) (cs := L + 1 + 1 + 1) (doc := doc) (pm := (mg (Str.ofString "__name__")).getD .none) (ctv := ctv)
  have LHn : L < H := Nat.lt_trans (Nat.lt_succ_self L) LH
  have Lfn : L < f := Nat.lt_trans (Nat.lt_succ_self L) Lf
  have nfa : ∀ {D : Addr}, L < D → ∀ {env : Env}, env.frame = some L → D ∉ fa (env :: l) := fun {_} hD {_} hf => fa_fresh P.hl (no_get lt hD) hf hD
  have LdR : c.dR < L := ltA _ (mca mc2)
  have nfd : c' ≠ c.dR := fun q => CO.nc _ MR.mem (by dsimp only; rw [q]; exact mca mc2)
  obtain ⟨u1, u2, u3, u4, u5⟩ := gg_of LdR
  rcases hw with hw9 | rfl
  · k_steps
    all_goals (
      rename Fr _ _ _ _ => kF
      rename News _ _ _ _ => kN
      rename Obj.IsDictOf _ _ _ => hd'
      rename Heap => h3
      obtain ⟨Mk, e9, -⟩ := name2 (P := fun D : Addr => Obj.IsDictOf (strKind prog w) _ (stKvs c.aRow v.ql v.tq (.ref (adr c.rs v.qj)) D c.aSS)) hd'
      subst e9
      have LM : L + 1 < Mk := by lcg_src
      have LMn : L < Mk := Nat.lt_trans (Nat.lt_succ_self L) LM
      have gT : ∀ z ∈ tl, h3.get? z.1 = some z.2 := fun z hz => kN.get (a := z.1) (o := z.2) (by repeat (first | exact hz | apply List.Mem.tail))
      have gC : ∀ z ∈ cod', h3.get? z.1 = some z.2 := fun z hz => gT z (I.ic z hz)
      have gf := gT _ I.i1
      have gH := gT _ I.i2
      have gB := kN.get (a := c.aB) (o := boxObj _ _ _ _ _ _ _) (by k_mem)
      have gM := kN.get (a := Mk) (o := listOf #[.bool _, .bool _] _) (by k_mem)
      have gS := kN.get (a := c.aS) (by k_mem)
      have kA : ∀ b o, b ∉ [c.aS, c.aB, 314] → s.heap.get? b = some o → h3.get? b = some o :=
        keep_led hA kp kF (fm (.inr (kN.get (by k_mem))) (fm (.inr (kN.get (by k_mem))) (fm (.inl (.head _)) (fm (.inl (.tail _ (.head _))) (fm (.inr (gT _ I.i5)) (fm (.inl (.tail _ (.tail _ (.head _)))) fun z hz => .inr (gC z (MR.sub z hz))))))))
      have fM : Mk ∉ core c ++ scAd v.sc := fun q => absurd (ltA Mk (adrs_of q)) (Nat.lt_asymm LMn)
      have cM : ∀ z ∈ cod', z.1 ≠ Mk := fun z hz => get_ne (gC z hz) gM (fun q => by obtain ⟨us, e, -⟩ := cdC z hz; rw [q] at e; cases e)
      have S1 := S.change2 (v' := { v with oS := _, md := _, mb := _, aM := Mk, nM := _, b0 := _, b1 := _, b2 := _, t0 := _, t1 := _, t2 := _, nB := _, ps4 := ps', cod := cod' }) (as := [c.aS, c.aB, 314]) (fun b o _ nb e => kA b o nb e)
        ⟨hd', by with_reducible assumption, by with_reducible assumption, by with_reducible assumption, S.p.tr3, MR.tr, S.p.c3.more MR.sub, MR.here, MR.else_ _ _ S.p.c5 (by decide), nd_swap (v := v) S.p.nd fM, fun z hz => not_swap (v := v) (cM z hz) (fun q => CO.nc z hz (adrs_of q)), cdC⟩ rfl rfl (all3 sq3 sq4 sq6) gC
        (kA _ _ (not3 b2 b3 b8) S.r.gR) (kA _ _ (not3 b9 b10 b15) S.r.gD) gS gB gM (kA _ _ (not3 (Ne.symm b20) (Ne.symm b25) (by decide)) S.r.p3) (kN.get (by k_mem))
      have nL1 : ∀ b ∈ core c ++ Mk :: scAd v.sc, b ≠ L := fun b hb e => not_swap (c := c) (v := v) (Nat.ne_of_lt LMn) (fun q => absurd (ltA L (adrs_of q)) (Nat.lt_irrefl _)) (e ▸ hb)
      have ds1 : ∀ b ∈ fa l, b ∉ core c ++ Mk :: scAd v.sc := fun b hb => not_swap (v := v) (fun e => frames_fresh P.hl (frs LMn) (e ▸ hb)) (fun q => P.dis b hb (adrs_of q))
      have P1 : ∀ {env : Env}, env.frame = some L → env.scope.kind ≠ .module → Pre prog w h₀ c _ (env :: l) h3 := fun hf hk => Pre.push P S1 rfl (frs0 LMn) outC' ds1 kF st hlg hf hk nL1
      have hHa : H ∉ core c ++ Mk :: scAd v.sc := not_swap (v := v) (get_ne gH gM lo_ne) (fun q => absurd (ltA H (adrs_of q)) (Nat.lt_asymm LHn))
      have hwL : ∀ b ∈ wr c v, b < L := fun b hb => ltA b (wr_adrs hb)
      have hws : ∀ {env : Env}, env.frame = some L → ∀ a ∈ [H], h₀.get? a = none ∧ a ∉ fa (env :: l) := fun hf => all1 ⟨frs0 LHn, nfa LHn hf⟩
      first
        | refine reading_at (l := envOfC _ _ L 319 _ :: l) C told (by ktr_room) (by ktr_units) (P1 rfl (by nofun)) rfl rfl fit.pl fit.j (hs.sub (by dsimp only; omega) rfl rfl (by omega)) hHa (frs0 LHn) (fun b hb q => nfa LHn rfl (q ▸ hb)) (all6 gf (gC _ MR.mem) (kN.get (by k_mem)) (gT _ I.i4) (gT _ I.i3) (kN.get (by k_mem))) (all6 (gg_of (Nat.lt_trans LdR Lfn)).1 nfd u2 u3 u4 u5) ⟨_, _, gf, rfl⟩ gH ?_
        | refine within_at (l := envOfC _ _ L 319 _ :: l) C told (by ktr_room) (by ktr_units) (P1 rfl (by nofun)) rfl rfl fit.pl fit.j (hs.sub (by dsimp only; omega) rfl rfl (by omega)) hHa (frs0 LHn) (fun b hb q => nfa LHn rfl (q ▸ hb)) (all6 gf (gC _ MR.mem) (kN.get (by k_mem)) (gT _ I.i4) (gT _ I.i3) (kN.get (by k_mem))) (all6 (gg_of (Nat.lt_trans LdR Lfn)).1 nfd u2 u3 u4 u5) ⟨_, _, gf, rfl⟩ gH ?_
        | refine without_at (l := envOfC _ _ L 319 _ :: l) C told (by ktr_room) (by ktr_units) (P1 rfl (by nofun)) rfl fit.ba fit.pl fit.j (hs.sub (by dsimp only; omega) rfl rfl (by omega)) hHa (frs0 LHn) (fun b hb q => nfa LHn rfl (q ▸ hb)) (all6 gf (gC _ MR.mem) (kN.get (by k_mem)) (gT _ I.i4) (gT _ I.i3) (kN.get (by k_mem))) (all6 (gg_of (Nat.lt_trans LdR Lfn)).1 nfd u2 u3 u4 u5) ⟨_, _, gf, rfl⟩ gH ?_
      intro h' v2 n' t tk' Y e1 e2 e3 e4 eH
      have P2 := Post.pre (P1 rfl (by nofun)) Y (hws rfl)
      have LKn : L < Kp := Nat.lt_trans (Nat.lt_succ_self L) LK
      have kp3 : ∀ {D : Addr} {o : Obj}, L < D → D ≠ H → h3.get? D = some o → h'.get? D = some o := fun {D o} hD hn e => Y.up.keep e (fun q => by
        rcases List.mem_append.mp q with q | q
        · exact hn (List.mem_singleton.mp q)
        · exact absurd (hwL D q) (Nat.lt_asymm hD)) (nfa hD rfl)
      have eK := kp3 LKn KH (kN.get (a := Kp) (by k_mem))
      have e33 : h'.get? (L + 1 + 1 + 1) = some o4 := kp3 lt_3 H3 (kN.get (by k_mem))
      have e55 : h'.get? (L + 1 + 1 + 1 + 1 + 1) = some oh := kp3 lt_5 H5 (gT _ I.i3)
      obtain ⟨g2, F2, N2, st2, hl2, low⟩ := after (l := l) (h := s.heap) [(L + 1 + 1 + 1, o4), (L + 1 + 1 + 1 + 1 + 1, oh), (Kp, listOf #[.bool v.md, .bool v.mb] nK), (H, listOf #[.bool true] n'), (c.aS, v2.oS)] kF (P1 rfl (by nofun)) Y rfl (hws rfl) lt P.h0 P.hl
        (all5 ⟨e33, frs0 lt_3, nfa lt_3 rfl⟩ ⟨e55, frs0 lt_5, nfa lt_5 rfl⟩ ⟨eK, frs0 LKn, nfa LKn rfl⟩ ⟨eH, frs0 LHn, nfa LHn rfl⟩
          ⟨Y.st.r.gS, P.out _ (mcw mc3), fun q => Y.dis _ q (mca mc3)⟩)
      dsimp only [List.cons_append, List.nil_append] at N2
      have dS2 := Y.st.p.dS
      have w1 : v2.aM ≠ c.aS := (nd_off Y.st.p.nd (.head _) _ mc3).symm
      have w2 : ∀ z ∈ codF h₀ v2.cod, z.1 ≠ c.aS := fun z hz => nc_ne Y.st.p (mca mc3) z (codF_mem.mp hz).1
      have X2 := (C.keeps st2).base.X
      have T2 := (C.keeps st2).base.T
      have u2 := Y.up
      rw [fa_cons (L := L) rfl] at u2
      have cK : ∀ z ∈ v2.cod, z.1 ≠ Kp := fun z hz => get_ne (Y.st.o.gC z hz) eK (fun q => by obtain ⟨us, e⟩ := Y.st.p.cd z hz; rw [q] at e; cases e)
      clear kF kN X T C' d3 d5 hd' dS
      k_steps
      rename Fr _ _ _ _ => kF
      rename News _ _ _ _ => kN
      rename Obj.IsDictOf _ _ (stKvs c.aRow v2.ql v2.tq (.ref (adr c.rs v2.qj)) Kp c.aSS) => hd3
      rename_i hE _
      have scE : scAd v2.sc = scAd v.sc := Y.gr.scAd
      have k3 := seg_end (wsE := [c.aS]) st2 Y.st P2.h0 low kF kN (all5 (.inr ⟨by k_mem, e33⟩) (.inr ⟨by k_mem, e55⟩) (.inr ⟨by k_mem, eK⟩) (.inr ⟨by k_mem, eH⟩) (.inl (.head _))) (by k_mem) (fun z hz => by repeat (first | exact hz | apply List.Mem.tail)) (fun b hb => ltA b (adrs_of (scE ▸ hb)))
      have gS3 := kN.get (a := c.aS) (by k_mem)
      have gK3 := kN.get (a := Kp) (by k_mem)
      have fK : Kp ∉ core c ++ scAd v2.sc := fun q => absurd (ltA Kp (adrs_of (scE ▸ q))) (Nat.lt_asymm LKn)
      have kB : ∀ b o, b ∈ adrs c v2 → b ≠ c.aS → h'.get? b = some o → hE.get? b = some o := fun b o m n e => k3 b o (.inr (.inl m)) (not1 n) e
      have S3 := Y.st.change2 (v' := { v2 with oS := _, md := v.md, mb := v.mb, aM := Kp, nM := nK }) (as := [c.aS]) (fun b o hb nb e => k3 b o (.inr (.inl hb)) nb e)
        ⟨hd3, Y.st.p.b0, Y.st.p.b0', Y.st.p.b1, Y.st.p.tr3, Y.st.p.tr4, Y.st.p.c3, Y.st.p.c4, Y.st.p.c5, nd_swap (v := v2) Y.st.p.nd fK, fun z hz => not_swap (v := v2) (cK z hz) (fun q => Y.st.p.nc z hz (adrs_of q)), Y.st.p.cd2⟩ rfl rfl (all1 sq3) (fun z hz => k3 _ _ (.inr (.inr (List.mem_map_of_mem hz))) (not1 (nc_ne Y.st.p (mca mc3) z hz)) (Y.st.o.gC z hz))
        (kB _ _ (mca mc1) b2 Y.st.r.gR) (kB _ _ (mca mc2) b9 Y.st.r.gD) gS3 (kB _ _ (mca mc4) (Ne.symm b16) Y.st.o.gB) gK3 (kB _ _ (mca mc8) (Ne.symm b20) Y.st.r.p3) (kB _ _ (mca mc9) (Ne.symm b21) Y.st.r.p4)
      refine h _ _ _ ⟨S3, ⟨Y.gr.lo, ?_, ?_⟩, Up.seg2 (ws2 := [H] ++ wr c v) (fun b o e nb => kA b o (fun q => nb (all3 (mcw mc3) (mcw mc4) (mcw mc9) b q)) e) u2 (fun b o e nb q => ?_) (fun b o hb nb e => k3 b o (.inl hb) (fun q => nb (all1 (mcw mc3) b q)) e) lt,
        fun b hb => not_swap (v := v2) (fun (e : b = Kp) => frames_fresh P.hl (frs LKn) (e ▸ hb)) (fun q => P.dis b hb (adrs_of (scE ▸ q))), frs0 LKn, Y.outC⟩ ⟨e1.trans fit.nd, e2.trans fit.ba, e3, e4⟩
      · obtain ⟨ys, y1, y2⟩ := Y.gr.top
        exact ⟨ys, y1, by dsimp only at y2; omega⟩
      · have := Y.gr.b1; dsimp only at this ⊢; omega
      · rcases List.mem_append.mp q with q | q
        · rw [List.mem_singleton.mp q, frs LHn] at e; cases e
        · exact nb q)
  obtain ⟨r1, r2, r3, hr1⟩ := C'.rowAt v.ql
  k_steps
  · rename Fr _ _ _ _ => kF
    rename News _ _ _ _ => kN
    rename_i h3 _ _ _ _
    obtain ⟨dT, e9, -⟩ := name2 (P := fun D : Addr => News g L h3 (_ :: (D, _) :: _)) kN
    subst e9

    obtain ⟨oT, e9, hTd⟩ := name2 (P := fun o : Obj => Obj.IsDictOf (strKind prog w) o [(nmOf (cur c.row v.ql).sign, .ref f)]) (by assumption)
    subst e9
    have hlo : (dT == sysModules) = false := by assumption
    have LT : L + 1 < dT := by lcg_src
    have LTn : L < dT := Nat.lt_trans (Nat.lt_succ_self L) LT
    have gT : ∀ z ∈ tl, h3.get? z.1 = some z.2 := fun z hz => kN.get (a := z.1) (o := z.2) (by repeat (first | exact hz | apply List.Mem.tail))
    have gC : ∀ z ∈ cod', h3.get? z.1 = some z.2 := fun z hz => gT z (I.ic z hz)
    have gf := gT _ I.i1
    have gH := gT _ I.i2
    have gB := kN.get (a := c.aB) (o := boxObj _ _ _ _ _ _ _) (by k_mem)
    have gM := gT _ I.i5
    have gS := kN.get (a := c.aS) (by k_mem)
    have gD := kN.get (a := c.dR) (o := rdDict w c.kt c.aT (.ref dT) v.pl v.tp (.ref (adr c.ts v.j)) c.aSc c.aCl v.nd v.ba c.n) (by k_mem)
    have gdT := kN.get (a := dT) (o := oT) (by k_mem)
    rename Obj.IsDictOf _ _ (stKvs _ _ _ _ _ _) => hd'
    have kA : ∀ b o, b ∉ [c.dR, c.aS, c.aB, 314] → s.heap.get? b = some o → h3.get? b = some o :=
      keep_led hA kp kF (fm (.inr (kN.get (by k_mem))) (fm (.inl (.head _)) (fm (.inl (.tail _ (.head _))) (fm (.inl (.tail _ (.tail _ (.head _)))) (fm (.inr gM) (fm (.inl (.tail _ (.tail _ (.tail _ (.head _))))) fun z hz => .inr (gC z (MR.sub z hz))))))))
    have S1 := S.change2 (v' := { v with oS := _, tb := .ref dT, ql := v.ql + 1, qj := v.ql, tq := _, b0 := _, b1 := _, b2 := _, t0 := _, t1 := _, t2 := _, nB := _, ps4 := ps', cod := cod' }) (as := [c.dR, c.aS, c.aB, 314]) (fun b o _ nb e => kA b o nb e)
      ⟨hd', by with_reducible assumption, by with_reducible assumption, by with_reducible assumption, S.p.tr3, MR.tr, S.p.c3.more MR.sub, MR.here, MR.else_ _ _ S.p.c5 (by decide), S.p.nd, CO.nc, cdC⟩ rfl rfl (all4 sq2 sq3 sq4 sq6) gC
      (kA _ _ (not4 b1 b2 b3 b8) S.r.gR) gD gS gB gM (kA _ _ (not4 (Ne.symm b14) (Ne.symm b20) (Ne.symm b25) (by decide)) S.r.p3) (kN.get (a := 314) (by k_mem))
    have P1 : ∀ {env : Env}, env.frame = some L → env.scope.kind ≠ .module → Pre prog w h₀ c _ (env :: l) h3 := fun hf hk => Pre.push P S1 rfl P.outM outC' P.dis kF st hlg hf hk fun b hb => Nat.ne_of_lt (ltA b hb)
    have hHa : H ∉ adrs c v := fun q => absurd (ltA H q) (Nat.lt_asymm LHn)
    have hwL : ∀ b ∈ wr c v, b < L := fun b hb => ltA b (wr_adrs hb)
    have hws : ∀ {env : Env}, env.frame = some L → ∀ a ∈ [H], h₀.get? a = none ∧ a ∉ fa (env :: l) := fun hf => all1 ⟨frs0 LHn, nfa LHn hf⟩
    refine part_yes (l := envOfC _ _ L 319 _ :: l) C told (by ktr_room) (by ktr_units) (P1 rfl (by nofun)) fit.nd fit.ba (by dsimp only; rw [fit.pl]) fit.pl gdT hTd hlo rfl ⟨Nat.ne_of_gt (Nat.lt_trans (ltA c.aR (mca mc1)) LTn), Nat.ne_of_gt (Nat.lt_trans LdR LTn)⟩
      (hs.sub (by dsimp only; omega) rfl rfl (by omega)) hHa (frs0 LHn) (fun b hb q => nfa LHn rfl (q ▸ hb))
      (all6 gf (gC _ MR.mem) (kN.get (by k_mem)) (gT _ I.i4) (gT _ I.i3) (kN.get (by k_mem))) (all6 (gg_of (Nat.lt_trans LdR Lfn)).1 nfd u2 u3 u4 u5) ⟨_, _, gf, rfl⟩ gH ?_
    intro h' v2 n' t tk' Y fit2 eH
    have P2 := Post.pre (P1 rfl (by nofun)) Y (hws rfl)
    have e55 : h'.get? (L + 1 + 1 + 1 + 1 + 1) = some oh := Y.up.keep (gT _ I.i3) (fun q => by
      rcases List.mem_append.mp q with q | q
      · exact H5 (List.mem_singleton.mp q)
      · exact absurd (hwL _ q) (Nat.lt_asymm lt_5)) (nfa lt_5 rfl)
    obtain ⟨g2, F2, N2, st2, hl2, low⟩ := after (l := l) (h := s.heap) [(L + 1 + 1 + 1 + 1 + 1, oh), (H, listOf #[.bool true] n')] kF (P1 rfl (by nofun)) Y rfl (hws rfl) lt P.h0 P.hl
      (fm ⟨e55, frs0 lt_5, nfa lt_5 rfl⟩ (all1 ⟨eH, frs0 LHn, nfa LHn rfl⟩))
    dsimp only [List.cons_append, List.nil_append] at N2
    have X2 := (C.keeps st2).base.X
    have T2 := (C.keeps st2).base.T
    have u2 := Y.up
    rw [fa_cons (L := L) rfl] at u2
    clear kF kN X T C' d3 d5 hd' dS
    k_steps
    rename Fr _ _ _ _ => kF
    rename News _ _ _ _ => kN
    have scE : scAd v2.sc = scAd v.sc := Y.gr.scAd
    have k3 := seg_end (wsE := []) st2 Y.st P2.h0 low kF kN (fm (.inr ⟨by k_mem, e55⟩) (all1 (.inr ⟨by k_mem, eH⟩))) (by k_mem) (fun z hz => by repeat (first | exact hz | apply List.Mem.tail)) (fun b hb => ltA b (adrs_of (scE ▸ hb)))
    have S3 := Y.st.move fun b o hb e => k3 b o (.inr hb) List.not_mem_nil e
    refine h _ v2 _ ⟨S3, ⟨Y.gr.lo, ?_, ?_⟩, Up.seg2 (ws2 := [H] ++ wr c v) (fun b o e nb => kA b o (fun q => nb (all4 (mcw mc2) (mcw mc3) (mcw mc4) (mcw mc9) b q)) e) u2 (fun b o e nb q => ?_) (fun b o hb nb e => k3 b o (.inl hb) List.not_mem_nil e) lt, fun b hb q => Y.dis b (by rw [fa_cons (L := L) rfl]; exact .tail _ hb) q, Y.outM, Y.outC⟩ fit2
    · obtain ⟨ys, y1, y2⟩ := Y.gr.top
      exact ⟨ys, y1, by dsimp only at y2; omega⟩
    · have := Y.gr.b1; dsimp only at this ⊢; omega
    · rcases List.mem_append.mp q with q | q
      · rw [List.mem_singleton.mp q, frs LHn] at e; cases e
      · exact nb q
  · rename Fr _ _ _ _ => kF
    rename News _ _ _ _ => kN
    refine kla_eval rfl ?_
    refine mk_lamc [_, _, _, _, _, _, _, _, _, _, _] tl kF kN T (code318 X) rfl (by repeat (first | exact List.forall_mem_nil _ | refine List.forall_mem_cons.mpr ⟨by k_ne, ?_⟩)) t4 MR.tr ((MR.else_ _ _ S.p.c5 (by decide)).more I.ic) (by show Str.ofString "_law_nested" ++ Str.ofString ".<locals>." ++ Str.ofString "<lambda>" = lam4Q; decide +kernel) rfl fun f2 c2 oc2 ctv2 ps2 tl2 h4 tk4 F4 N4 MR2 hq2 lf2 => ?_
    dsimp only [List.cons_append, List.nil_append] at N4 lf2
    clear kF kN
    k_steps
    rename Fr _ _ _ _ => kF
    rename News _ _ _ _ => kN
    rename_i dT _ _ _ _ _ _ _ _ _ _ _ _ _ _ _ _ _ _ _
    have gD := kN.get (a := c.dR) (o := rdDict w c.kt c.aT (.ref dT) v.pl v.tp (.ref (adr c.ts v.j)) c.aSc c.aCl v.nd v.ba c.n) (by k_mem)
    have gdT := kN.get (a := dT) (by k_mem)
    have hv : ∀ x, (cur c.row v.ql).sign = some x → x.length ≤ 20 := fun x e => by
      have := C.okAt v.ql
      simp only [okT, e, Option.all_some, okS, Bool.and_eq_true, decide_eq_true_eq] at this
      exact this.2.2
    obtain ⟨vs2, u9, dc2, dv2⟩ := MR2.data
    rw [← hq2] at dv2
    have gT2 : ∀ z ∈ tl2, h4.get? z.1 = some z.2 := fun z hz => kN.get (a := z.1) (o := z.2) (by repeat (first | exact hz | apply List.Mem.tail))
    have nge := need_ge d
    refine part_refused C (by ktr_room) (by ktr_units) (fun b o e => kF.keep _ _ (st b o e)) (frames_pushE kF hlg st (by rfl) (by nofun)) (kN.get (by k_mem)) gD gdT (by with_reducible assumption) (by with_reducible assumption) (kN.get (.head _)) ⟨c2, oc2, vs2, u9, rfl, gT2 _ MR2.mem, dc2, dv2⟩
      (kN.get (by k_mem)) d5 (kN.get (by k_mem)) (by assumption) hv fun h5 t5 tk5 u5 => ?_
    rw [show (cur c.row v.pl).line = (cur c.row v.ql).line by rw [fit.pl]]
    obtain ⟨g2, F2, N2, st2, hl2, up2⟩ := rebaseN kF kN st hlg u5
    have C2 := C.keeps st2
    have X2 := C2.base.X
    have T2 := C2.base.T
    obtain ⟨r4, r5, r6, hr2⟩ := C2.rowAt v.ql
    obtain ⟨cod2, y1, y2, y3, y4⟩ : ∃ cod2 : List (Addr × Obj), (∀ z ∈ cod', z ∈ cod2) ∧ (∀ z ∈ cod2, z ∈ tl2) ∧ (∀ z ∈ tl2, z ∈ cod2 ∨ ∀ vs, z.2.data ≠ .fields vs) ∧ ∀ z ∈ cod2, z ∈ cod' ∨ (L < z.1 ∧ Rec z.2) :=
      cod_two MR2 (by k_mem : (L + 1, o6) ∈ _) (Nat.lt_succ_self L) I.ic (I.all (.inr (by nofun)) (.inr (by nofun)) (.inr (by rw [dh]; nofun)) (.inr (by rw [d3]; nofun)) (.inr (by nofun)) fun z hz => .inl hz)
    clear kF kN X T C'
    k_steps
    rename Fr _ _ _ _ => kF
    rename News _ _ _ _ => kN
    obtain ⟨h6, e9, -⟩ := name2 (P := fun hx : Heap => Fr g2 L hx _) kF
    subst e9
    have gT : ∀ z ∈ tl2, h6.get? z.1 = some z.2 := fun z hz => kN.get (a := z.1) (o := z.2) (by repeat (first | exact hz | apply List.Mem.tail))
    have gT1 : ∀ z ∈ tl, h6.get? z.1 = some z.2 := fun z hz => gT z (MR2.sub z hz)
    have gB := kN.get (a := c.aB) (o := boxObj _ _ _ _ _ _ _) (by k_mem)
    have gM := gT1 _ I.i5
    have gD := kN.get (a := c.dR) (o := rdDict w c.kt c.aT (.ref dT) v.pl v.tp (.ref (adr c.ts v.j)) c.aSc c.aCl v.nd v.ba c.n) (by k_mem)
    have gS := kN.get (a := c.aS) (o := v.oS) (by k_mem)
    have uA : Up [c.dR, c.aB, 314] (fa l) s.heap h6 :=
      up_led hA kp up2 kF (fm (.inr (kN.get (by k_mem))) (fm (.inl (.head _)) (fm (.inr gS) (fm (.inl (.tail _ (.head _))) (fm (.inr gM) (fm (.inl (.tail _ (.tail _ (.head _)))) fun z hz => .inr (gT1 z (I.ic z (MR.sub z hz)))))))))
    have kA : ∀ b o, b ∈ adrs c v → b ∉ [c.dR, c.aB, 314] → s.heap.get? b = some o → h6.get? b = some o := fun b o hb nb e => uA.keep e nb (fun q => P.dis b q hb)
    have only : ∀ {ps : Array Value} {p : Pos} {q : Str}, codIn tl2 ps p q → codIn cod2 ps p q := fun {ps p q} x => by
      rcases x with x | ⟨a, oc, vs, t, e1, e2, e3, e4⟩
      · exact .inl x
      · rcases y3 _ e2 with e5 | e5
        · exact .inr ⟨a, oc, vs, t, e1, e5, e3, e4⟩
        · exact absurd e3 (e5 vs)
    have cdC2 : ∀ z ∈ cod2, Rec z.2 := fun z hz => by
      rcases y4 z hz with q | ⟨_, q⟩
      · exact cdC z q
      · exact q
    have S1 := S.change2 (v' := { v with tb := .ref dT, b0 := _, b1 := _, b2 := _, t0 := _, t1 := _, t2 := _, nB := _, ps4 := ps2, cod := cod2 }) (as := [c.dR, c.aB, 314]) kA
      ⟨S.p.dS, by with_reducible assumption, by with_reducible assumption, by with_reducible assumption, S.p.tr3, MR2.tr, S.p.c3.more (fun z hz => y1 z (MR.sub z hz)), only (MR2.else_ _ _ (MR.here.more I.ic) (by decide)), only MR2.here, S.p.nd, fun z hz q => by
        rcases y4 z hz with q1 | ⟨q1, _⟩
        · exact CO.nc z q1 q
        · exact absurd (ltA _ q) (Nat.lt_asymm q1), cdC2⟩ rfl rfl (all3 sq2 sq4 sq6) (fun z hz => gT z (y2 z hz))
      (kA _ _ (mca mc1) (not3 b1 b3 b8) S.r.gR) gD gS gB gM (kA _ _ (mca mc8) (not3 (Ne.symm b14) (Ne.symm b25) (by decide)) S.r.p3) (kN.get (a := 314) (by k_mem))
    refine agrees_st (C2.keeps kF.keep) S1 ⟨fit.nd, fit.ba, fit.pl, fit.j⟩ (by ktr_room) (by ktr_units) fun h' tk' kS => ?_
    have F3 := Fr.keeps kF kS
    have N3 := News.grown kN kS
    clear kF kN
    k_steps
    refine h _ _ _ ⟨S1.keeps kS, ⟨rfl, ⟨v.top.ys, rfl, by omega⟩, by dsimp only; omega⟩, (uA.trans (Up.of_keeps fun b o e _ => kS b o e)).mono (all3 (mcw mc2) (mcw mc4) (mcw mc9)) (fun _ q => q), P.dis, P.outM, fun z hz => ?_⟩ ⟨fit.nd, fit.ba, fit.pl, fit.j⟩
    · rcases y4 z hz with q | ⟨q, _⟩
      · exact outC' z q
      · exact frs0 q
    rename Tok0.line _ ≠ _ => e9
    exact absurd rfl e9
end

/-- the total so far -/
noncomputable def BxJ (aI : Addr) (news₀ : List (Addr × Obj)) (_ : Nat) (m : Str → Option Value) (news : List (Addr × Obj)) : Prop :=
  news = news₀ ∧ m (Str.ofString "script") = some (.ref aI) ∧ ∃ b t, m (Str.ofString "total") = some (.int b t) ∧ 0 ≤ b ∧ b < (10 : Int) ^ 90
theorem ints_item : ∀ {vs : List Value} {ns : List Int} {i : Nat} {v : Value}, IntsAre vs ns → vs[i]? = some v → ∃ k t, v = .int k t
  | _, _, 0, _, .cons _ _ _, e => ⟨_, _, (Option.some.inj e).symm⟩
  | _, _, i + 1, _, .cons _ _ r, e => ints_item (i := i) r (by simpa using e)
section
variable {prog : Program} {w : World} {p : Program} {loose : List Str} {mean : ExcName → Option Value} {mg mb : Str → Option Value}
theorem box_at {dp un : Nat} {fr : Option (List Env)} {gd : Option (List Code)} {s : Shared} {aI : Addr} {vs : List Value} {ns : List Int} {Q E : Value → Shared → Prop}
    (B : Base w p loose mean mg mb s.heap) (hl : s.heap.IsList aI vs.toArray) (hI : IntsAre vs ns) (hL : (PyData.list (List.map PyData.int ns)).layable0 = true) (hr : dp + 2 < recursionLimit)
    (h : ∀ D b0 b2 t0 t1 t2 n h' tk', s.heap.StaysIn h' → s.heap.get? D = none → 0 ≤ b0 → b0 < 10 ^ 90 → b2 ≤ 40 → h'.get? D = some (boxObj b0 0 b2 t0 t1 t2 n) → Q (.ref D) { s with heap := h', toks := tk' }) :
    wpAny (model prog w) (ar dp un fr gd) (call (.ref 236) [.ref aI]) Q E s := by
  refine wpAny_call ?_
  obtain ⟨X, T⟩ := id B
  kc_enter
  intro L h₁ m0 hm0 F N'
  dsimp only
  k_unmd
  k_fold
  k_steps
  refine wpAny_For ?_
  k_steps
  rename Fr _ _ _ _ => kF
  rename News _ _ _ _ => kN
  rename IntsAre _ (List.take 24 ns) => hI2
  refine for_list rfl kF kN (list_news kN (.head _)) (BxJ aI _) ⟨rfl, by ktn_lt, 0, _, by ktn_lt, by decide, by decide⟩ (fun _ _ _ j q hq => by rw [j.1] at hq; exact List.mem_map_of_mem hq) (fun _ _ _ _ j F N => by rw [j.1] at N; exact list_news N (.head _)) ?_ ?_
  · intro I i v m₁ news₁ h₂ tk₂ oI hlt hv J₁ F₂ N₂ off
    obtain ⟨j1, j2, b, tb, j3, j4, j5⟩ := J₁
    subst j1
    obtain ⟨k, tk, rfl⟩ := ints_item hI2 hv
    clear kF kN
    dsimp only
    k_unmd
    k_fold
    k_steps
    rename Fr _ _ _ _ => kF
    rename News _ _ _ _ => kN
    exact ⟨_, _, _, _, rfl, kF, kN, rfl, by ktn_lt, _, _, by ktn_lt, (fmod_in (by decide)).1, (fmod_in (by decide)).2⟩
  · intro m₁ news₁ h₂ tk₂ J₁ F₂ N₂
    obtain ⟨j1, j2, b, tb, j3, j4, j5⟩ := J₁
    subst j1
    clear kF kN
    dsimp only
    k_steps
    all_goals ((rename Fr _ _ _ _ => kF); (rename News _ _ _ _ => kN); exact h _ _ _ _ _ _ _ _ _ kF.keep (News.fresh kN (.head _)) j4 j5 (by decide) (News.get kN (.head _)))
end

theorem strs_snoc {x : Str} {t : Tok} : ∀ {vs : List Value} {ys : List Str}, StrsAre vs ys → StrsAre (vs ++ [.str x t]) (ys ++ [x])
  | _, _, .nil => .cons _ _ .nil
  | _, _, .cons _ _ r => .cons _ _ (strs_snoc r)
section
variable {prog : Program} {w : World} {c : Co} {v : Va} {h h' : Heap}
theorem scAd_sc {v : Va} : scAd v.sc = scAd v.lo ++ [v.top.an, v.top.an', v.top.tu] := by
  simp only [Va.sc, scAd, List.flatMap_append, List.flatMap_cons, List.flatMap_nil, List.append_nil]
/-- the state behind names put at the top scope, and draws -/
theorem StA.grow {b0' b1' : Int} {t0' t1' t2' : Tok} {nB' : Nat} {ys' : List Str} (x : StA prog w c v h) (k : ∀ b o, b ∈ adrs c v ∨ b ∈ v.cod.map (·.1) → b ∉ [c.aB, v.top.an, v.top.an'] → h.get? b = some o → h'.get? b = some o)
    (p0 : 0 ≤ b0') (p1 : b0' < 10 ^ 90) (p2 : 0 ≤ b1') (eB : h'.get? c.aB = some (boxObj b0' b1' v.b2 t0' t1' t2' nB'))
    (e1 : ∃ vs n, h'.get? v.top.an = some (listOf (List.toArray vs) n) ∧ StrsAre vs ys') (e2 : ∃ vs n, h'.get? v.top.an' = some (listOf (List.toArray vs) n) ∧ StrsAre vs ys') :
    StA prog w c { v with b0 := b0', b1 := b1', t0 := t0', t1 := t1', t2 := t2', nB := nB', top := { v.top with ys := ys' } } h' := by
  have nd := x.p.nd
  have hadr : adrs c { v with b0 := b0', b1 := b1', t0 := t0', t1 := t1', t2 := t2', nB := nB', top := { v.top with ys := ys' } } = adrs c v := by
    simp only [adrs, scAd_sc]
  have nds : (scAd v.lo ++ [v.top.an, v.top.an', v.top.tu]).Nodup := by
    have := (List.nodup_append.mp nd).2.1
    rw [List.nodup_cons] at this
    rw [← scAd_sc]; exact this.2
  obtain ⟨_, nt, ns⟩ := List.nodup_append.mp nds
  simp only [List.nodup_cons, List.mem_cons, List.not_mem_nil, or_false, not_or] at nt
  obtain ⟨⟨u1, u2⟩, u3, _⟩ := nt
  have mt : v.top.an ∈ scAd v.sc ∧ v.top.an' ∈ scAd v.sc ∧ v.top.tu ∈ scAd v.sc := by rw [scAd_sc]; simp
  have cb : ∀ a ∈ core c, a ≠ v.top.an ∧ a ≠ v.top.an' := fun a ha => ⟨nd_off nd (.tail _ mt.1) a ha, nd_off nd (.tail _ mt.2.1) a ha⟩
  obtain ⟨_, _, b3, _, _, _, _, _, _, b10, _, _, _, _, _, b16, _, _, _, _, _, b22, b23, b24, b25, b26, _⟩ := core_off (nd_core nd)
  have kc : ∀ b, b ∈ core c → b ≠ c.aB → ∀ o, h.get? b = some o → h'.get? b = some o := fun b hb n o e => k b o (.inl (adrs_core hb)) (not3 n (cb b hb).1 (cb b hb).2) e
  have aBs : ∀ b ∈ scAd v.sc, b ≠ c.aB := fun b hb q => nd_off nd (.tail _ hb) c.aB (by lcg_sub) q.symm
  have kl : ∀ q ∈ v.lo, ScAt h q → ScAt h' q := fun q hq y => y.move fun b o hb e => by
    have hs : b ∈ scAd v.lo := scAd_mem hq hb
    have hs2 : b ∈ scAd v.sc := by rw [scAd_sc]; exact List.mem_append_left _ hs
    exact k b o (.inl (mcs hs2)) (not3 (aBs b hs2) (ns b hs _ (.head _)) (ns b hs _ (.tail _ (.head _)))) e
  have ht := (x.r.S.all v.top (by simp)).tu
  have kt : IsTup h' v.top.tu [Value.bool v.top.cl, .ref v.top.an'].toArray := by
    obtain ⟨o, e, r⟩ := ht
    exact ⟨o, k _ o (.inl (mcs mt.2.2)) (not3 (aBs _ mt.2.2) (Ne.symm u2) (Ne.symm u3)) e, r⟩
  have ka : ∀ q ∈ v.lo ++ [{ v.top with ys := ys' }], ScAt h' q := fun q hq => by
    rcases List.mem_append.mp hq with hq | hq
    · exact kl q hq (x.r.S.all q (List.mem_append_left _ hq))
    · rcases List.mem_singleton.mp hq with rfl
      exact ⟨e1, e2, kt⟩
  have l1 := lo_move x.r.S.l0 (kc _ (by lcg_sub) (Ne.symm b22))
  have l2 := lo_move x.r.S.c0 (kc _ (by lcg_sub) (Ne.symm b23))
  have l3 := lo_move x.r.T.l0 (kc _ (by lcg_sub) (Ne.symm b24))
  have few := x.r.S.few
  have bot := x.r.S.bot
  simp only [Va.sc, List.map_append, List.map_cons, List.map_nil, List.length_append, List.length_cons, List.length_nil] at l1 l2 l3 few
  refine ⟨⟨kc _ (by lcg_sub) b3 _ x.r.gR, kc _ (by lcg_sub) b10 _ x.r.gD, kc _ (by lcg_sub) b16 _ x.r.gS, ⟨?_, ?_, ka, ?_, ?_⟩, ⟨?_, ka, ?_⟩, kc _ (by lcg_sub) (Ne.symm b25) _ x.r.p3, kc _ (by lcg_sub) (Ne.symm b26) _ x.r.p4⟩,
    ⟨eB, ?_, fun z hz => ?_⟩, ⟨x.p.dS, p0, p1, p2, x.p.tr3, x.p.tr4, x.p.c3, x.p.c4, x.p.c5, by rw [hadr]; exact nd, by rw [hadr]; exact x.p.nc, x.p.cd2⟩⟩
  · simp only [Va.sc, List.map_append, List.map_cons, List.map_nil]; exact l1
  · simp only [Va.sc, List.map_append, List.map_cons, List.map_nil]; exact l2
  · simp only [Va.sc, List.length_append, List.length_cons, List.length_nil]; exact few
  · obtain ⟨d, hd, e⟩ := bot
    cases hlo : v.lo with
    | nil =>
      rw [Va.sc, hlo] at hd
      have e9 : v.top = d := Option.some.inj hd
      exact ⟨{ v.top with ys := ys' }, rfl, by rw [← e9] at e; exact e⟩
    | cons q r =>
      rw [Va.sc, hlo] at hd
      exact ⟨d, hd, e⟩
  · simp only [Va.sc, List.map_append, List.map_cons, List.map_nil]; exact l3
  · simp only [Va.sc, List.length_append, List.length_cons, List.length_nil]; exact few
  · have nM := (List.nodup_cons.mp (List.nodup_append.mp nd).2.1).1
    exact k _ _ (.inl mcM) (not3 (fun q => nd_off nd (.head _) c.aB mc4 q.symm) (fun q => nM (q ▸ mt.1)) (fun q => nM (q ▸ mt.2.1))) x.o.gM
  · refine k _ _ (.inr (List.mem_map_of_mem hz)) (fun q => x.p.nc z hz (all3 (P := fun b => b ∈ adrs c v) (mca mc4) (mcs mt.1) (mcs mt.2.1) _ q)) (x.o.gC z hz)
theorem known_top {lo : List Sc} {t : Sc} {a : Addr} {x : Str} : known (lo ++ [{ t with an := a }]) x = known (lo ++ [t]) x := by
  simp [known, knownR, has]
end
section
variable {prog : Program} {w : World} {A : Around} {E : Value → Shared → Prop} {s : Shared} {D : Addr} {t1 t2 t3 t4 u : Tok} {d : Nat} {Q : Value → Shared → Prop} {value slice : Expr}
theorem item_word {a b c e : Str} (hl : s.heap.IsList D [.str a t1, .str b t2, .str c t3, .str e t4].toArray) (h1 : (d : Int) < 4) (h : ∀ x t, Q (.str x t) s)
    (hs : subscripted slice false (.ref D) (.int d u) = operate [.ref D, .int d u] (getItem (.ref D) (.int d u)) := by with_unfolding_all rfl) :
    wpAny (model prog w) A (subscriptTail value slice (.ref D) (.int d u)) Q E s := by
  have hd : d < 4 := by omega
  match d, hd with
  | 0, _ => exact item_at hl (by decide) (by decide) rfl (h _ _) hs
  | 1, _ => exact item_at hl (by decide) (by decide) rfl (h _ _) hs
  | 2, _ => exact item_at hl (by decide) (by decide) rfl (h _ _) hs
  | 3, _ => exact item_at hl (by decide) (by decide) rfl (h _ _) hs
end
local macro_rules | `(tactic| walk_at "subscriptTail") => row [tSh (ap `subscriptTail [(ap `PySem.Expr.Call [b_, b_, b_, b_]), b_, (ap `Value.ref [b_]), (ap `Value.int [b_, b_])]), tTo `item_word [bLn, bWO, bH], tIntros]
local macro_rules | `(tactic| walk_at "call ref") => stopAt 257
section
variable {prog : Program} {w : World} {c : Co} {v v' : Va} {h h' : Heap}
theorem top_off (nd : (adrs c v).Nodup) : (∀ b ∈ scAd v.lo, b ≠ v.top.an ∧ b ≠ v.top.an' ∧ b ≠ v.top.tu) ∧ (∀ a ∈ core c, a ≠ v.top.an ∧ a ≠ v.top.an' ∧ a ≠ v.top.tu) ∧ v.top.an ≠ v.top.an' ∧ v.top.an ≠ v.top.tu ∧ v.top.an' ≠ v.top.tu := by
  have nds : (scAd v.lo ++ [v.top.an, v.top.an', v.top.tu]).Nodup := by
    have := (List.nodup_append.mp nd).2.1
    rw [List.nodup_cons] at this
    rw [← scAd_sc]; exact this.2
  obtain ⟨_, nt, ns⟩ := List.nodup_append.mp nds
  simp only [List.nodup_cons, List.mem_cons, List.not_mem_nil, or_false, not_or] at nt
  obtain ⟨⟨u1, u2⟩, u3, _⟩ := nt
  have mt : v.top.an ∈ scAd v.sc ∧ v.top.an' ∈ scAd v.sc ∧ v.top.tu ∈ scAd v.sc := by rw [scAd_sc]; simp
  exact ⟨fun b hb => ⟨ns b hb _ (by simp), ns b hb _ (by simp), ns b hb _ (by simp)⟩, fun a ha => ⟨nd_off nd (.tail _ mt.1) a ha, nd_off nd (.tail _ mt.2.1) a ha, nd_off nd (.tail _ mt.2.2) a ha⟩, u1, u2, u3⟩
/-- the state's scopes, while the reader's own list has a name more -/
theorem sts_fake (x : StA prog w c v h) (k : ∀ b o, b ≠ v.top.an → h.get? b = some o → h'.get? b = some o) : StsAt h' c.aSS (v.lo ++ [{ v.top with an := v.top.an' }]) := by
  obtain ⟨z1, z2, z3, z4, z5⟩ := top_off x.p.nd
  have l3 := lo_move x.r.T.l0 (fun o e => k c.aSS o (z2 _ (by lcg_sub)).1 e)
  have few := x.r.S.few
  simp only [Va.sc, List.map_append, List.map_cons, List.map_nil, List.length_append, List.length_cons, List.length_nil] at l3 few
  refine ⟨?_, fun q hq => ?_, ?_⟩
  · simp only [List.map_append, List.map_cons, List.map_nil]; exact l3
  · rcases List.mem_append.mp hq with hq | hq
    · exact (x.r.S.all q (List.mem_append_left _ hq)).move fun b o hb e => k b o (z1 b (scAd_mem hq hb)).1 e
    · rcases List.mem_singleton.mp hq with rfl
      have y := x.r.S.all v.top (by simp)
      obtain ⟨vs, n, e, r⟩ := y.st
      obtain ⟨o, e2, r2⟩ := y.tu
      exact ⟨⟨vs, n, k _ _ (Ne.symm z3) e, r⟩, ⟨vs, n, k _ _ (Ne.symm z3) e, r⟩, o, k _ _ (Ne.symm z4) e2, r2⟩
  · simp only [List.length_append, List.length_cons, List.length_nil]; exact few
end

section
variable {prog : Program} {w : World} {p : Program} {loose : List Str} {mean : ExcName → Option Value} {mg mb : Str → Option Value} {c : Co} {v : Va}
  {dp un : Nat} {l : List Env} {gd : Option (List Code)} {s : Shared} {Q E : Value → Shared → Prop} {h₀ : Heap}
theorem scoped7_at {d : Nat} {deep : Int} {tw td : Tok} (C : Cx w p loose mean mg mb c.row c.aT c.aRow c.ts c.rs h₀) (hr : dp + 30 < recursionLimit) (hu : un + 200 < cLine)
    (P : Pre prog w h₀ c v l s.heap) (fit : Fit v) (hs : Small v d 5)
    (h : ∀ h' v' tk', Post prog w h₀ c v [] 5 (fa l) s.heap h' v' → Fit v' → Q (.bool true) { s with heap := h', toks := tk' }) :
    wpAny (model prog w) (ar dp un (some l) gd) (call (.ref 312) [.ref c.aB, .ref c.aR, .ref c.aS, .int 7 tw, .int deep td]) Q E s := by
  refine wpAny_call ?_
  have B := C.base
  have S := P.st
  obtain ⟨vs, n1, e1, y1⟩ := (S.r.S.all v.top (by simp)).rd
  obtain ⟨vs', n2, e2, y2⟩ := (S.r.S.all v.top (by simp)).st
  have hA : At h₀ s.heap [(c.aB, boxObj v.b0 v.b1 v.b2 v.t0 v.t1 v.t2 v.nB), (v.top.an, listOf vs.toArray n1), (v.top.an', listOf vs'.toArray n2)] := ⟨P.h0, fun q hq => by
    simp only [List.mem_cons, List.not_mem_nil, or_false] at hq
    rcases hq with rfl | rfl | rfl
    · exact ⟨S.o.gB, P.out _ (by lcg_sub)⟩
    · exact ⟨e1, P.out _ (by simp [wr])⟩
    · exact ⟨e2, P.out _ (by simp [wr])⟩⟩
  have X0 := Frag.In.keeps B.X hA.1
  obtain ⟨z1, z2, z3, z4, z5⟩ := top_off S.p.nd
  obtain ⟨a1, _, a3, a4, _, _, _, _, _, a10, a11, _, _, _, _, a16, _, _, _, _, _, _, _, a24, _⟩ := core_off (nd_core S.p.nd)
  have w1 := (z2 c.aB (by lcg_sub)).1
  have w2 := (z2 c.aB (by lcg_sub)).2.1
  have hl1 := y1.length
  have hl2 := y2.length
  have hsm := hs.2.1
  have hz1 : vs.length ≤ 16384 := by omega
  have hz2 : vs'.length ≤ 16384 := by omega
  ktr_enter
  intro g L h₁ m0 hm0 F N' X T st hlt kp
  have C' := C.keeps st
  have kq : ∀ {b : Addr} {o : Obj}, b ∈ core c → b ≠ c.aB → s.heap.get? b = some o → g.get? b = some o := fun {b o} hb n e => kp b o e (by
    simp only [List.map_cons, List.map_nil, List.mem_cons, List.not_mem_nil, or_false, not_or]
    exact ⟨n, (z2 b hb).1, (z2 b hb).2.1⟩)
  have gR := kq (by lcg_sub) a3 S.r.gR
  have gD := kq (by lcg_sub) a10 S.r.gD
  have gS := kq (by lcg_sub) a16 S.r.gS
  have dS := S.p.dS
  obtain ⟨nSS, eSS⟩ := S.r.T.l0
  have gSS : g.IsList c.aSS ((v.lo.map fun q => Value.ref q.tu) ++ [Value.ref v.top.tu]).toArray := by
    have := list_get (kq (by lcg_sub) (Ne.symm a24) eSS)
    rwa [List.map_append] at this
  have gtu : IsTup g v.top.tu [Value.bool v.top.cl, .ref v.top.an'].toArray := by
    obtain ⟨o, e, r⟩ := (S.r.S.all v.top (by simp)).tu
    refine ⟨o, kp _ _ e ?_, r⟩
    simp only [List.map_cons, List.map_nil, List.mem_cons, List.not_mem_nil, or_false, not_or]
    exact ⟨Ne.symm (z2 c.aB (by lcg_sub)).2.2, Ne.symm z4, Ne.symm z5⟩
  have hb1 : v.b1 < 10 ^ 16 := by have := hs.1; omega
  have hb00 := S.p.b0
  have hb01 := S.p.b0'
  have hb10 := S.p.b1
  have keepO : ∀ {h₂ : Heap} {m : Str → Option Value}, Fr g L h₂ m → ∀ b o, b ∉ [c.aB, v.top.an, v.top.an'] → s.heap.get? b = some o → h₂.get? b = some o := fun F2 b o nb e => F2.keep _ _ (kp b o e nb)
  clear hlt
  dsimp only
  k_unmd
  k_fold
  k_steps
  rename Fr _ _ _ _ => kF
  rename News _ _ _ _ => kN
  rename Heap => h3
  have gB := kN.get (a := c.aB) (o := boxObj _ _ _ _ _ _ _) (by k_mem)
  have S1 := S.grow (ys' := v.top.ys) (fun b o _ nb e => keepO kF b o nb e) (by with_reducible assumption) (by with_reducible assumption) (by with_reducible assumption) gB ⟨vs, n1, kN.get (by k_mem), y1⟩ ⟨vs', n2, kN.get (by k_mem), y2⟩
  refine declare_at (lo := v.lo) (c := v.top) (vs := vs) C ⟨fun b o e => kF.keep _ _ (st b o e), fun q hq => by
    simp only [List.mem_cons, List.not_mem_nil, or_false] at hq
    rcases hq with rfl | rfl | rfl
    · exact ⟨S1.r.gR, P.out _ (by lcg_sub)⟩
    · exact ⟨S1.r.gD, P.out _ (by lcg_sub)⟩
    · exact ⟨kN.get (by k_mem), P.out _ (by simp [wr])⟩⟩ (by
      simp only [List.nodup_cons, List.mem_cons, List.not_mem_nil, not_or, or_false, not_false_eq_true, List.nodup_nil, and_true]
      exact ⟨⟨a1, (z2 c.aR (by lcg_sub)).1, a4⟩, ⟨(z2 c.dR (by lcg_sub)).1, a11⟩, Ne.symm (z2 c.aSc (by lcg_sub)).1⟩) (by ktr_room) S1.r.S hz1 ?_ ?_
  · intro hk h' tk' kS
    have F2 := Fr.keeps kF kS
    have N2 := News.grown kN kS
    have S2 := S1.keeps kS
    clear kF kN kS
    k_steps
    rename Fr _ _ _ _ => kF
    rename News _ _ _ _ => kN
    refine lknown_at (sc := v.lo ++ [v.top]) (C'.keeps kF.keep).base (by ktr_room) (kF.keep _ _ gS) dS S2.r.T fun b h' tk' e kS2 => ?_
    rw [hk] at e
    subst e
    have F3 := Fr.keeps kF kS2
    have N3 := News.grown kN kS2
    clear kF kN kS2
    k_steps
    rename Fr _ _ _ _ => kF
    rename News _ _ _ _ => kN
    have gB := kN.get (a := c.aB) (o := boxObj _ _ _ _ _ _ _) (by k_mem)
    have S3 := S.grow (ys' := v.top.ys) (fun b o _ nb e => keepO kF b o nb e) (by with_reducible assumption) (by with_reducible assumption) (by with_reducible assumption) gB ⟨vs, n1, kN.get (by k_mem), y1⟩ ⟨vs', n2, kN.get (by k_mem), y2⟩
    exact h _ _ _ ⟨S3, ⟨rfl, ⟨v.top.ys, rfl, by omega⟩, by dsimp only; omega⟩, Up.of_keeps fun b o e nb => keepO kF b o (fun q => nb (by simp only [List.mem_cons, List.not_mem_nil, or_false] at q; rcases q with q | q | q <;> subst q <;> simp [wr, core])) e, P.dis, P.outM, P.outC⟩ ⟨fit.nd, fit.ba, fit.pl, fit.j⟩
  · intro hk n' t' h' tk' kK e'
    obtain ⟨F2, N2⟩ := upd_keep kF kN kK e' (by k_updF)
    (try dsimp only at N2)
    have S2 := sts_fake S1 (fun b o nb e => kK b o e (by simpa using nb))
    clear kF kN kK e'
    k_steps
    rename Fr _ _ _ _ => kF
    rename News _ _ _ _ => kN
    refine lknown_at (sc := v.lo ++ [{ v.top with an := v.top.an' }]) (C'.keeps kF.keep).base (by ktr_room) (kF.keep _ _ gS) dS S2 fun b h' tk' e kS2 => ?_
    rw [known_top, hk] at e
    subst e
    have F3 := Fr.keeps kF kS2
    have N3 := News.grown kN kS2
    clear kF kN kS2
    k_steps
    rename Fr _ _ _ _ => kF
    rename News _ _ _ _ => kN
    try rw [List.push_toArray] at kN
    have gB := kN.get (a := c.aB) (o := boxObj _ _ _ _ _ _ _) (by k_mem)
    have S3 := S.grow (ys' := v.top.ys ++ [_]) (fun b o _ nb e => keepO kF b o nb e) (by with_reducible assumption) (by with_reducible assumption) (by with_reducible assumption) gB ⟨_, _, kN.get (by k_mem), strs_snoc y1⟩ ⟨_, _, kN.get (by k_mem), strs_snoc y2⟩
    refine h _ _ _ ⟨S3, ⟨rfl, ⟨_, rfl, ?_⟩, ?_⟩, Up.of_keeps fun b o e nb => keepO kF b o (fun q => nb (by simp only [List.mem_cons, List.not_mem_nil, or_false] at q; rcases q with q | q | q <;> subst q <;> simp [wr, core])) e, fun b hb q => P.dis b hb ?_, P.outM, P.outC⟩ ⟨fit.nd, fit.ba, fit.pl, fit.j⟩
    · rw [List.length_append, List.length_cons, List.length_nil]; omega
    · dsimp only; omega
    · rw [adrs, scAd_sc] at q ⊢; exact q
end

section
variable {prog : Program} {w : World} {p : Program} {loose : List Str} {mean : ExcName → Option Value} {mg mb : Str → Option Value} {row : List Tok0} {aRow : Addr} {ts rs : List Addr}
  {dp un : Nat} {fr : Option (List Env)} {gd : Option (List Code)} {s : Shared} {Q E : Value → Shared → Prop} {h₀ : Heap}
  {aR dR aT aSc aCl aS aM aSS aB : Addr} {kt : Nat → Tok} {tb last : Value} {pl j : Nat} {tp tq : Tok} {nd ba : Bool} {n nM : Nat} {oS : Obj} {sc : List Sc}
theorem inner2_at {its : List Value} {cls : List Value} {vs : List Value} {aN : Addr} {n1 n2 n3 : Nat} (B : Base w p loose mean mg mb h₀) (hA : At h₀ s.heap [(aR, instObj 188 dR), (dR, rdDict w kt aT tb pl tp last aSc aCl nd ba n), (aSc, listOf its.toArray n1), (aCl, listOf cls.toArray n2), (aN, listOf vs.toArray n3)]) (hnd : [aR, dR, aSc, aCl, aN].Nodup) (hz1 : its.length ≤ 16384) (hz2 : cls.length ≤ 16384) (hz3 : vs.length ≤ 16384) (hr : dp + 4 < recursionLimit)
    (h : ∀ D n1' n2' n3' h' tk', s.heap.get? D = none → aR < D ∧ dR < D ∧ aSc < D ∧ aCl < D ∧ aN < D → KeepsBut [aSc, aCl] s.heap h' → h'.get? aSc = some (listOf (its ++ [Value.ref D]).toArray n1') → h'.get? aCl = some (listOf (cls ++ [Value.bool false]).toArray n2') → h'.get? D = some (listOf vs.toArray n3') → Q .none { s with heap := h', toks := tk' }) :
    wpAny (model prog w) (ar dp un fr gd) (call (.ref 150) [.ref aR, .ref aN]) Q E s := by
  refine wpAny_call ?_
  have X0 := Frag.In.keeps B.X hA.1
  simp only [List.nodup_cons, List.mem_cons, List.not_mem_nil, not_or, or_false, not_false_eq_true, List.nodup_nil, and_true] at hnd
  obtain ⟨⟨q1, q2, q3, q4⟩, ⟨q5, q6, q7⟩, ⟨q8, q9⟩, q10⟩ := hnd
  ktr_enter
  intro g L h₁ m0 hm0 F N' X T st hlt kp
  dsimp only
  k_unmd
  k_fold
  k_steps
  rename Fr _ _ _ _ => kF
  rename News _ _ _ _ => kN
  try rw [List.push_toArray, List.push_toArray] at kN
  refine h _ _ _ _ _ _ (fresh_but kp (kN _ (.head _)).2.2 (fun q => all5 (P := fun b => b < _) (by lcg_src) (by lcg_src) (by lcg_src) (by lcg_src) (by lcg_src) _ q |> Nat.lt_irrefl _)) ⟨by lcg_src, by lcg_src, by lcg_src, by lcg_src, by lcg_src⟩ (fun b o e nb => ?_) (News.get kN (.tail _ (.tail _ (.tail _ (.head _))))) (News.get kN (.tail _ (.tail _ (.tail _ (.tail _ (.head _)))))) (News.get kN (.head _))
  simp only [List.mem_cons, List.not_mem_nil, or_false, not_or] at nb
  by_cases z : b = aR
  · subst z; rw [(hA.2 _ (.head _)).1] at e; cases e; exact News.get kN (.tail _ (.head _))
  · by_cases z2 : b = dR
    · subst z2; rw [(hA.2 _ (.tail _ (.head _))).1] at e; cases e; exact News.get kN (.tail _ (.tail _ (.head _)))
    · by_cases z3 : b = aN
      · subst z3; rw [(hA.2 _ (.tail _ (.tail _ (.tail _ (.tail _ (.head _)))))).1] at e; cases e; exact News.get kN (.tail _ (.tail _ (.tail _ (.tail _ (.tail _ (.head _))))))
      · exact kF.keep _ _ (kp b o e (by simp; exact ⟨z, z2, nb.1, nb.2, z3⟩))
end
section
variable {prog : Program} {w : World} {c : Co} {v : Va} {h h' : Heap}
theorem fr_but {g : Heap} {L : Addr} {m : Str → Option Value} {as : List Addr} (F : Fr g L h m) (k : KeepsBut as h h') (hg : ∀ a ∈ as, g.get? a = none ∧ a ≠ L) : Fr g L h' m :=
  ⟨F.ns.at' fun o e => k _ _ e (fun q => (hg L q).2 rfl), fun b o e => k _ _ (F.keep _ _ e) (fun q => by rw [(hg b q).1] at e; cases e), F.above⟩
/-- a scope more -/
theorem StA.pushS {q : Sc} {b0' b1' : Int} {t0' t1' t2' : Tok} {nB' : Nat} (x : StA prog w c v h) (k : ∀ b o, b ∈ adrs c v ∨ b ∈ v.cod.map (·.1) → b ∉ [c.aB, c.aSc, c.aCl, c.aSS] → h.get? b = some o → h'.get? b = some o)
    (p0 : 0 ≤ b0') (p1 : b0' < 10 ^ 90) (p2 : 0 ≤ b1') (eB : h'.get? c.aB = some (boxObj b0' b1' v.b2 t0' t1' t2' nB'))
    (eSc : ∃ n, h'.get? c.aSc = some (listOf ((v.sc.map fun (c : Sc) => Value.ref c.an) ++ [Value.ref q.an]).toArray n)) (eCl : ∃ n, h'.get? c.aCl = some (listOf ((v.sc.map fun (c : Sc) => Value.bool c.cl) ++ [Value.bool q.cl]).toArray n)) (eSS : ∃ n, h'.get? c.aSS = some (listOf ((v.sc.map fun (c : Sc) => Value.ref c.tu) ++ [Value.ref q.tu]).toArray n))
    (hq : ScAt h' q) (fresh : ∀ b ∈ [q.an, q.an', q.tu], h.get? b = none) (nq : [q.an, q.an', q.tu].Nodup) (few : v.sc.length + 1 ≤ 100) :
    StA prog w c { v with b0 := b0', b1 := b1', t0 := t0', t1 := t1', t2 := t2', nB := nB', lo := v.lo ++ [v.top], top := q } h' := by
  have nd := x.p.nd
  have O := core_off (nd_core nd)
  have k4 : ∀ b ∈ v.aM :: scAd v.sc, b ∉ [c.aB, c.aSc, c.aCl, c.aSS] := fun b hb => not4 (nd_off nd hb _ mc4).symm (nd_off nd hb _ mc5).symm (nd_off nd hb _ mc6).symm (nd_off nd hb _ mc7).symm
  have ks : ∀ q ∈ v.sc, ScAt h q → ScAt h' q := fun q hq y => y.move fun b o hb e => k b o (.inl (mcs (scAd_mem hq hb))) (k4 b (.tail _ (scAd_mem hq hb))) e
  have hfr : ∀ b ∈ [q.an, q.an', q.tu], b ∉ adrs c v := fun b hb z => by
    obtain ⟨o, e⟩ := x.has z
    rw [fresh b hb] at e; cases e
  have hadr : adrs c { v with b0 := b0', b1 := b1', t0 := t0', t1 := t1', t2 := t2', nB := nB', lo := v.lo ++ [v.top], top := q } = adrs c v ++ [q.an, q.an', q.tu] := by
    simp only [adrs, scAd_sc, scAd, List.flatMap_append, List.flatMap_cons, List.flatMap_nil, List.append_nil, List.append_assoc, List.cons_append, List.nil_append]
  have ka : ∀ z ∈ v.lo ++ [v.top] ++ [q], ScAt h' z := fun z hz => by
    rcases List.mem_append.mp hz with hz | hz
    · exact ks z hz (x.r.S.all z hz)
    · rcases List.mem_singleton.mp hz with rfl; exact hq
  refine ⟨⟨k _ _ (.inl (mca mc1)) (not4 O.x3 O.x4 O.x5 O.x6) x.r.gR, k _ _ (.inl (mca mc2)) (not4 O.x10 O.x11 O.x12 O.x13) x.r.gD, k _ _ (.inl (mca mc3)) (not4 O.x16 O.x17 O.x18 O.x19) x.r.gS, ⟨?_, ?_, ka, ?_, ?_⟩, ⟨?_, ka, ?_⟩, k _ _ (.inl (mca mc8)) (not4 (Ne.symm O.x25) (Ne.symm O.x29) (Ne.symm O.x32) (Ne.symm O.x34)) x.r.p3, k _ _ (.inl (mca mc9)) (not4 (Ne.symm O.x26) (Ne.symm O.x30) (Ne.symm O.x33) (Ne.symm O.x35)) x.r.p4⟩, ⟨eB, k _ _ (.inl mcM) (k4 _ (.head _)) x.o.gM, fun z hz => ?_⟩,
    ⟨x.p.dS, p0, p1, p2, x.p.tr3, x.p.tr4, x.p.c3, x.p.c4, x.p.c5, ?_, ?_, x.p.cd2⟩⟩
  · simp only [Va.sc, List.map_append, List.map_cons, List.map_nil] at eSc ⊢; exact eSc
  · simp only [Va.sc, List.map_append, List.map_cons, List.map_nil] at eCl ⊢; exact eCl
  · simp only [Va.sc, List.length_append, List.length_cons, List.length_nil] at few ⊢; exact few
  · obtain ⟨d, hd, e⟩ := x.r.S.bot
    refine ⟨d, ?_, e⟩
    show (v.lo ++ [v.top] ++ [q])[0]? = some d
    rw [List.getElem?_append_left (by simp)]
    exact hd
  · simp only [Va.sc, List.map_append, List.map_cons, List.map_nil] at eSS ⊢; exact eSS
  · simp only [Va.sc, List.length_append, List.length_cons, List.length_nil] at few ⊢; exact few
  · refine k _ _ (.inr (List.mem_map_of_mem hz)) (fun q => x.p.nc z hz (all4 (P := fun b => b ∈ adrs c v) (mca mc4) (mca mc5) (mca mc6) (mca mc7) _ q)) (x.o.gC z hz)
  · rw [hadr]
    exact List.nodup_append.mpr ⟨nd, nq, fun a ha b hb e => hfr b hb (e ▸ ha)⟩
  · intro z hz q1
    rw [hadr] at q1
    rcases List.mem_append.mp q1 with q1 | q1
    · exact x.p.nc z hz q1
    · have := x.o.gC z hz
      rw [fresh _ q1] at this; cases this
/-- a scope less -/
theorem StA.popS {lo : List Sc} {top : Sc} (x : StA prog w c v h) (hlo : v.lo = lo ++ [top]) (k : ∀ b o, b ∈ core c ++ v.aM :: scAd (lo ++ [top]) ∨ b ∈ v.cod.map (·.1) → b ∉ [c.aSc, c.aCl, c.aSS] → h.get? b = some o → h'.get? b = some o)
    (eSc : ∃ n, h'.get? c.aSc = some (listOf ((lo ++ [top]).map fun c => Value.ref c.an).toArray n)) (eCl : ∃ n, h'.get? c.aCl = some (listOf ((lo ++ [top]).map fun c => Value.bool c.cl).toArray n)) (eSS : ∃ n, h'.get? c.aSS = some (listOf ((lo ++ [top]).map fun c => Value.ref c.tu).toArray n)) :
    StA prog w c { v with lo := lo, top := top } h' := by
  have nd := x.p.nd
  have O := core_off (nd_core nd)
  have k4 : ∀ b ∈ v.aM :: scAd v.sc, b ∉ [c.aSc, c.aCl, c.aSS] := fun b hb => not3 (nd_off nd hb _ mc5).symm (nd_off nd hb _ mc6).symm (nd_off nd hb _ mc7).symm
  have kc : ∀ {b}, b ∈ core c → b ∉ [c.aSc, c.aCl, c.aSS] → ∀ {o}, h.get? b = some o → h'.get? b = some o := fun {_} m n {_} e => k _ _ (.inl (List.mem_append_left _ m)) n e
  have hsc : v.sc = lo ++ [top] ++ [v.top] := by rw [Va.sc, hlo]
  have ks : ∀ q ∈ lo ++ [top], ScAt h' q := fun q hq => by
    have hq2 : q ∈ v.sc := by rw [hsc]; exact List.mem_append_left _ hq
    exact (x.r.S.all q hq2).move fun b o hb e => k b o (.inl (List.mem_append_right _ (.tail _ (scAd_mem hq hb)))) (k4 b (.tail _ (scAd_mem hq2 hb))) e
  have few := x.r.S.few
  rw [hsc, List.length_append, List.length_cons, List.length_nil] at few
  have hadr : adrs c v = adrs c { v with lo := lo, top := top } ++ [v.top.an, v.top.an', v.top.tu] := by
    rw [adrs, scAd_sc, hlo]
    simp only [adrs, scAd_sc, scAd, List.flatMap_append, List.flatMap_cons, List.flatMap_nil, List.append_nil, List.append_assoc, List.cons_append, List.nil_append]
  refine ⟨⟨kc mc1 (not3 O.x4 O.x5 O.x6) x.r.gR, kc mc2 (not3 O.x11 O.x12 O.x13) x.r.gD, kc mc3 (not3 O.x17 O.x18 O.x19) x.r.gS, ⟨eSc, eCl, ks, ?_, ?_⟩, ⟨eSS, ks, ?_⟩, kc mc8 (not3 (Ne.symm O.x29) (Ne.symm O.x32) (Ne.symm O.x34)) x.r.p3, kc mc9 (not3 (Ne.symm O.x30) (Ne.symm O.x33) (Ne.symm O.x35)) x.r.p4⟩, ⟨kc mc4 (not3 O.x22 O.x23 O.x24) x.o.gB, k _ _ (.inl (List.mem_append_right _ (.head _))) (k4 _ (.head _)) x.o.gM, fun z hz => ?_⟩,
    ⟨x.p.dS, x.p.b0, x.p.b0', x.p.b1, x.p.tr3, x.p.tr4, x.p.c3, x.p.c4, x.p.c5, ?_, ?_, x.p.cd2⟩⟩
  · exact Nat.le_of_succ_le few
  · obtain ⟨d, hd, e⟩ := x.r.S.bot
    refine ⟨d, ?_, e⟩
    rw [hsc, List.getElem?_append_left (by simp)] at hd
    exact hd
  · exact Nat.le_of_succ_le few
  · refine k _ _ (.inr (List.mem_map_of_mem hz)) (fun q => x.p.nc z hz (all3 (P := fun b => b ∈ adrs c v) (mca mc5) (mca mc6) (mca mc7) _ q)) (x.o.gC z hz)
  · rw [hadr] at nd; exact (List.nodup_append.mp nd).1
  · intro z hz q1
    exact x.p.nc z hz (by rw [hadr]; exact List.mem_append_left _ q1)
end
section
variable {prog : Program} {w : World} {A : Around} {E : Value → Shared → Prop} {s : Shared} {D D1 D2 D3 : Addr} {u : Tok} {d : Nat} {Q : Value → Shared → Prop} {value slice : Expr}
theorem item3L {P : Addr → Prop} (hl : s.heap.IsList D [.ref D1, .ref D2, .ref D3].toArray) (h1 : (d : Int) < 3) (p1 : P D1) (p2 : P D2) (p3 : P D3) (h : ∀ a, P a → Q (.ref a) s)
    (hs : subscripted slice false (.ref D) (.int d u) = operate [.ref D, .int d u] (getItem (.ref D) (.int d u)) := by with_unfolding_all rfl) :
    wpAny (model prog w) A (subscriptTail value slice (.ref D) (.int d u)) Q E s := by
  have hd : d < 3 := by omega
  match d, hd with
  | 0, _ => exact item_at hl (by decide) (by decide) rfl (h _ p1) hs
  | 1, _ => exact item_at hl (by decide) (by decide) rfl (h _ p2) hs
  | 2, _ => exact item_at hl (by decide) (by decide) rfl (h _ p3) hs
end
local macro_rules | `(tactic| walk_at "subscriptTail") => row [tSh (ap `subscriptTail [(ap `PySem.Expr.List [b_, b_]), b_, (ap `Value.ref [b_]), (ap `Value.int [b_, b_])]), tStop]
theorem need_ge' : ∀ d, 100 ≤ need d
  | 0 => Nat.le_refl _
  | d + 1 => Nat.le_trans (need_ge' d) (Nat.le_add_right _ _)
section
variable {h₀ h : Heap} {L a : Addr} {o : Obj} {r : List (Addr × Obj)} {x1 x2 x3 x4 x5 : Addr × Obj}
theorem news_drop5 (N : News h₀ L h (x1 :: x2 :: x3 :: x4 :: x5 :: r)) : News h₀ L h r := fun q hq => N q (.tail _ (.tail _ (.tail _ (.tail _ (.tail _ hq)))))
theorem news_put (N : News h₀ L h r) (e : h.get? a = some o) (n : a ≠ L) (z : h₀.get? a = none) : News h₀ L h ((a, o) :: r) := fun q hq => by
  rcases List.mem_cons.mp hq with rfl | hq
  · exact ⟨e, n, z⟩
  · exact N q hq
theorem gone_of {h₀ h : Heap} {a : Addr} (k : h₀.StaysIn h) (e : h.get? a = none) : h₀.get? a = none := by
  cases q : h₀.get? a with
  | none => rfl
  | some o => rw [k _ _ q] at e; cases e
theorem fresh_ne {h : Heap} {a b : Addr} {o : Obj} (e : h.get? a = none) (q : h.get? b = some o) : a ≠ b := fun z => by rw [z, q] at e; cases e
theorem fr_get {g h : Heap} {m : Str → Option Value} (F : Fr g L h m) : ∃ o, h.get? L = some o := by obtain ⟨o, _, _, e, _⟩ := F.ns; exact ⟨o, e⟩
end
section
variable {prog : Program} {w : World} {c : Co} {v v' : Va} {h h' h₀ : Heap} {l : List Env}
theorem adrs_push {q : Sc} {b0' b1' : Int} {t0' t1' t2' : Tok} {nB' : Nat} : adrs c { v with b0 := b0', b1 := b1', t0 := t0', t1 := t1', t2 := t2', nB := nB', lo := v.lo ++ [v.top], top := q } = adrs c v ++ [q.an, q.an', q.tu] := by
  simp only [adrs, scAd, List.flatMap_append, List.flatMap_cons, List.flatMap_nil, List.append_nil, List.append_assoc, List.cons_append, List.nil_append]
theorem adrs_pop {lo : List Sc} {top : Sc} (hlo : v.lo = lo ++ [top]) : adrs c v = adrs c { v with lo := lo, top := top } ++ [v.top.an, v.top.an', v.top.tu] := by
  rw [adrs, scAd_sc, hlo]
  simp only [adrs, scAd, List.flatMap_append, List.flatMap_cons, List.flatMap_nil, List.append_nil, List.append_assoc, List.cons_append, List.nil_append]
theorem Pre.pushS {q : Sc} {b0' b1' : Int} {t0' t1' t2' : Tok} {nB' : Nat} {g h6 : Heap} {L : Addr} {m : Str → Option Value} {env : Env} (P : Pre prog w h₀ c v l h)
    (S6 : StA prog w c { v with b0 := b0', b1 := b1', t0 := t0', t1 := t1', t2 := t2', nB := nB', lo := v.lo ++ [v.top], top := q } h6) (F : Fr g L h6 m) (st : h₀.StaysIn g) (hlg : g.FunFrames h₀ l)
    (hf : env.frame = some L) (hk : env.scope.kind ≠ .module) (lt : ∀ b o, h.get? b = some o → b < L) (fresh : ∀ b ∈ [q.an, q.an', q.tu], h.get? b = none ∧ b ≠ L) :
    Pre prog w h₀ c { v with b0 := b0', b1 := b1', t0 := t0', t1 := t1', t2 := t2', nB := nB', lo := v.lo ++ [v.top], top := q } (env :: l) h6 where
  st := S6
  h0 := fun b o e => F.keep _ _ (st b o e)
  out := fun a ha => by
    simp only [wr, List.mem_append, List.mem_cons, List.not_mem_nil, or_false] at ha
    rcases ha with ha | ha | ha
    · exact P.out a (by simp [wr, ha])
    · exact gone_of P.h0 (ha ▸ (fresh _ (by simp)).1)
    · exact gone_of P.h0 (ha ▸ (fresh _ (by simp)).1)
  outM := P.outM
  outC := P.outC
  hl := frames_pushE F hlg st hf hk
  dis := fun b hb q1 => by
    rw [adrs_push] at q1
    rw [fa_cons hf] at hb
    rcases List.mem_cons.mp hb with hb | hb
    · subst hb
      rcases List.mem_append.mp q1 with q1 | q1
      · obtain ⟨o, e⟩ := P.st.has q1
        exact absurd (lt _ _ e) (Nat.lt_irrefl _)
      · exact (fresh _ q1).2 rfl
    · rcases List.mem_append.mp q1 with q1 | q1
      · exact P.dis b hb q1
      · obtain ⟨_, o, e, _⟩ := P.hl.mem hb
        rw [(fresh _ q1).1] at e; cases e
theorem news_but {g : Heap} {L : Addr} {as : List Addr} {r : List (Addr × Obj)} (N : News g L h r) (k : KeepsBut as h h') (n : ∀ q ∈ r, q.1 ∉ as) : News g L h' r := fun q hq => ⟨k _ _ (N q hq).1 (n q hq), (N q hq).2⟩
theorem news_tail {g : Heap} {L : Addr} {x : Addr × Obj} {r : List (Addr × Obj)} (N : News g L h (x :: r)) : News g L h r := fun q hq => N q (.tail _ hq)
theorem seg_end2 {g2 hE : Heap} {L : Addr} {m : Str → Option Value} {extra newsE : List (Addr × Obj)} {wsE : List Addr} (st : h₀.StaysIn g2) (S : StA prog w c v' h') (P2 : h₀.StaysIn h')
    (low : ∀ b o, b < L → b ∉ extra.map (·.1) → b ≠ v'.aM → b ∉ v'.cod.map (·.1) → h'.get? b = some o → g2.get? b = some o) (F : Fr g2 L hE m) (N : News g2 L hE newsE) (hx : ∀ q ∈ extra, q.1 ∈ wsE ∨ (q ∈ newsE ∧ h'.get? q.1 = some q.2))
    (hM : mk v' ∈ newsE) (hC : ∀ z ∈ codF h₀ v'.cod, z ∈ newsE) : ∀ b o, (b < L ∨ b = v'.aM ∨ b ∈ v'.cod.map (·.1)) → b ∉ wsE → h'.get? b = some o → hE.get? b = some o := fun b o hb nb e => by
  by_cases q1 : b ∈ v'.cod.map (·.1)
  · obtain ⟨z, hz, rfl⟩ := List.mem_map.mp q1
    rw [S.o.gC z hz] at e; cases e
    cases q : h₀.get? z.1 with
    | none => exact N.get (hC z (codF_mem.mpr ⟨hz, q⟩))
    | some o1 =>
      have e1 := P2 _ _ q
      rw [S.o.gC z hz] at e1; cases e1
      exact F.keep _ _ (st _ _ q)
  · by_cases q2 : b = v'.aM
    · subst q2
      rw [S.o.gM] at e; cases e
      exact N.get hM
    · by_cases q3 : b ∈ extra.map (·.1)
      · obtain ⟨z, hz, rfl⟩ := List.mem_map.mp q3
        rcases hx z hz with h1 | ⟨h1, h2⟩
        · exact absurd h1 nb
        · rw [h2] at e; cases e; exact N.get h1
      · refine F.keep _ _ (low b o ?_ q3 q2 q1 e)
        rcases hb with hb | hb | hb
        · exact hb
        · exact absurd hb q2
        · exact absurd hb q1
end
/-- the walk stops at an if whose test is a name, where this stands among the facts -/
noncomputable def StopIf : Prop := True
theorem stop_if {P : Prop} (_X : StopIf) (h : Stop P) : P := h
local macro_rules | `(tactic| walk_at "exec If") => row [tSh (ap `exec [(ap `Stmt.If [(ap `PySem.Expr.Name [b_, b_]), b_, b_, b_]), b_]), tRef `stop_if [bW, bH]]

section
variable {prog : Program} {w : World} {p : Program} {loose : List Str} {mean : ExcName → Option Value} {mg mb : Str → Option Value} {c : Co} {v : Va}
  {dp un : Nat} {l : List Env} {gd : Option (List Code)} {s : Shared} {Q E : Value → Shared → Prop} {h₀ : Heap}
theorem scoped8_at {d : Nat} {deep : Int} {tw td : Tok} (C : Cx w p loose mean mg mb c.row c.aT c.aRow c.ts c.rs h₀) (IH : DeedsOk prog w h₀ c d) (hr : dp + need d + 50 < recursionLimit) (hu : un + 10 * need d + 500 < cLine) (hdp : deep = (d : Int) + 1)
    (P : Pre prog w h₀ c v l s.heap) (fit : Fit v) (hs : Small v (d + 1) (cost d + 5))
    (h : ∀ h' v' tk', Post prog w h₀ c v [] (cost d + 5) (fa l) s.heap h' v' → Fit v' → Q (.bool true) { s with heap := h', toks := tk' }) :
    wpAny (model prog w) (ar dp un (some l) gd) (call (.ref 312) [.ref c.aB, .ref c.aR, .ref c.aS, .int 8 tw, .int deep td]) Q E s := by
  refine wpAny_call ?_
  have hr0 : dp + 50 < recursionLimit := by omega
  have hu0 : un + 500 < cLine := by omega
  have B := C.base
  have S := P.st
  obtain ⟨nSc, eSc⟩ := S.r.S.l0
  obtain ⟨nCl, eCl⟩ := S.r.S.c0
  obtain ⟨nSS, eSS⟩ := S.r.T.l0
  have hA : At h₀ s.heap [(c.aB, boxObj v.b0 v.b1 v.b2 v.t0 v.t1 v.t2 v.nB), (c.aSc, listOf (v.sc.map fun c => Value.ref c.an).toArray nSc), (c.aCl, listOf (v.sc.map fun c => Value.bool c.cl).toArray nCl), (c.aSS, listOf (v.sc.map fun c => Value.ref c.tu).toArray nSS)] :=
    ⟨P.h0, all4 ⟨S.o.gB, P.out _ (mcw mc4)⟩ ⟨eSc, P.out _ (mcw mc5)⟩ ⟨eCl, P.out _ (mcw mc6)⟩ ⟨eSS, P.out _ (mcw mc7)⟩⟩
  have X0 := Frag.In.keeps B.X hA.1
  obtain ⟨a1, _, a3, a4, a5, a6, _, _, _, a10, a11, a12, a13, _, _, a16, a17, a18, a19, _, _, a22, a23, a24, _, _, a27, a28, _, _, a31, _⟩ := core_off (nd_core S.p.nd)
  have few : v.sc.length ≤ 60 := by have := hs.2.2; simp only [Va.sc, List.length_append, List.length_cons, List.length_nil]; omega
  have hz1 : (v.sc.map fun c => Value.ref c.an).length ≤ 16384 := by rw [List.length_map]; omega
  have hz2 : (v.sc.map fun c => Value.bool c.cl).length ≤ 16384 := by rw [List.length_map]; omega
  have hz3 : (v.sc.map fun c => Value.ref c.tu).length ≤ 16384 := by rw [List.length_map]; omega
  have nge := need_ge' d
  ktr_enter
  intro g L h₁ m0 hm0 F N' X T st hlt kp
  have C' := C.keeps st
  have lt := ent_lt hlt kp F
  have kq : ∀ {b : Addr} {o : Obj}, b ∉ [c.aB, c.aSc, c.aCl, c.aSS] → s.heap.get? b = some o → g.get? b = some o := fun {b o} n e => kp b o e n
  have gR := kq (not4 a3 a4 a5 a6) S.r.gR
  have gD := kq (not4 a10 a11 a12 a13) S.r.gD
  have gS := kq (not4 a16 a17 a18 a19) S.r.gS
  have dS := S.p.dS
  have hb1 : v.b1 < 10 ^ 16 := by have := hs.1; omega
  have hb00 := S.p.b0
  have hb01 := S.p.b0'
  have hb10 := S.p.b1
  clear hlt
  dsimp only
  k_unmd
  k_fold
  k_steps
  rename Fr _ _ _ _ => kF
  rename News _ _ _ _ => kN
  rename_i h3 _ _ _ _ _ _ _
  refine item3L (P := fun a => ∃ vs n ys, h3.get? a = some (listOf (List.toArray vs) n) ∧ a ≠ L ∧ g.get? a = none ∧ StrsAre vs ys ∧ vs.length ≤ 2 ∧ c.aB < a ∧ c.aSc < a ∧ c.aCl < a ∧ c.aSS < a) (list_news kN (by k_mem)) (by with_reducible assumption)
    ⟨[], _, [], (kN _ (.tail _ (.tail _ (.tail _ (.head _))))).1, (kN _ (.tail _ (.tail _ (.tail _ (.head _))))).2.1, (kN _ (.tail _ (.tail _ (.tail _ (.head _))))).2.2, .nil, Nat.le_of_ble_eq_true rfl, by lcg_src, by lcg_src, by lcg_src, by lcg_src⟩
    ⟨[_], _, [_], (kN _ (.tail _ (.tail _ (.head _)))).1, (kN _ (.tail _ (.tail _ (.head _)))).2.1, (kN _ (.tail _ (.tail _ (.head _)))).2.2, .cons _ _ .nil, Nat.le_of_ble_eq_true rfl, by lcg_src, by lcg_src, by lcg_src, by lcg_src⟩
    ⟨[_, _], _, [_, _], (kN _ (.tail _ (.head _))).1, (kN _ (.tail _ (.head _))).2.1, (kN _ (.tail _ (.head _))).2.2, .cons _ _ (.cons _ _ .nil), Nat.le_of_ble_eq_true rfl, by lcg_src, by lcg_src, by lcg_src, by lcg_src⟩ fun aN hN => ?_
  obtain ⟨vs, nN, ys, g1, g2, g3, g4, g5, l1, l2, l3, l4⟩ := hN
  have N3 := news_put (news_drop5 kN) g1 g2 g3
  clear kN
  have hzN : vs.length ≤ 16384 := by omega
  rename_i dd _ _ _ _ _ _ _ _ _ _ _ _ _ _ _ _ _ _ _ _ _ _ _ _ _ _ _ _ _ _ _ _ _ _ _ _ _ _ _ _ _
  generalize ((dd : Int) == 1) = bb at kF
  have stopIf : StopIf := trivial
  k_steps
  rename Fr _ _ _ _ => kF
  rename News _ _ _ _ => kN
  rename Heap => h3'
  obtain ⟨m5, e5, kF⟩ := name2 (P := fun m => Fr g L h3' m) kF
  obtain ⟨bx, e9, kN⟩ := name2 (P := fun o : Obj => News g L h3' [(aN, listOf vs.toArray nN), (c.aB, o), (c.aSc, listOf (v.sc.map fun c => Value.ref c.an).toArray nSc), (c.aCl, listOf (v.sc.map fun c => Value.bool c.cl).toArray nCl), (c.aSS, listOf (v.sc.map fun c => Value.ref c.tu).toArray nSS)]) kN
  clear stopIf
  obtain ⟨R, hR0⟩ : ∃ R : Flow → Shared → Prop, R = (fun fl s' => fl = Flow.next ∧ ∃ D n1' n2' n3' h5 tk5, s' = { s with heap := h5, toks := tk5 } ∧ Fr g L h5 m5 ∧
    News g L h5 [(D, listOf vs.toArray n3'), (c.aSS, listOf (v.sc.map fun c => Value.ref c.tu).toArray nSS), (c.aCl, listOf ((v.sc.map fun c => Value.bool c.cl) ++ [Value.bool bb]).toArray n2'), (c.aSc, listOf ((v.sc.map fun c => Value.ref c.an) ++ [Value.ref D]).toArray n1'), (c.aB, bx), (aN, listOf vs.toArray nN)] ∧
    c.aSc < D ∧ c.aCl < D ∧ aN < D ∧ c.aB ≠ D ∧ c.aSS ≠ D) := ⟨_, rfl⟩
  refine wpAny_mono (Q := R) ?_ (fun fl s' hR => ?_) (fun _ _ x => x)
  · subst e5 e9
    k_steps
    all_goals (
      rename Fr _ _ _ _ => kF
      rename News _ _ _ _ => kN
      rename Heap => h4
      have hin : At h₀ h4 [(c.aR, instObj 188 c.dR), (c.dR, rdDict w c.kt c.aT v.tb v.pl v.tp (.ref (adr c.ts v.j)) c.aSc c.aCl v.nd v.ba c.n), (c.aSc, listOf (v.sc.map fun c => Value.ref c.an).toArray nSc), (c.aCl, listOf (v.sc.map fun c => Value.bool c.cl).toArray nCl), (aN, listOf vs.toArray nN)] := ⟨fun b o e => kF.keep _ _ (st b o e),
        all5 ⟨kF.keep _ _ gR, P.out _ (by lcg_sub)⟩ ⟨kF.keep _ _ gD, P.out _ (by lcg_sub)⟩ ⟨kN.get (by k_mem), P.out _ (by lcg_sub)⟩ ⟨kN.get (by k_mem), P.out _ (by lcg_sub)⟩ ⟨kN.get (by k_mem), gone_of st g3⟩⟩
      have hnd : [c.aR, c.dR, c.aSc, c.aCl, aN].Nodup := by
        simp only [List.nodup_cons, List.mem_cons, List.not_mem_nil, not_or, or_false, not_false_eq_true, List.nodup_nil, and_true]
        exact ⟨⟨a1, a4, a5, (fresh_ne g3 gR).symm⟩, ⟨a11, a12, (fresh_ne g3 gD).symm⟩, ⟨a27, Nat.ne_of_lt l2⟩, Nat.ne_of_lt l3⟩
      have gAB := kN.get (a := c.aB) (o := boxObj _ _ _ _ _ _ _) (by k_mem)
      have gSS := kN.get (a := c.aSS) (o := listOf _ _) (by k_mem)
      have gN := kN.get (a := aN) (o := listOf vs.toArray nN) (by k_mem)
      first
        | refine inner_at B hin hnd hz1 hz2 hzN (by ktr_room) ?_
        | refine inner2_at B hin hnd hz1 hz2 hzN (by ktr_room) ?_
      intro D n1' n2' n3' h5 tk5 hD hlt5 kK eSc5 eCl5 eD5
      dsimp only at hD kK
      obtain ⟨u1, u2, u3, u4, u5⟩ := hlt5
      have kSc := kN _ (by k_mem : (c.aSc, listOf (v.sc.map fun c => Value.ref c.an).toArray nSc) ∈ _)
      have kCl := kN _ (by k_mem : (c.aCl, listOf (v.sc.map fun c => Value.bool c.cl).toArray nCl) ∈ _)
      have kSS := kN _ (by k_mem : (c.aSS, listOf (v.sc.map fun c => Value.ref c.tu).toArray nSS) ∈ _)
      have kAB := kN _ (by k_mem : (c.aB, boxObj _ _ _ _ _ _ _) ∈ _)
      have u6 := (fresh_ne hD gAB).symm
      have u7 := (fresh_ne hD gSS).symm
      have DL : D ≠ L := by obtain ⟨oL, eL⟩ := fr_get kF; exact fresh_ne hD eL
      have F5 := fr_but kF kK (fm ⟨kSc.2.2, kSc.2.1⟩ (all1 ⟨kCl.2.2, kCl.2.1⟩))
      have N5 := news_put (news_put (news_put (news_put (news_put (news_put (h₀ := g) (L := L) News.nil (kK _ _ gN (not2 (Nat.ne_of_gt l2) (Nat.ne_of_gt l3))) g2 g3) (kK _ _ gAB (not2 (a22) (a23))) kAB.2.1 kAB.2.2) eSc5 kSc.2.1 kSc.2.2) eCl5 kCl.2.1 kCl.2.2) (kK _ _ gSS (not2 (Ne.symm a28) (Ne.symm a31))) kSS.2.1 kSS.2.2) eD5 DL (gone_of kF.keep hD)
      rename bb = _ => e8
      subst e8
      clear kF
      k_steps
      rw [hR0]
      exact ⟨rfl, D, _, _, _, _, _, rfl, F5, N5, u3, u4, u5, u6, u7⟩)
  · rw [hR0] at hR
    obtain ⟨rfl, D, n1', n2', n3', h5, tk5, rfl, F5, N5, u3, u4, u5, u6, u7⟩ := hR
    have DL : D ≠ L := (N5 _ (.head _)).2.1
    subst e5 e9
    clear kF kN
    k_steps
    rename Fr _ _ _ _ => kF
    rename News _ _ _ _ => kN
    try rw [List.push_toArray] at kN
    rename_i h6
    rename_i Tu _ _
    obtain ⟨Ns, e9, -⟩ := name2 (P := fun D : Addr => News g L h6 (_ :: (D, _) :: _)) kN
    subst e9
    have DN : D < Ns := by lcg_src
    have DT : D < Tu := by lcg_src
    have NT : Ns < Tu := by lcg_src
    have nmu : ∀ {b : Addr}, g.get? b = none → c.aB ≠ b → c.aSc ≠ b → c.aCl ≠ b → c.aSS ≠ b → s.heap.get? b = none := fun {b} e q1 q2 q3 q4 => fresh_but kp e (not4 (Ne.symm q1) (Ne.symm q2) (Ne.symm q3) (Ne.symm q4))
    have kT := kN _ (.head _)
    have kNs := kN _ (.tail _ (.head _))
    have kD := kN _ (.tail _ (.tail _ (.head _)))
    have frD : s.heap.get? D = none := nmu kD.2.2 u6 (Nat.ne_of_lt u3) (Nat.ne_of_lt u4) u7
    have frN : s.heap.get? Ns = none := nmu kNs.2.2 (by k_ne) (by k_ne) (by k_ne) (by k_ne)
    have frT : s.heap.get? Tu = none := nmu kT.2.2 (by k_ne) (by k_ne) (by k_ne) (by k_ne)
    have frA : s.heap.get? aN = none := nmu g3 (Nat.ne_of_lt l1) (Nat.ne_of_lt l2) (Nat.ne_of_lt l3) (Nat.ne_of_lt l4)
    have gB6 := kN.get (a := c.aB) (o := boxObj _ _ _ _ _ _ _) (by k_mem)
    have S6 := S.pushS (q := ⟨_, D, Ns, Tu, ys⟩) (fun b o _ nb e => kF.keep _ _ (kp b o e nb)) (by with_reducible assumption) (by with_reducible assumption) (by with_reducible assumption) gB6 ⟨_, kN.get (by k_mem)⟩ ⟨_, kN.get (by k_mem)⟩ ⟨_, kN.get (by k_mem)⟩
      ⟨⟨vs, _, kD.1, g4⟩, ⟨vs, _, kNs.1, g4⟩, _, kT.1, rfl, _, rfl⟩ (all3 frD frN frT) (by
        simp only [List.nodup_cons, List.mem_cons, List.not_mem_nil, not_or, or_false, not_false_eq_true, List.nodup_nil, and_true]
        exact ⟨⟨Nat.ne_of_lt DN, Nat.ne_of_lt DT⟩, Nat.ne_of_lt NT⟩) (Nat.le_trans (Nat.succ_le_succ few) (by decide))
    have hlg : g.FunFrames h₀ l := frames_upAs P.hl (off_map (all4 (fun q => P.dis _ q (mca mc4)) (fun q => P.dis _ q (mca mc5)) (fun q => P.dis _ q (mca mc6)) (fun q => P.dis _ q (mca mc7)))) (Up.of_keeps (fs := []) kp)
    refine agrees_st (C'.keeps kF.keep) S6 ⟨fit.nd, fit.ba, fit.pl, fit.j⟩ (by ktr_room) (by ktr_units) fun h' tk' kS => ?_
    have F7 := Fr.keeps kF kS
    have N7 := News.grown kN kS
    have S7 := S6.keeps kS
    clear kF kN kS S6 gB6
    k_steps
    rename Fr _ _ _ _ => kF
    rename News _ _ _ _ => kN
    rename Heap => h7
    have P7 : ∀ {env : Env}, env.frame = some L → env.scope.kind ≠ .module → Pre prog w h₀ c _ (env :: l) h7 := fun hf hk => Pre.pushS P S7 kF st hlg hf hk lt (all3 ⟨frD, kD.2.1⟩ ⟨frN, kNs.2.1⟩ ⟨frT, kT.2.1⟩)
    refine IH (l := envOf _ _ L 312 _ :: l) (by ktr_room) (by ktr_units) (by omega) (P7 rfl (by nofun)) ⟨fit.nd, fit.ba, fit.pl, fit.j⟩ ⟨by have := hs.1; dsimp only; omega, by have := hs.2.1; have := g4.length; dsimp only; omega, by have := hs.2.2; dsimp only; rw [List.length_append, List.length_cons, List.length_nil]; omega⟩ fun h8 v2 tk8 Y fit2 => ?_
    have P8 := Post.pre (P7 rfl (by nofun)) Y (List.forall_mem_nil _)
    obtain ⟨ys2, tp2, -⟩ := Y.gr.top
    have hsc2 : v2.sc = v.lo ++ [v.top] ++ [v2.top] := by rw [Va.sc, Y.gr.lo]
    have nAw : aN ∉ ([] : List Addr) ++ wr c { v with lo := v.lo ++ [v.top], top := ⟨true, D, Ns, Tu, ys⟩ } := fun q => by
      simp only [wr, List.nil_append, List.mem_append, List.mem_cons, List.not_mem_nil, or_false] at q
      rcases q with q | q | q
      · obtain ⟨o, e⟩ := S.has (adrs_core q); rw [frA] at e; cases e
      · exact absurd u5 (by rw [q]; exact Nat.lt_irrefl _)
      · exact absurd (Nat.lt_trans u5 DN) (by rw [q]; exact Nat.lt_irrefl _)
    have nAf : ∀ {env : Env}, env.frame = some L → aN ∉ fa (env :: l) := fun hf q => by
      rw [fa_cons hf] at q
      rcases List.mem_cons.mp q with q | q
      · exact g2 q
      · obtain ⟨_, o, e, _⟩ := P.hl.mem q; rw [frA] at e; cases e
    have eN8 := Y.up.keep (kN.get (a := aN) (o := listOf vs.toArray nN) (by k_mem)) nAw (nAf rfl)
    obtain ⟨m1, eSS8⟩ := Y.st.r.T.l0
    obtain ⟨m2, eSc8⟩ := Y.st.r.S.l0
    obtain ⟨m3, eCl8⟩ := Y.st.r.S.c0
    rw [hsc2, List.map_append (l₂ := [v2.top]), List.map_cons, List.map_nil] at eSS8 eSc8 eCl8
    have dsf : ∀ {a : Addr}, a ∈ core c → h₀.get? a = none ∧ a ∉ fa (envOf (Str.ofString "_law_scoped") default L 312 default :: l) := fun {a} ha => ⟨P.out a (mcw ha), fun q => Y.dis a q (adrs_core ha)⟩
    obtain ⟨G, F9, N9, st2, hl2, low⟩ := after (l := l) (h := s.heap) [(aN, listOf vs.toArray nN), (c.aSS, _), (c.aSc, _), (c.aCl, _)] kF (P7 rfl (by nofun)) Y rfl (List.forall_mem_nil _) lt P.h0 P.hl (all4 ⟨eN8, gone_of st g3, nAf rfl⟩ ⟨eSS8, dsf (by lcg_sub)⟩ ⟨eSc8, dsf (by lcg_sub)⟩ ⟨eCl8, dsf (by lcg_sub)⟩)
    dsimp only [List.cons_append, List.nil_append] at N9
    have C9 := C.keeps st2
    have X9 := C9.base.X
    have T9 := C9.base.T
    have ndv := Y.st.p.nd
    have Lc : ∀ b ∈ core c, b < L := fun b hb => by obtain ⟨o, e⟩ := S.has (adrs_core hb); exact lt _ _ e
    have loC : ∀ {b : Addr} {o : Obj}, b ∈ core c → b ∉ [c.aSS, c.aSc, c.aCl] → h8.get? b = some o → G.get? b = some o := fun {b o} hb nb e => low b o (Lc b hb) (fun q => by
      rcases List.mem_cons.mp q with q | q
      · obtain ⟨o, e⟩ := S.has (adrs_core hb); rw [q, frA] at e; cases e
      · exact nb q) (nd_off ndv (.head _) b hb) (fun q => by
      obtain ⟨z, hz, e⟩ := List.mem_map.mp q; exact Y.st.p.nc z hz (by rw [e]; exact adrs_core hb)) e
    have gR9 := loC (by lcg_sub) (not3 (a6) (a4) (a5)) Y.st.r.gR
    have gD9 := loC (by lcg_sub) (not3 (a13) (a11) (a12)) Y.st.r.gD
    have gS9 := loC (by lcg_sub) (not3 (a19) (a17) (a18)) Y.st.r.gS
    have dS9 := Y.st.p.dS
    have w1 : v2.aM ≠ c.aSS := (nd_off ndv (.head _) _ (by lcg_sub)).symm
    have w4 : ∀ z ∈ codF h₀ v2.cod, z.1 ≠ c.aSS := fun z hz => nc_ne Y.st.p (mca mc7) z (codF_mem.mp hz).1
    have u2' := Y.up
    rw [fa_cons (L := L) rfl] at u2'
    have u1' : ∀ b o, s.heap.get? b = some o → b ∉ [] ++ wr c v → h7.get? b = some o := fun b o e nb => kF.keep _ _ (kp b o e (fun q => nb (all4 (P := fun b => b ∈ wr c v) (mcw mc4) (mcw mc5) (mcw mc6) (mcw mc7) b q)))
    clear kF kN X T C' gR gD gS dS S7 P7
    k_steps
    rename Fr _ _ _ _ => kF
    rename News _ _ _ _ => kN
    rename_i h9
    have hl9 : v.lo.length + 1 ≤ 60 := by have := few; simp only [Va.sc, List.length_append, List.length_cons, List.length_nil] at this; exact this
    have qSc := kN _ (by k_mem : (c.aSc, listOf (List.map (fun q : Sc => Value.ref q.an) (v.lo ++ [v.top]) ++ [Value.ref v2.top.an]).toArray m2) ∈ _)
    have qCl := kN _ (by k_mem : (c.aCl, listOf (List.map (fun q : Sc => Value.bool q.cl) (v.lo ++ [v.top]) ++ [Value.bool v2.top.cl]).toArray m3) ∈ _)
    have qSS := kN _ (by k_mem : (c.aSS, listOf (List.map (fun q : Sc => Value.ref q.tu) (v.lo ++ [v.top]) ++ [Value.ref v2.top.tu]).toArray m1) ∈ _)
    have qN := kN _ (by k_mem : (aN, listOf vs.toArray nN) ∈ _)
    refine outer_at C.base (s := { s with heap := h9, toks := _ }) ⟨fun b o e => kF.keep _ _ (st2 b o e), all4 ⟨kF.keep _ _ gR9, P.out _ (by lcg_sub)⟩ ⟨kF.keep _ _ gD9, P.out _ (by lcg_sub)⟩ ⟨qSc.1, P.out _ (by lcg_sub)⟩ ⟨qCl.1, P.out _ (by lcg_sub)⟩⟩ (by
        simp only [List.nodup_cons, List.mem_cons, List.not_mem_nil, not_or, or_false, not_false_eq_true, List.nodup_nil, and_true]
        exact ⟨⟨a1, a4, a5⟩, ⟨a11, a12⟩, a27⟩) (by simp only [List.length_append, List.length_map, List.length_cons, List.length_nil]; omega) (by simp only [List.length_append, List.length_map, List.length_cons, List.length_nil]; omega) (by ktr_room) fun n1'' n2'' h10 tk10 kK eSc10 eCl10 => ?_
    have F10 := fr_but kF kK (fm ⟨qSc.2.2, qSc.2.1⟩ (all1 ⟨qCl.2.2, qCl.2.1⟩))
    have N10 := news_put (news_put (news_put (news_put (news_but (news_tail (news_tail (news_tail (news_tail kN)))) kK (List.forall_mem_cons.mpr ⟨not2 (nd_off ndv (.head _) _ mc5).symm (nd_off ndv (.head _) _ mc6).symm, fun z hz q => Y.st.p.nc z (codF_mem.mp hz).1 (fm (P := fun b => b ∈ adrs c v2) (mca mc5) (all1 (mca mc6)) _ q)⟩)) eCl10 qCl.2.1 qCl.2.2) eSc10 qSc.2.1 qSc.2.2) (kK _ _ qSS.1 (not2 (Ne.symm a28) (Ne.symm a31))) qSS.2.1 qSS.2.2) (kK _ _ qN.1 (not2 (Nat.ne_of_gt l2) (Nat.ne_of_gt l3))) qN.2.1 qN.2.2
    have hz5 : (List.map (fun q : Sc => Value.ref q.tu) (v.lo ++ [v.top]) ++ [Value.ref v2.top.tu]).length ≤ 16384 := by simp only [List.length_append, List.length_map, List.length_cons, List.length_nil]; omega
    clear kF kN kK qSc qCl qSS qN
    k_steps
    rename Fr _ _ _ _ => kF
    rename News _ _ _ _ => kN
    rename Heap => hE
    have hdec : decide ((vs.length : Int) < 3) = true := by rw [decide_eq_true_eq]; omega
    rw [hdec]
    have k3 := seg_end2 (wsE := [c.aSc, c.aCl, c.aSS]) st2 Y.st P8.h0 low kF kN (all4 (.inr ⟨by k_mem, eN8⟩) (.inl (.tail _ (.tail _ (.head _)))) (.inl (.head _)) (.inl (.tail _ (.head _)))) (by k_mem) (fun z hz => by repeat (first | exact hz | apply List.Mem.tail))
    have hlo2 : v2.lo = v.lo ++ [v.top] := Y.gr.lo
    have SE := Y.st.popS (lo := v.lo) (top := v.top) hlo2 (fun b o hb nb e => k3 b o (by
      rcases hb with hb | hb
      · rcases List.mem_append.mp hb with hb | hb
        · exact .inl (Lc b hb)
        · rcases List.mem_cons.mp hb with hb | hb
          · exact .inr (.inl hb)
          · obtain ⟨o', e'⟩ := S.has (b := b) (mcs hb)
            exact .inl (lt _ _ e')
      · exact .inr (.inr hb)) nb e) ⟨_, kN.get (by k_mem)⟩ ⟨_, kN.get (by k_mem)⟩ ⟨_, kN.get (by k_mem)⟩
    refine h _ _ _ ⟨SE, ⟨rfl, ⟨v.top.ys, rfl, by omega⟩, ?_⟩, Up.seg2 u1' u2' (fun b o e nb q => ?_) (fun b o hb nb e => k3 b o (.inl hb) (fun q => nb ?_) e) lt, fun b hb q => Y.dis b (by rw [fa_cons (L := L) rfl]; exact .tail _ hb) (by rw [adrs_pop hlo2]; exact List.mem_append_left _ q), Y.outM, Y.outC⟩ ⟨fit2.nd, fit2.ba, fit2.pl, fit2.j⟩
    · have := Y.gr.b1; dsimp only at this ⊢; omega
    · simp only [wr, List.nil_append, List.mem_append, List.mem_cons, List.not_mem_nil, or_false] at q nb
      rcases q with q | q | q
      · exact nb (.inl q)
      · rw [q, frD] at e; cases e
      · rw [q, frN] at e; cases e
    · exact all3 (P := fun b => b ∈ wr c v) (mcw mc5) (mcw mc6) (mcw mc7) b q
end

/-- an object is a row's tuple -/
noncomputable def RowO (o : Obj) (t : Tok0) : Prop := ∃ t1 t2 t3 n, o = tupObj [.str t.kind t1, sv t.sign t2, .int t.line t3] n
/-- what is drawn so far -/
structure Drawn (rs : List Addr) (row : List Tok0) (tups : List (Addr × Obj)) : Prop where
  len : rs.length = row.length
  all : ∀ (i : Nat) (a : Addr) (t : Tok0), rs[i]? = some a → row[i]? = some t → ∃ o, (a, o) ∈ tups ∧ RowO o t
  ok : ∀ t ∈ row, okT t = true
  op : ∀ t ∈ row, t.kind = Str.ofString "op" → t.sign.isSome = true
  mem : ∀ a ∈ rs, a ∈ tups.map (·.1)
theorem Drawn.snoc {rs : List Addr} {row : List Tok0} {tups : List (Addr × Obj)} {a : Addr} {o : Obj} {t : Tok0} (x : Drawn rs row tups) (y : RowO o t) (h1 : okT t = true) (h2 : t.kind = Str.ofString "op" → t.sign.isSome = true) : Drawn (rs ++ [a]) (row ++ [t]) ((a, o) :: tups) := by
  refine ⟨by simp [x.len], fun i b u e1 e2 => ?_, fun u hu => ?_, fun u hu => ?_, fun b hb => ?_⟩
  · by_cases hi : i < row.length
    · rw [List.getElem?_append_left hi] at e2
      rw [List.getElem?_append_left (by rw [x.len]; exact hi)] at e1
      obtain ⟨o1, m1, y1⟩ := x.all i b u e1 e2
      exact ⟨o1, .tail _ m1, y1⟩
    · have hi2 : i < (row ++ [t]).length := (List.getElem?_eq_some_iff.mp e2).1
      rw [List.length_append, List.length_cons, List.length_nil] at hi2
      have : i = row.length := by omega
      subst this
      rw [List.getElem?_append_right (Nat.le_refl _)] at e2
      rw [List.getElem?_append_right (by rw [x.len]; exact Nat.le_refl _)] at e1
      rw [Nat.sub_self] at e2
      rw [x.len, Nat.sub_self] at e1
      cases e1; cases e2
      exact ⟨o, .head _, y⟩
  · rcases List.mem_append.mp hu with hu | hu
    · exact x.ok u hu
    · rcases List.mem_singleton.mp hu with rfl; exact h1
  · rcases List.mem_append.mp hu with hu | hu
    · exact x.op u hu
    · rcases List.mem_singleton.mp hu with rfl; exact h2
  · rcases List.mem_append.mp hb with hb | hb
    · exact .tail _ (x.mem b hb)
    · rcases List.mem_singleton.mp hb with rfl; exact .head _
theorem cur_last {row : List Tok0} {t : Tok0} {i : Nat} (h : (row ++ [t]).length ≤ i + 1) : cur (row ++ [t]) i = t := by
  rw [List.length_append, List.length_cons, List.length_nil] at h
  unfold cur
  rw [List.length_append, List.length_cons, List.length_nil, show min i (row.length + (0 + 1) - 1) = row.length by omega, List.getD_eq_getElem?_getD, List.getElem?_append_right (Nat.le_refl _), Nat.sub_self]
  rfl
theorem refs_snoc {rs : List Addr} {T : Addr} : rs.map Value.ref ++ [Value.ref T] = (rs ++ [T]).map Value.ref := by rw [List.map_append]; rfl
theorem news_rot {h₀ h : Heap} {L : Addr} {a b c d : Addr × Obj} {r : List (Addr × Obj)} (N : News h₀ L h (a :: b :: c :: d :: r)) : News h₀ L h (b :: c :: d :: a :: r) := fun q hq => N q (by
  simp only [List.mem_cons] at hq ⊢
  rcases hq with hq | hq | hq | hq | hq <;> simp [hq])
theorem eof_ok : okS (Str.ofString "eof") = true := by decide +kernel
theorem eof_op : Str.ofString "eof" ≠ Str.ofString "op" := by decide +kernel
theorem eof_nl : Str.ofString "eof" ≠ Str.ofString "nl" := by decide +kernel
inductive RwJ (aB DF : Addr) (b1 b2 : Int) (g₀ : Heap) (i : Nat) (g : Heap) (m : Str → Option Value) (news : List (Addr × Obj)) : Prop
  | mk (e : g = g₀) (rs : List Addr) (row : List Tok0) (tups : List (Addr × Obj)) (b0' b1' : Int) (t0 t1 t2 : Tok) (nB nF : Nat) (ln : Int) (tl : Tok)
    (e2 : news = (DF, listOf (rs.map Value.ref).toArray nF) :: (aB, boxObj b0' b1' b2 t0 t1 t2 nB) :: tups) (Dr : Drawn rs row tups) (hlen : row.length = i) (j1 : m (Str.ofString "box") = some (.ref aB)) (j2 : m (Str.ofString "found") = some (.ref DF)) (j3 : m (Str.ofString "line") = some (.int ln tl))
    (p0 : 0 ≤ b0') (p1 : b0' < 10 ^ 90) (p2 : 0 ≤ b1') (p3 : b1' ≤ b1 + 1 + i) (f1 : ∀ q ∈ tups, q.1 ≠ aB) (f2 : ∀ q ∈ tups, q.1 ≠ DF)
local macro_rules | `(tactic| walk_at "subscriptTail") => row [tSh (ap `subscriptTail [b_, b_, (ap `Value.ref [`(222)]), (ap `Value.int [b_, b_])]), tTo `item8 [bX, bWO, bWO, bH], tIntros]
theorem row_room {l : List Value} {x : Value} (h : l.length ≤ 16384) : l.toArray.toList.length + (#[x] : Array Value).toList.length ≤ sizeLine := by
  rw [sizeLine_eq]; exact Nat.le_trans (Nat.succ_le_succ h) (by decide)
local macro_rules | `(tactic| walk_at "binaryOp Add ref ref") => row [tSh (ap `binaryOp [b_, (ap `Value.ref [b_]), (ap `Value.ref [b_])]), tRef `kmk_add_lit [bK, bK, bLn, bLn, bR, bH, (bY (tEx (ap `row_room [bA])))], tIntro [`D₉, `h₉, `F₉, `N₉, `l₉], tOff, tSweep]
section
variable {prog : Program} {w : World} {p : Program} {loose : List Str} {mean : ExcName → Option Value} {mg mb : Str → Option Value}
theorem row_at {dp un : Nat} {fr : Option (List Env)} {gd : Option (List Code)} {s : Shared} {h₀ : Heap} {aB : Addr} {b0 b1 b2 : Int} {t0 t1 t2 : Tok} {n : Nat} {Q E : Value → Shared → Prop}
    (B : Base w p loose mean mg mb h₀) (hA : At h₀ s.heap [(aB, boxObj b0 b1 b2 t0 t1 t2 n)]) (hr : dp + 4 < recursionLimit)
    (hb0 : 0 ≤ b0) (hb0' : b0 < 10 ^ 90) (hb1 : 0 ≤ b1) (hb1' : b1 < 10 ^ 16)
    (h : ∀ D rs row tups nD b0' b1' t0' t1' t2' n' h' tk', KeepsBut [aB] s.heap h' → h'.get? aB = some (boxObj b0' b1' b2 t0' t1' t2' n') → 0 ≤ b0' → b0' < 10 ^ 90 → 0 ≤ b1' → b1' ≤ b1 + 20 →
      h'.get? D = some (listOf (rs.map Value.ref).toArray nD) → s.heap.get? D = none → (∀ q ∈ tups, h'.get? q.1 = some q.2 ∧ s.heap.get? q.1 = none) → Drawn rs row tups → 0 < row.length → row.length ≤ 20 → (∀ i, row.length ≤ i + 1 → (cur row i).kind ≠ Str.ofString "nl") → Q (.ref D) { s with heap := h', toks := tk' }) :
    wpAny (model prog w) (ar dp un fr gd) (call (.ref 250) [.ref aB]) Q E s := by
  refine wpAny_call ?_
  have X0 := Frag.In.keeps B.X hA.1
  ktr_enter
  intro g L h₁ m0 hm0 F N' X T st hlt kp
  have lt := ent_lt hlt kp F
  have Bg := B.keeps st
  dsimp only
  k_unmd
  k_fold
  k_steps
  refine wpAny_For ?_
  k_steps
  rename News _ _ _ _ => kN
  rename Fr _ _ _ _ => kF
  rename IsRange _ _ _ _ _ _ _ _ => hR
  obtain ⟨h2, e9, -⟩ := name2 (P := fun hx : Heap => Fr g L hx _) kF
  subst e9
  obtain ⟨DF, e9, -⟩ := name2 (P := fun D : Addr => News g L h2 (_ :: (D, _) :: _)) kN
  subst e9
  obtain ⟨dn, e9, hdn⟩ := name2 (P := fun d : Nat => (d : Int) < 12) (by assumption)
  subst e9
  have kB : aB < DF := by lcg_src
  have N2 := news_tail kN
  have hb9 : ∀ q ∈ ([] : List (Addr × Obj)), q.1 ≠ aB := List.forall_mem_nil _
  refine for_range rfl hR (small_one (by omega) (by omega) (by omega) (by omega)) (rangeSize_nat _ _) (RwJ aB DF b1 b2 g) (fun _ _ => True) kF N2
    ⟨rfl, [], [], [], _, _, _, _, _, _, _, _, _, rfl, ⟨rfl, by simp, by simp, by simp, by simp⟩, by ktn_lt, by ktn_lt, by ktn_lt, by ktn_lt, by with_reducible assumption, by with_reducible assumption, by with_reducible assumption, by omega, by simp, by simp⟩ trivial (fun _ _ _ _ _ => trivial) ?_ ?_
  · intro I i tv g' m₁ news₁ h₃ tk₃ oI hI hi J₁ _ F₃ N₃ off _
    obtain ⟨rfl, rs, row, tups, c0, c1, u0, u1, u2, nB, nF, ln, tl, rfl, Dr, hlen, j1, j2, j3, p0, p1, p2, p3, f1, f2⟩ := J₁
    clear kF kN N2 hR
    have o1 : DF ≠ I := off (DF, _) (.head _)
    have o2 : aB ≠ I := off (aB, _) (.tail _ (.head _))
    have o3 : ∀ q ∈ tups, q.1 ≠ I := fun q hq => off q (.tail _ (.tail _ hq))
    have hzr : (rs.map Value.ref).length ≤ 16384 := by rw [List.length_map, Dr.len]; omega
    dsimp only
    k_unmd
    k_fold
    k_steps
    rename Fr _ _ _ _ => kF
    rename News _ _ _ _ => kN
    rename short _ _ => hsh
    rename (_ = Str.ofString "op" → _) => hop
    obtain ⟨T1, e9, -⟩ := name2 (P := fun D : Addr => News g' L _ ((D, _) :: (I, oI) :: _)) kN
    subst e9
    have iT : I < T1 := by lcg_src
    have dT : DF < T1 := by lcg_src
    have bT : aB < T1 := by lcg_src
    have f3 : ∀ q ∈ tups, q.1 < T1 := fun q hq => (by with_reducible assumption : ∀ p ∈ _, p.1 < T1) q (by repeat (first | exact hq | apply List.Mem.tail))
    (first | rw [List.push_toArray, refs_snoc] at kN | rw [refs_snoc] at kN)
    have N9 := news_rot kN
    exact ⟨_, _, g', _, _, rfl, trivial, kF, N9, List.forall_mem_cons.mpr ⟨o1, List.forall_mem_cons.mpr ⟨o2, List.forall_mem_cons.mpr ⟨Nat.ne_of_gt iT, o3⟩⟩⟩, rfl, rs ++ [T1], row ++ [⟨_, _, ln⟩], (T1, _) :: tups, _, _, _, _, _, _, _, _, _, rfl,
      Dr.snoc ⟨_, _, _, _, rfl⟩ (by simp only [okT, hsh.1, hsh.2, Bool.and_true]) hop, by rw [List.length_append, hlen]; rfl, by ktn_lt, by ktn_lt, by ktn_lt, by with_reducible assumption, by with_reducible assumption, by with_reducible assumption, by omega, List.forall_mem_cons.mpr ⟨Nat.ne_of_gt bT, f1⟩, List.forall_mem_cons.mpr ⟨Nat.ne_of_gt dT, f2⟩⟩
  · intro g' m₁ news₁ h₃ tk₃ J₁ _ F₃ N₃
    obtain ⟨rfl, rs, row, tups, c0, c1, u0, u1, u2, nB, nF, ln, tl, rfl, Dr, hlen, j1, j2, j3, p0, p1, p2, p3, f1, f2⟩ := J₁
    clear kF kN N2 hR
    have hzr : (rs.map Value.ref).length ≤ 16384 := by rw [List.length_map, Dr.len]; omega
    dsimp only
    k_steps
    rename Fr _ _ _ _ => kF
    rename News _ _ _ _ => kN
    obtain ⟨T1, e9, -⟩ := name2 (P := fun D : Addr => News g' L _ (_ :: _ :: (D, _) :: _)) kN
    subst e9
    have bT : aB < T1 := by lcg_src
    have e8 : ((rs.map Value.ref).toArray.toList ++ (#[Value.ref T1] : Array Value).toList) = (rs ++ [T1]).map Value.ref := by show rs.map Value.ref ++ [Value.ref T1] = _; exact refs_snoc
    rw [e8] at kN
    have kD := kN _ (.head _)
    have kT := kN _ (.tail _ (.tail _ (.head _)))
    have fr1 : ∀ {b : Addr}, g'.get? b = none → b ≠ aB → s.heap.get? b = none := fun {b} e q => fresh_but kp e (by simpa using q)
    refine h _ (rs ++ [T1]) (row ++ [⟨Str.ofString "eof", none, ln⟩]) ((T1, _) :: tups) _ _ _ _ _ _ _ _ _ (keeps_but1 kp kF) (kN.get (a := aB) (o := boxObj _ _ _ _ _ _ _) (by k_mem)) p0 p1 p2 (by omega) kD.1 (fr1 kD.2.2 (by k_ne))
      (List.forall_mem_cons.mpr ⟨⟨kT.1, fr1 kT.2.2 (Nat.ne_of_gt bT)⟩, fun q hq => ?_⟩) (Dr.snoc ⟨tk₃, 0, tl, _, rfl⟩ (by simp only [okT, eof_ok, Option.all_none, Bool.and_true]) (fun q => absurd q eof_op)) (by simp) (by rw [List.length_append, List.length_cons, List.length_nil]; omega) (fun i hi => by rw [cur_last hi]; exact eof_nl)
    have kq := kN q (.tail _ (.tail _ (.tail _ (.tail _ (.tail _ hq)))))
    exact ⟨kq.1, fr1 kq.2.2 (f1 q hq)⟩
end

section
variable {prog : Program} {w : World} {c : Co} {v : Va} {h h' : Heap}
/-- the box is written anew -/
theorem StA.box {b0' b1' b2' : Int} {t0' t1' t2' : Tok} {nB' : Nat} (x : StA prog w c v h) (k : ∀ b o, b ∈ adrs c v ∨ b ∈ v.cod.map (·.1) → b ≠ c.aB → h.get? b = some o → h'.get? b = some o)
    (p0 : 0 ≤ b0') (p1 : b0' < 10 ^ 90) (p2 : 0 ≤ b1') (eB : h'.get? c.aB = some (boxObj b0' b1' b2' t0' t1' t2' nB')) :
    StA prog w c { v with b0 := b0', b1 := b1', b2 := b2', t0 := t0', t1 := t1', t2 := t2', nB := nB' } h' := by
  obtain ⟨_, _, b3, _, _, _, _, _, _, b10, _, _, _, _, _, b16, _, _, _, _, _, b22, b23, b24, b25, b26, _⟩ := core_off (nd_core x.p.nd)
  have kk : ∀ b o, b ∈ adrs c v → b ≠ c.aB → h.get? b = some o → h'.get? b = some o := fun b o m n e => k b o (.inl m) n e
  exact x.change (v' := { v with b0 := b0', b1 := b1', b2 := b2', t0 := t0', t1 := t1', t2 := t2', nB := nB' }) (as := [c.aB]) (fun b o m n e => k b o m (fun z => n (List.mem_singleton.mpr z)) e) ⟨x.p.dS, p0, p1, p2, x.p.tr3, x.p.tr4, x.p.c3, x.p.c4, x.p.c5, x.p.nd, x.p.nc, x.p.cd2⟩ rfl rfl rfl (adrs_off x.p (by simp))
    (kk _ _ (by lcg_sub) b3 x.r.gR) (kk _ _ (by lcg_sub) b10 x.r.gD) (kk _ _ (by lcg_sub) b16 x.r.gS) eB
    (kk _ _ mcM (nd_off x.p.nd (.head _) _ (by lcg_sub)).symm x.o.gM) (kk _ _ (by lcg_sub) (Ne.symm b25) x.r.p3) (kk _ _ (by lcg_sub) (Ne.symm b26) x.r.p4)
end
local macro_rules | `(tactic| walk_at "exec If") => row [tSh (ap `exec [(ap `Stmt.If [(ap `PySem.Expr.Compare [(ap `PySem.Expr.Name [b_, b_]), b_, b_, b_]), b_, b_, b_]), b_]), tRef `stop_if [bW, bH]]
local macro_rules | `(tactic| walk_at "eval IfExp") => row [tSh (ap `eval [(ap `PySem.Expr.IfExp [b_, b_, b_, b_]), b_]), tRef `stop_if [bW, bH]]
theorem Up.seg3 {h h4 h5 hE : Heap} {ws fs : List Addr} {L : Addr} (u0 : Up ws fs h h4) (u2 : Up ws (L :: fs) h4 h5) (u3 : ∀ b o, b < L → b ∉ ws → h5.get? b = some o → hE.get? b = some o) (lt : ∀ b o, h.get? b = some o → b < L) : Up ws fs h hE := fun b o e nb => by
  obtain ⟨s1, e1, k1⟩ := u0 b o e nb
  obtain ⟨s2, e2, k2⟩ := u2 b _ e1 nb
  refine ⟨s2, u3 b _ (lt b o e) nb e2, fun q => (k2 fun z => ?_).trans (k1 q)⟩
  rcases List.mem_cons.mp z with z | z
  · exact absurd (lt b o e) (by rw [z]; exact Nat.lt_irrefl _)
  · exact q z
section
variable {prog : Program} {w : World} {c : Co} {h₀ : Heap} {l : List Env}
/-- what a lap leaves, whatever the box holds then -/
theorem lap_post {h h4 h5 g2 : Heap} {v v1 v2 : Va} {L I : Addr} {oI ob : Obj} {a k' : Nat} {env : Env} (Y4 : Post prog w h₀ c v [] a (fa l) h h4 v1) (Y : Post prog w h₀ c v1 [] k' (fa (env :: l)) h4 h5 v2) (hf : env.frame = some L)
    (lt : ∀ b o, h.get? b = some o → b < L) (hL : ∀ b ∈ core c ++ scAd v.sc, b < L) (hI : L < I) (nI : ∀ b, b ∈ adrs c v2 ∨ b ∈ v2.cod.map (·.1) → b ≠ I) (st2 : h₀.StaysIn g2) (P5 : h₀.StaysIn h5)
    (low : ∀ b o, b < L → b ∉ [(I, oI), (c.aB, ob)].map (·.1) → b ≠ v2.aM → b ∉ v2.cod.map (·.1) → h5.get? b = some o → g2.get? b = some o) :
    ∀ (hh : Heap) (mm : Str → Option Value) (b0 b1 b2 : Int) (t0 t1 t2 : Tok) (nB k'' : Nat), 0 ≤ b0 → b0 < 10 ^ 90 → 0 ≤ b1 → b1 ≤ v.b1 + k'' → a + k' ≤ k'' → Fr g2 L hh mm → News g2 L hh ((c.aB, boxObj b0 b1 b2 t0 t1 t2 nB) :: mk v2 :: codF h₀ v2.cod) →
      Post prog w h₀ c v [] k'' (fa l) h hh { v2 with b0 := b0, b1 := b1, b2 := b2, t0 := t0, t1 := t1, t2 := t2, nB := nB } := by
  intro hh mm b0 b1 b2 t0 t1 t2 nB k'' p0 p1 p2 p3 hk FF NN
  have hsc : scAd v2.sc = scAd v.sc := Y.gr.scAd.trans Y4.gr.scAd
  have k3 := seg_end (wsE := [I, c.aB]) st2 Y.st P5 low FF NN (fun q hq => by
    simp only [List.mem_cons, List.not_mem_nil, or_false] at hq
    rcases hq with rfl | rfl <;> simp) (.tail _ (.head _)) (fun z hz => .tail _ (.tail _ hz)) (fun b hb => hL b (by rw [← hsc]; exact hb))
  have gr := Y4.gr.trans Y.gr hk
  have u2 := Y.up
  rw [fa_cons hf, Y4.gr.wr] at u2
  refine ⟨Y.st.box (fun b o m n e => k3 b o (.inr m) (not2 (nI b m) n) e) p0 p1 p2 (NN _ (.head _)).1, ⟨gr.lo, gr.top, p3⟩, Up.seg3 Y4.up u2 (fun b o hb nb e => k3 b o (.inl hb) (fun q => ?_) e) lt, fun b hb => Y.dis b (by rw [fa_cons hf]; exact .tail _ hb), Y.outM, Y.outC⟩
  simp only [List.mem_cons, List.not_mem_nil, or_false] at q
  rcases q with q | q
  · exact absurd hb (by rw [q]; exact Nat.lt_asymm hI)
  · exact nb (by rw [q]; simp [wr, core])
end
section
variable {prog : Program} {w : World} {c : Co} {h₀ h4 h5 : Heap} {v1 v2 : Va} {I b : Addr} {oI : Obj} {k' : Nat} {fs : List Addr}
/-- an iterator is none of the state's -/
theorem off_I (Y : Post prog w h₀ c v1 [] k' fs h4 h5 v2) (hoI : ∃ vs, oI.data = .fields vs ∧ ∀ y t, vs[1]? ≠ some (.str y t)) (g4 : h4.get? I = some oI) (nw : ∀ b ∈ core c ++ scAd v1.sc, b ≠ I) (nf : I ∉ fs) :
    ∀ b, b ∈ adrs c v2 ∨ b ∈ v2.cod.map (·.1) → b ≠ I := by
  obtain ⟨vs, d1, d2⟩ := hoI
  have g5 : h5.get? I = some oI := Y.up.keep g4 (fun q => by
    simp only [wr, List.nil_append, List.mem_append, List.mem_cons, List.not_mem_nil, or_false] at q
    rcases q with q | q | q
    · exact nw _ (List.mem_append_left _ q) rfl
    · exact nw v1.top.an (List.mem_append_right _ (by rw [scAd_sc]; simp)) q.symm
    · exact nw v1.top.an' (List.mem_append_right _ (by rw [scAd_sc]; simp)) q.symm) nf
  rintro b (hb | hb) rfl
  · simp only [adrs, List.mem_append, List.mem_cons] at hb
    rcases hb with hb | hb | hb
    · exact nw _ (List.mem_append_left _ hb) rfl
    · have := Y.st.o.gM
      rw [← hb, g5] at this
      rw [Option.some.inj this] at d1; cases d1
    · rw [Y.gr.scAd] at hb
      exact nw _ (List.mem_append_right _ hb) rfl
  · obtain ⟨z, hz, e⟩ := List.mem_map.mp hb
    obtain ⟨us, f1, q, t, f2⟩ := Y.st.p.cd2 z hz
    have := Y.st.o.gC z hz
    rw [e, g5] at this
    rw [← Option.some.inj this, d1] at f1
    cases f1
    exact d2 q t f2
end
section
variable {prog : Program} {w : World} {c : Co} {h₀ : Heap} {l : List Env}
/-- standing behind a lap's deed -/
theorem lap_end {g h h4 h5 : Heap} {v v1 v2 : Va} {L I : Addr} {oI : Obj} {a k' : Nat} {env : Env} {m : Str → Option Value} (F : Fr g L h4 m) (P : Pre prog w h₀ c v l h) (Y4 : Post prog w h₀ c v [] a (fa l) h h4 v1) (P4 : Pre prog w h₀ c v1 (env :: l) h4) (Y : Post prog w h₀ c v1 [] k' (fa (env :: l)) h4 h5 v2)
    (hf : env.frame = some L) (lt : ∀ b o, h.get? b = some o → b < L) (hL : ∀ b ∈ core c ++ scAd v.sc, b < L) (LI : L < I) (hoI : ∃ vs, oI.data = .fields vs ∧ ∀ y t, vs[1]? ≠ some (.str y t)) (g4 : h4.get? I = some oI) (h0I : h₀.get? I = none) :
    ∃ g2, Fr g2 L h5 m ∧ News g2 L h5 ((I, oI) :: (c.aB, boxObj v2.b0 v2.b1 v2.b2 v2.t0 v2.t1 v2.t2 v2.nB) :: mk v2 :: codF h₀ v2.cod) ∧ h₀.StaysIn g2 ∧ g2.FunFrames h₀ l ∧
      (∀ q ∈ (c.aB, boxObj v2.b0 v2.b1 v2.b2 v2.t0 v2.t1 v2.t2 v2.nB) :: mk v2 :: codF h₀ v2.cod, q.1 ≠ I) ∧
      ∀ (hh : Heap) (mm : Str → Option Value) (b0 b1 b2 : Int) (t0 t1 t2 : Tok) (nB k'' : Nat), 0 ≤ b0 → b0 < 10 ^ 90 → 0 ≤ b1 → b1 ≤ v.b1 + k'' → a + k' ≤ k'' → Fr g2 L hh mm → News g2 L hh ((c.aB, boxObj b0 b1 b2 t0 t1 t2 nB) :: mk v2 :: codF h₀ v2.cod) →
        Post prog w h₀ c v [] k'' (fa l) h hh { v2 with b0 := b0, b1 := b1, b2 := b2, t0 := t0, t1 := t1, t2 := t2, nB := nB } := by
  have nf : I ∉ fa (env :: l) := fun q => by
    rw [fa_cons hf] at q
    rcases List.mem_cons.mp q with q | q
    · exact absurd LI (by rw [q]; exact Nat.lt_irrefl _)
    · obtain ⟨_, o, e, _⟩ := P.hl.mem q
      exact absurd (lt _ _ e) (Nat.lt_asymm LI)
  have nw : ∀ b ∈ core c ++ scAd v1.sc, b ≠ I := fun b hb q => absurd (hL b (by rw [← Y4.gr.scAd]; exact hb)) (by rw [q]; exact Nat.lt_asymm LI)
  have nI := off_I Y hoI g4 nw nf
  have gI5 : h5.get? I = some oI := Y.up.keep g4 (fun q => nw I (by
    simp only [wr, List.nil_append, List.mem_append, List.mem_cons, List.not_mem_nil, or_false] at q
    rcases q with q | q | q
    · exact List.mem_append_left _ q
    · rw [q]; exact List.mem_append_right _ (by rw [scAd_sc]; simp)
    · rw [q]; exact List.mem_append_right _ (by rw [scAd_sc]; simp)) rfl) nf
  have P5 := Post.pre P4 Y (by simp)
  obtain ⟨g2, F2, N2, st2, hl2, low⟩ := after (l := l) (h := h) [(I, oI), (c.aB, boxObj v2.b0 v2.b1 v2.b2 v2.t0 v2.t1 v2.t2 v2.nB)] F P4 Y hf (by simp) lt P.h0 P.hl (fun q hq => by
    simp only [List.mem_cons, List.not_mem_nil, or_false] at hq
    rcases hq with rfl | rfl
    · exact ⟨gI5, h0I, nf⟩
    · exact ⟨Y.st.o.gB, P.out _ (by lcg_sub), fun q => Y.dis _ q (by lcg_sub)⟩)
  refine ⟨g2, F2, N2, st2, hl2, fun q hq => ?_, lap_post Y4 Y hf lt hL LI nI st2 P5.h0 low⟩
  rcases List.mem_cons.mp hq with rfl | hq
  · exact nI _ (.inl (by lcg_sub))
  · rcases List.mem_cons.mp hq with rfl | hq
    · exact nI _ (.inl (by simp [adrs]))
    · exact nI _ (.inr (List.mem_map_of_mem (codF_mem.mp hq).1))
end

section
variable {prog : Program} {w : World} {p : Program} {loose : List Str} {mean : ExcName → Option Value} {mg mb : Str → Option Value} {c : Co} {v : Va}
  {dp un : Nat} {l : List Env} {gd : Option (List Code)} {s : Shared} {Q E : Value → Shared → Prop} {h₀ : Heap}
theorem looked_at {way : Int} {tw : Tok} (C : Cx w p loose mean mg mb c.row c.aT c.aRow c.ts c.rs h₀) (hr : dp + 60 < recursionLimit) (hu : un + 700 < cLine) (P : Pre prog w h₀ c v l s.heap) (fit : Fit v) (hb : v.b1 < 10 ^ 16)
    (h : ∀ h' v' tk', Post prog w h₀ c v [] 2 (fa l) s.heap h' v' → Fit v' → Q (.bool true) { s with heap := h', toks := tk' }) :
    wpAny (model prog w) (ar dp un (some l) gd) (call (.ref 305) [.ref c.aB, .ref c.aR, .ref c.aS, .int way tw]) Q E s := by
  have S := P.st
  obtain ⟨b1, b2, b3, b4, b5, b6, b7, b8, b9, b10, b11, b12, b13, b14, b15, b16, b17, b18, b19, b20, b21, b22, b23, b24, b25, b26, _⟩ := core_off (nd_core S.p.nd)
  have dS := S.p.dS
  rw [← fit.pl, ← fit.j] at dS
  refine looking_at (aM := v.aM) (aSS := c.aSS) (n := c.n) C ⟨P.h0, fun q hq => by
    simp only [List.mem_cons, List.not_mem_nil, or_false] at hq
    rcases hq with rfl | rfl | rfl | rfl | rfl
    · exact ⟨S.r.gR, P.out _ (by lcg_sub)⟩
    · exact ⟨S.r.gD, P.out _ (by lcg_sub)⟩
    · exact ⟨S.r.gS, P.out _ (by lcg_sub)⟩
    · exact ⟨S.o.gB, P.out _ (by lcg_sub)⟩
    · exact ⟨S.r.p3, P.out _ (by lcg_sub)⟩⟩ dS (by
      simp only [List.nodup_cons, List.mem_cons, List.not_mem_nil, not_or, or_false, not_false_eq_true, List.nodup_nil, and_true]
      exact ⟨⟨b1, b2, b3, b7⟩, ⟨b9, b10, b14⟩, ⟨b16, b20⟩, b25⟩) hr hu P.h0 P.hl (fun b hb q => P.dis b hb (adrs_core (by
      simp only [List.mem_cons, List.not_mem_nil, or_false] at q; rcases q with q | q | q | q | q <;> simp [core, q]))) S.p.b0 S.p.b0' S.p.b1 hb S.p.tr3 (S.p.c3.pos S.o.gC) (fun a e => ?_) fun b h' tk' hb' y => ?_
  · rcases S.p.c3 with x | ⟨a', oc, vs, t, e1, e2, _⟩
    · rw [x] at e; cases e
    · rw [e1] at e; cases e; exact P.outC _ e2
  · subst hb'
    obtain ⟨v', Y, fit'⟩ := look_post S fit P.hl P.outM P.outC P.dis y
    exact h _ v' _ Y fit'
end

/-- what a lap of the deeds finds -/
inductive DdR (s : Shared) (L I : Addr) (oI : Obj) (J : Heap → (Str → Option Value) → List (Addr × Obj) → Prop) (fl : Flow) (s' : Shared) : Prop
  | mk (e : fl = Flow.next) (h5 : Heap) (tk5 : Nat) (g2 : Heap) (m2 : Str → Option Value) (news2 : List (Addr × Obj)) (es : s' = { s with heap := h5, toks := tk5 }) (F : Fr g2 L h5 m2) (N : News g2 L h5 ((I, oI) :: news2)) (off : ∀ q ∈ news2, q.1 ≠ I) (fine : m2 (Str.ofString "fine") = some (.bool true)) (j : J g2 m2 news2)
inductive DdF (w : World) (p : Program) (loose : List Str) (mean : ExcName → Option Value) (mg mb : Str → Option Value) (L : Addr) (h6 : Heap) (m6 : Str → Option Value) (news : List (Addr × Obj)) (G : (Str → Option Value) → Heap → Nat → Prop) : Prop
  | mk (g2 : Heap) (F : Fr g2 L h6 m6) (N : News g2 L h6 news) (X : (k0.heap_1 w.params).In g2) (T : Top p loose mean mg mb g2) (go : ∀ h7 tk7 m7, Fr g2 L h7 m7 → News g2 L h7 news → G m7 h7 tk7)
inductive DdJ (prog : Program) (w : World) (h₀ : Heap) (c : Co) (v : Va) (l : List Env) (h : Heap) (L : Addr) (d : Nat) (z : Int) (tz : Tok) (i : Nat) (g : Heap) (m : Str → Option Value) (news : List (Addr × Obj)) : Prop
  | mk (v' : Va) (e : news = (c.aB, boxObj v'.b0 v'.b1 v'.b2 v'.t0 v'.t1 v'.t2 v'.nB) :: Mine.mk v' :: codF h₀ v'.cod) (fit : Fit v') (st : h₀.StaysIn g) (hl : g.FunFrames h₀ l)
    (i1 : m (Str.ofString "box") = some (.ref c.aB)) (i2 : m (Str.ofString "reader") = some (.ref c.aR)) (i3 : m (Str.ofString "state") = some (.ref c.aS)) (i4 : m (Str.ofString "deep") = some (.int z tz))
    (y0 : 0 ≤ v'.b0 ∧ v'.b0 < 10 ^ 90 ∧ 0 ≤ v'.b1 ∧ v'.b1 ≤ v.b1 + (1 + i * lapc d : Nat))
    (go : ∀ (hh : Heap) (mm : Str → Option Value) (b0 b1 b2 : Int) (t0 t1 t2 : Tok) (nB k'' : Nat), 0 ≤ b0 → b0 < 10 ^ 90 → 0 ≤ b1 → b1 ≤ v.b1 + k'' → 1 + i * lapc d ≤ k'' → Fr g L hh mm → News g L hh ((c.aB, boxObj b0 b1 b2 t0 t1 t2 nB) :: Mine.mk v' :: codF h₀ v'.cod) →
      Post prog w h₀ c v [] k'' (fa l) h hh { v' with b0 := b0, b1 := b1, b2 := b2, t0 := t0, t1 := t1, t2 := t2, nB := nB })
section
variable {prog : Program} {w : World} {p : Program} {loose : List Str} {mean : ExcName → Option Value} {mg mb : Str → Option Value} {c : Co} {h₀ : Heap}
theorem deeds_at {d : Nat} (C : Cx w p loose mean mg mb c.row c.aT c.aRow c.ts c.rs h₀) (IH : ∀ d', d = d' + 1 → DeedsOk prog w h₀ c d') : DeedsOk prog w h₀ c d := by
  intro dp un l gd s v z tz Q E hr hu hz P fit hs h
  refine wpAny_call ?_
  have hr0 : dp + 100 < recursionLimit := by have := need_ge' d; omega
  have hu0 : un + 1000 < cLine := by have := need_ge' d; omega
  have B := C.base
  have S := P.st
  have hA : At h₀ s.heap ((c.aB, boxObj v.b0 v.b1 v.b2 v.t0 v.t1 v.t2 v.nB) :: mk v :: codF h₀ v.cod) := 
    ⟨P.h0, fm ⟨S.o.gB, P.out _ (mcw mc4)⟩ (fm ⟨S.o.gM, P.outM⟩ fun q hq => ⟨S.o.gC _ (codF_mem.mp hq).1, (codF_mem.mp hq).2⟩)⟩
  have X0 := Frag.In.keeps B.X hA.1
  have hcost := cost_lap d
  have hl6 : 6 ≤ lapc d := by cases d <;> simp [lapc]
  have hn0 := need_ge' d
  have hb1 : v.b1 < 10 ^ 16 := by have := hs.1; omega
  have hb00 := S.p.b0
  have hb01 := S.p.b0'
  have hb10 := S.p.b1
  ktr_enter
  intro g L h₁ m0 hm0 F N' X T st hlt kp
  have C' := C.keeps st
  have lt := ent_lt hlt kp F
  have aMB : v.aM ≠ c.aB := (nd_off S.p.nd (.head _) _ (by lcg_sub)).symm
  have cfB : ∀ q ∈ codF h₀ v.cod, q.1 ≠ c.aB := fun q hq => nc_ne S.p (mca mc4) q (codF_mem.mp hq).1
  have hlg : g.FunFrames h₀ l := frames_upAs P.hl (off_map (fm (fun q => P.dis _ q (mca mc4)) (fm (fun q => P.dis _ q mcM) fun y hy q => frames_noC P.hl S _ q (List.mem_map_of_mem (codF_mem.mp hy).1)))) (Up.of_keeps (fs := []) kp)
  have keepAll : ∀ {hh : Heap} {mm : Str → Option Value} {ob : Obj}, Fr g L hh mm → News g L hh ((c.aB, ob) :: mk v :: codF h₀ v.cod) → ∀ b o, b ≠ c.aB → s.heap.get? b = some o → hh.get? b = some o := fun {hh mm ob} FF NN b o nb e => by
    by_cases q : b ∈ ((c.aB, boxObj v.b0 v.b1 v.b2 v.t0 v.t1 v.t2 v.nB) :: mk v :: codF h₀ v.cod).map (·.1)
    · obtain ⟨y, hy, rfl⟩ := List.mem_map.mp q
      rcases List.mem_cons.mp hy with rfl | hy
      · exact absurd rfl nb
      · have e1 := (hA.2 y (.tail _ hy)).1
        rw [e1] at e; cases e
        exact (NN y (.tail _ hy)).1
    · exact FF.keep _ _ (kp b o e q)
  clear hlt
  dsimp only
  k_unmd
  k_fold
  k_steps
  refine wpAny_For ?_
  k_steps
  rename News _ _ _ _ => kN
  rename Fr _ _ _ _ => kF
  rename IsRange _ _ _ _ _ _ _ _ => hR
  obtain ⟨h2, e9, -⟩ := name2 (P := fun hx : Heap => Fr g L hx _) kF
  subst e9
  obtain ⟨dn, e9, hdn⟩ := name2 (P := fun d : Nat => (d : Int) < 4) (by assumption)
  subst e9
  refine for_range rfl hR (small_one (by omega) (by omega) (by omega) (by omega)) (rangeSize_nat _ _) (DdJ prog w h₀ c v l s.heap L d z tz) (fun _ _ => True) kF kN
    ⟨{ v with b0 := _, b1 := _, t0 := _, t1 := _, t2 := _, nB := _ }, rfl, ⟨fit.nd, fit.ba, fit.pl, fit.j⟩, st, hlg, by ktn_lt, by ktn_lt, by ktn_lt, by ktn_lt, ⟨by with_reducible assumption, by with_reducible assumption, by with_reducible assumption, by dsimp only; omega⟩, fun hh mm c0 c1 c2 u0 u1 u2 nB k'' p0 p1 p2 p3 hk FF NN =>
      ⟨S.box (fun b o _ nb e => keepAll FF NN b o nb e) p0 p1 p2 (NN _ (.head _)).1, ⟨rfl, ⟨v.top.ys, rfl, by omega⟩, p3⟩,
        Up.of_keeps fun b o e nb => keepAll FF NN b o (fun q => nb (q ▸ mcw mc4)) e, P.dis, P.outM, P.outC⟩⟩ trivial (fun _ _ _ _ _ => trivial) ?_ ?_
  · intro I i tv g' m₁ news₁ h₃ tk₃ oI hI hi J₁ _ F₃ N₃ off hoI
    obtain ⟨v', rfl, fit1, st1, hl1, j1, j2, j3, j4, ⟨x0, x1, x2, x3⟩, JP⟩ := J₁
    have LI : L < I := by rw [hI]; exact kF.ns.lt
    have C1 := C.keeps st1
    obtain ⟨X1, T1⟩ := id C1.base
    have Y0 := JP h₃ m₁ v'.b0 v'.b1 v'.b2 v'.t0 v'.t1 v'.t2 v'.nB _ x0 x1 x2 x3 (Nat.le_refl _) F₃ (news_tail N₃)
    have o1 : c.aB ≠ I := off _ (.head _)
    have o2 : v'.aM ≠ I := off _ (.tail _ (.head _))
    have o3 : ∀ q ∈ codF h₀ v'.cod, q.1 ≠ I := fun q hq => off q (.tail _ (.tail _ hq))
    have q1 : v'.aM ≠ c.aB := (nd_off Y0.st.p.nd (.head _) _ (by lcg_sub)).symm
    have q2 : ∀ q ∈ codF h₀ v'.cod, q.1 ≠ c.aB := fun q hq => nc_ne Y0.st.p (mca mc4) q (codF_mem.mp hq).1
    have hi4 : i + 1 ≤ 4 := by omega
    have hlap : (i + 1) * lapc d ≤ 4 * lapc d := Nat.mul_le_mul_right _ hi4
    have hlap2 : (i + 1) * lapc d = i * lapc d + lapc d := Nat.succ_mul _ _
    have hxP : i * lapc d + lapc d + 2 ≤ cost d := by clear hs hb1 hb00 hb01 hb10; omega
    have hxC : i * lapc d + 8 ≤ cost d := by clear hs hb1 hb00 hb01 hb10; omega
    clear hlap hcost
    have hb1' : v'.b1 < 10 ^ 16 := by have := hs.1; omega
    have hLs : ∀ b ∈ core c ++ scAd v.sc, b < L := fun b hb => by
      obtain ⟨o, e⟩ := S.has (adrs_of hb); exact lt b o e
    clear kF kN hR X T C' keepAll hA X0 aMB cfB hb1 hb00 hb01 hb10 hI hi
    have stopIf : StopIf := trivial
    dsimp only
    k_unmd
    k_fold
    k_steps
    · rename Fr _ _ _ _ => kF
      rename News _ _ _ _ => kN
      have Y1 := JP _ _ v'.b0 v'.b1 _ v'.t0 v'.t1 _ _ (cost d) x0 x1 x2 (by omega) (by omega) kF (news_tail kN)
      exact h _ _ _ Y1 ⟨fit1.nd, fit1.ba, fit1.pl, fit1.j⟩
    · rename Fr _ _ _ _ => kF
      rename News _ _ _ _ => kN
      obtain ⟨h4, e9, -⟩ := name2 (P := fun hx : Heap => Fr g' L hx _) kF
      subst e9
      clear stopIf
      obtain ⟨R1, hR1⟩ : ∃ R1 : Value → Shared → Prop, R1 = (fun v s' => ∃ t tk, v = .int (if 0 < z then 13 else 8) t ∧ s' = { s with heap := h4, toks := tk }) := ⟨_, rfl⟩
      refine wpAny_mono (Q := R1) ?_ (fun vw s' hR => ?_) (fun _ _ x => x)
      · k_steps
        all_goals (rw [hR1]; first | exact ⟨_, _, congrArg (fun k => Value.int k _) (if_pos (by omega)).symm, rfl⟩ | exact ⟨_, _, congrArg (fun k => Value.int k _) (if_neg (by omega)).symm, rfl⟩)
      · rw [hR1] at hR
        obtain ⟨tw, tk9, rfl, rfl⟩ := hR
        have stopIf : StopIf := trivial
        k_steps
        (try clear kF)
        (try clear kN)
        rename Fr _ _ _ _ => kF
        rename News _ _ _ _ => kN
        obtain ⟨h5, e9, -⟩ := name2 (P := fun hx : Heap => Fr g' L hx _) kF
        subst e9
        obtain ⟨kk, e9, hkk⟩ := name2 (P := fun d : Nat => (d : Int) < if 0 < z then 13 else 8) (by assumption)
        subst e9
        clear stopIf
        have hway : (kk : Int) < 13 ∧ (z ≤ 0 → (kk : Int) < 8) := by split at hkk <;> omega
        have Y4 := JP _ _ _ _ _ _ _ _ _ (1 + (1 + i * lapc d)) (by with_reducible assumption) (by with_reducible assumption) (by with_reducible assumption) (by omega) (by omega) kF (news_tail kN)
        obtain ⟨v1, -, Y4, fit4, hM4⟩ := name2 (P := fun x : Va => Post prog w h₀ c v [] (1 + (1 + i * lapc d)) (fa l) s.heap h5 x ∧ Fit x ∧ x.aM = v'.aM) ⟨Y4, ⟨fit1.nd, fit1.ba, fit1.pl, fit1.j⟩, rfl⟩
        have P4 := Post.pre P Y4 (List.forall_mem_nil _)
        have hLb : ∀ b ∈ adrs c v1, b ≠ L := fun b hb => by
          have e1 := Y4.gr.scAd
          simp only [adrs, List.mem_append, List.mem_cons] at hb
          rcases hb with hb | hb | hb
          · exact Nat.ne_of_lt (hLs b (List.mem_append_left _ hb))
          · rw [hb, hM4]; exact (kN (mk v') (by k_mem)).2.1
          · exact Nat.ne_of_lt (hLs b (List.mem_append_right _ (e1 ▸ hb)))
        have P4e : ∀ {env : Env}, env.frame = some L → env.scope.kind ≠ .module → Pre prog w h₀ c v1 (env :: l) h5 := fun hf hk => Pre.push P4 Y4.st rfl P4.outM P4.outC P4.dis kF st1 hl1 hf hk hLb
        have gI4 := kN (I, oI) (by k_mem)
        have hI0 := gone_of st1 gI4.2.2
        have hs1 : ∀ b, (1 + (1 + i * lapc d)) + b ≤ cost d → Small v1 d b := fun b hb => hs.grown Y4.gr b hb
        obtain ⟨R2, hR2⟩ : ∃ R2 : Flow → Shared → Prop, R2 = DdR s L I oI (DdJ prog w h₀ c v l s.heap L d z tz (i + 1)) := ⟨_, rfl⟩
        refine wpAny_mono (Q := R2) ?_ (fun fl s' hR => ?_) (fun _ _ x => x)
        · have fin : ∀ {k' : Nat} {h6 : Heap} {v2 : Va} {env : Env} {m6 : Str → Option Value}, Fr g' L h5 m6 → env.frame = some L → env.scope.kind ≠ .module → Post prog w h₀ c v1 [] k' (fa (env :: l)) h5 h6 v2 → Fit v2 → 1 + k' ≤ lapc d →
              DdF w p loose mean mg mb L h6 m6 ((I, oI) :: (c.aB, boxObj v2.b0 v2.b1 v2.b2 v2.t0 v2.t1 v2.t2 v2.nB) :: mk v2 :: codF h₀ v2.cod) fun m7 h7 tk7 => m7 (Str.ofString "fine") = some (.bool true) → m7 (Str.ofString "box") = some (.ref c.aB) → m7 (Str.ofString "reader") = some (.ref c.aR) → m7 (Str.ofString "state") = some (.ref c.aS) → m7 (Str.ofString "deep") = some (.int z tz) → R2 .next { s with heap := h7, toks := tk7 } := by
            intro k' h6 v2 env m6 FF hf hk Y fit2 hk'
            obtain ⟨g2, F2, N2, st2, hl2, off2, JP2⟩ := lap_end FF P Y4 (P4e hf hk) Y hf lt hLs LI hoI gI4.1 hI0
            obtain ⟨X2, T2⟩ := id (C.keeps st2).base
            refine ⟨g2, F2, N2, X2, T2, fun h7 tk7 m7 F7 N7 i0 i1 i2 i3 i4 => ?_⟩
            rw [hR2]
            refine ⟨rfl, _, _, g2, m7, _, rfl, F7, N7, off2, i0, v2, rfl, fit2, st2, hl2, i1, i2, i3, i4, ⟨Y.st.p.b0, Y.st.p.b0', Y.st.p.b1, ?_⟩, fun hh mm b0 b1 b2 t0 t1 t2 nB k'' p0 p1 p2 p3 hk2 => JP2 hh mm b0 b1 b2 t0 t1 t2 nB k'' p0 p1 p2 p3 (by omega)⟩
            have e1 := Y.gr.b1
            have e2 := Y4.gr.b1
            omega
          have hb4 : v1.b1 < 10 ^ 16 := by have := Y4.gr.b1; have := hs.1; omega
          have rest : ∀ {d' : Nat}, d = d' + 1 → need d = need d' + 60 ∧ lapc d = cost d' + 6 := fun e => by rw [e]; exact ⟨rfl, rfl⟩
          k_steps
          · refine looked_at (l := envOf _ _ L 326 _ :: l) C (by ktr_room) (by ktr_units) (P4e rfl (by nofun)) fit4 hb4 fun h6 v2 tk6 Y fit2 => ?_
            obtain ⟨g2, F2, N2, X2, T2, hR⟩ := fin kF rfl (by nofun) Y fit2 (by omega)
            clear fin kF kN X1 T1 C1
            k_steps
            rename Fr _ _ _ _ => kF
            rename News _ _ _ _ => kN
            exact hR _ _ _ kF kN (by ktn_lt) (by ktn_lt) (by ktn_lt) (by ktn_lt) (by ktn_lt)
          · have h78 : (kk : Int) = 7 ∨ (kk : Int) = 8 := by omega
            rcases h78 with e7 | e8
            · rw [e7]
              refine scoped7_at (d := d) (l := envOf _ _ L 326 _ :: l) C (by ktr_room) (by ktr_units) (P4e rfl (by nofun)) fit4 (hs1 _ (by omega)) fun h6 v2 tk6 Y fit2 => ?_
              obtain ⟨g2, F2, N2, X2, T2, hR⟩ := fin kF rfl (by nofun) Y fit2 (by omega)
              clear fin kF kN X1 T1 C1
              k_steps
              rename Fr _ _ _ _ => kF
              rename News _ _ _ _ => kN
              exact hR _ _ _ kF kN (by ktn_lt) (by ktn_lt) (by ktn_lt) (by ktn_lt) (by ktn_lt)
            · rw [e8]
              obtain ⟨d', hd'⟩ : ∃ d', d = d' + 1 := ⟨d - 1, by omega⟩
              obtain ⟨rn, rl⟩ := rest hd'
              refine scoped8_at (d := d') (l := envOf _ _ L 326 _ :: l) C (IH d' hd') (by ktr_room) (by ktr_units) (by omega) (P4e rfl (by nofun)) fit4 (by rw [← hd']; exact hs1 _ (by omega)) fun h6 v2 tk6 Y fit2 => ?_
              obtain ⟨g2, F2, N2, X2, T2, hR⟩ := fin kF rfl (by nofun) Y fit2 (by omega)
              clear fin kF kN X1 T1 C1
              k_steps
              rename Fr _ _ _ _ => kF
              rename News _ _ _ _ => kN
              exact hR _ _ _ kF kN (by ktn_lt) (by ktn_lt) (by ktn_lt) (by ktn_lt) (by ktn_lt)
          · obtain ⟨d', hd'⟩ : ∃ d', d = d' + 1 := ⟨d - 1, by omega⟩
            obtain ⟨rn, rl⟩ := rest hd'
            refine nested_at (d := d') (l := envOf _ _ L 326 _ :: l) C (IH d' hd') (by ktr_room) (by ktr_units) (by omega) (P4e rfl (by nofun)) fit4 (by rw [← hd']; exact hs1 _ (by omega)) (by omega) fun h6 v2 tk6 Y fit2 => ?_
            obtain ⟨g2, F2, N2, X2, T2, hR⟩ := fin kF rfl (by nofun) Y fit2 (by omega)
            clear fin kF kN X1 T1 C1
            k_steps
            rename Fr _ _ _ _ => kF
            rename News _ _ _ _ => kN
            exact hR _ _ _ kF kN (by ktn_lt) (by ktn_lt) (by ktn_lt) (by ktn_lt) (by ktn_lt)
        · rw [hR2] at hR
          obtain ⟨rfl, h6, tk5, g2, m2, news2, rfl, F2, N2, off2, hf2, v2, rfl, fit2, st2, hl2, i1, i2, i3, i4, y0, JP2⟩ := hR
          have C2 := C.keeps st2
          obtain ⟨X2, T2⟩ := id C2.base
          (try clear kF)
          (try clear kN)
          clear X1 T1 C1
          k_steps
          rename Fr _ _ _ _ => kF
          rename News _ _ _ _ => kN
          have Y6 := JP2 _ _ v2.b0 v2.b1 v2.b2 v2.t0 v2.t1 v2.t2 v2.nB _ y0.1 y0.2.1 y0.2.2.1 y0.2.2.2 (Nat.le_refl _) kF (news_tail kN)
          refine agrees_st (C2.keeps kF.keep) Y6.st fit2 (by ktr_room) (by ktr_units) fun h' tk' kS => ?_
          have F7 := Fr.keeps kF kS
          have N7 := News.grown kN kS
          clear kF kN kS Y6
          k_steps
          rename Fr _ _ _ _ => kF
          rename News _ _ _ _ => kN
          exact ⟨_, _, g2, m2, _, rfl, trivial, kF, kN, off2, v2, rfl, fit2, st2, hl2, i1, i2, i3, i4, y0, JP2⟩
  · intro g' m₁ news₁ h₃ tk₃ J₁ _ F₃ N₃
    obtain ⟨v', rfl, fit1, st1, hl1, j1, j2, j3, j4, ⟨x0, x1, x2, x3⟩, JP⟩ := J₁
    have hdn4 : (1 + (dn : Int) - 0).toNat ≤ 4 := by omega
    have hlap : (1 + (dn : Int) - 0).toNat * lapc d ≤ 4 * lapc d := Nat.mul_le_mul_right _ hdn4
    have Y0 := JP h₃ m₁ v'.b0 v'.b1 v'.b2 v'.t0 v'.t1 v'.t2 v'.nB (cost d) x0 x1 x2 (by omega) (by omega) F₃ N₃
    clear kF kN hR X T C' keepAll hA X0 aMB cfB hb1 hb00 hb01 hb10
    dsimp only
    k_steps
    exact h _ _ _ Y0 fit1
end
theorem deeds_ok {prog : Program} {w : World} {p : Program} {loose : List Str} {mean : ExcName → Option Value} {mg mb : Str → Option Value} {c : Co} {h₀ : Heap} (C : Cx w p loose mean mg mb c.row c.aT c.aRow c.ts c.rs h₀) : ∀ d, DeedsOk prog w h₀ c d
  | 0 => deeds_at C (fun d' e => by cases e)
  | d + 1 => deeds_at C (fun d' e => by cases e; exact deeds_ok C d)

/-- the objects of a heap above a frame -/
noncomputable def aboveL (h : Heap) (C : Addr) : List (Addr × Obj) := (List.range h.objs.size).filterMap fun b => if C < b then (h.get? b).map fun o => (b, o) else none
theorem aboveL_mem {h : Heap} {C b : Addr} {o : Obj} : (b, o) ∈ aboveL h C ↔ C < b ∧ h.get? b = some o := by
  unfold aboveL
  rw [List.mem_filterMap]
  constructor
  · rintro ⟨a, _, e⟩
    split at e
    · rename_i hc
      obtain ⟨o', e1, e2⟩ := Option.map_eq_some_iff.mp e
      cases e2
      exact ⟨hc, e1⟩
    · cases e
  · rintro ⟨hc, e⟩
    exact ⟨b, List.mem_range.mpr (Heap.lt_size e), by rw [if_pos hc, e]; rfl⟩
/-- standing in a frame with all that a heap holds -/
theorem stand {h : Heap} {C : Addr} {m : Str → Option Value} (hn : h.Ns C m) : Fr (cutAt h C) C h m ∧ News (cutAt h C) C h (aboveL h C) ∧ (∀ b o, b ≠ C → h.get? b = some o → (cutAt h C).get? b = some o ∨ (b, o) ∈ aboveL h C) ∧ ∀ b o, b < C → h.get? b = some o → (cutAt h C).get? b = some o := by
  have hi : ∀ b, C ≤ b → (cutAt h C).get? b = none := fun b hb => Heap.get?_none_of_le (Nat.le_trans (cutAt_size _ _) hb)
  have lo : ∀ b o, b < C → h.get? b = some o → (cutAt h C).get? b = some o := fun b o hb e => (cutAt_get hb).trans e
  refine ⟨⟨hn, fun b o e => ?_, cutAt_size _ _⟩, fun q hq => ?_, fun b o hb e => ?_, lo⟩
  · by_cases hb : b < C
    · rw [cutAt_get hb] at e; exact e
    · rw [hi b (Nat.not_lt.mp hb)] at e; cases e
  · obtain ⟨hc, e⟩ := aboveL_mem.mp (show (q.1, q.2) ∈ aboveL h C from hq)
    exact ⟨e, Nat.ne_of_gt hc, hi _ (Nat.le_of_lt hc)⟩
  · rcases Nat.lt_or_gt_of_ne hb with q | q
    · exact .inl (lo b o q e)
    · exact .inr (aboveL_mem.mpr ⟨q, e⟩)
theorem stand_keep {h h' : Heap} {C : Addr} {m : Str → Option Value} {news : List (Addr × Obj)} (al : ∀ b o, b ≠ C → h.get? b = some o → (cutAt h C).get? b = some o ∨ (b, o) ∈ aboveL h C) (F : Fr (cutAt h C) C h' m) (N : News (cutAt h C) C h' news) (hs : ∀ z ∈ aboveL h C, z ∈ news) :
    ∀ b o, b ≠ C → h.get? b = some o → h'.get? b = some o := fun b o hb e => by
  rcases al b o hb e with q | q
  · exact F.keep _ _ q
  · exact N.get (hs _ q)
/-- the tokens made -/
noncomputable def MadeT (w : World) (ts : List Addr) (row : List Tok0) (tks : List (Addr × Obj)) : Prop := ∀ (i : Nat) (a : Addr) (t : Tok0), ts[i]? = some a → row[i]? = some t →
  ∃ dx kt n tz t1 t2 t3, (a, instObj 209 dx) ∈ tks ∧ (dx, tkDict w kt (.str t.kind t1) (sv t.sign t2) (.int t.line t3) n tz) ∈ tks
theorem MadeT.snoc {w : World} {ts : List Addr} {row : List Tok0} {tks : List (Addr × Obj)} {t : Tok0} {a dx : Addr} {kt : Nat → Tok} {n : Nat} {tz t1 t2 t3 : Tok} (x : MadeT w ts row tks) (ht : row[ts.length]? = some t) :
    MadeT w (ts ++ [a]) row ((a, instObj 209 dx) :: (dx, tkDict w kt (.str t.kind t1) (sv t.sign t2) (.int t.line t3) n tz) :: tks) := fun i b u e1 e2 => by
  by_cases hi : i < ts.length
  · rw [List.getElem?_append_left hi] at e1
    obtain ⟨dx', kt', n', tz', u1, u2, u3, m1, m2⟩ := x i b u e1 e2
    exact ⟨dx', kt', n', tz', u1, u2, u3, .tail _ (.tail _ m1), .tail _ (.tail _ m2)⟩
  · have hi2 : i < (ts ++ [a]).length := (List.getElem?_eq_some_iff.mp e1).1
    rw [List.length_append, List.length_cons, List.length_nil] at hi2
    have : i = ts.length := by omega
    subst this
    rw [List.getElem?_append_right (Nat.le_refl _), Nat.sub_self] at e1
    cases e1
    rw [ht] at e2; cases e2
    exact ⟨dx, kt, n, tz, t1, t2, t3, .head _, .tail _ (.head _)⟩
inductive EltPost (w : World) (C : Addr) (t : Tok0) (s₂ : Shared) (yv : Value) (s₃ : Shared) : Prop
  | mk (a dx : Addr) (kt : Nat → Tok) (n : Nat) (tz t1 t2 t3 : Tok) (h' : Heap) (tk' : Nat) (m' : Str → Option Value) (e1 : yv = .ref a) (e2 : s₃ = { s₂ with heap := h', toks := tk' }) (hn : h'.Ns C m') (kp : KeepsBut [C] s₂.heap h') (f1 : s₂.heap.get? a = none) (f2 : s₂.heap.get? dx = none)
    (g1 : h'.get? a = some (instObj 209 dx)) (g2 : h'.get? dx = some (tkDict w kt (.str t.kind t1) (sv t.sign t2) (.int t.line t3) n tz))
inductive CtPost (prog : Program) (w : World) (A : Around) (env : Env) (elt : Expr) (x y z : Str) (scope : Scope) (cl : List (Str × Addr)) (row : List Tok0) (Q : Value → Shared → Prop) (xv : Value) (s₁ : Shared) : Prop
  | mk (ax : Addr) (rs : List Addr) (e : xv = .ref ax) (hl : s₁.heap.IsList ax (rs.map Value.ref).toArray) (hlen : rs.length = row.length) (hfew : row.length ≤ 100) (hrow : ∀ (i : Nat) (a : Addr) (t : Tok0), rs[i]? = some a → row[i]? = some t → RowAt s₁.heap a t)
      (helt : ∀ C t t1 t2 t3 m₂ s₂ E', t ∈ row → s₁.heap.objs.size ≤ C → s₂.heap.Ns C m₂ → m₂ x = some (.str t.kind t1) → m₂ y = some (sv t.sign t2) → m₂ z = some (.int t.line t3) → (∀ b o, s₁.heap.get? b = some o → s₂.heap.get? b = some o) →
        wpAny (model prog w) A (eval elt (compEnvC scope cl C env)) (EltPost w C t s₂) E' s₂)
      (hQ : ∀ (D : Addr) (ts : List Addr) (tks : List (Addr × Obj)) (n : Nat) (h' : Heap) (tk : Nat), (∀ b o, s₁.heap.get? b = some o → h'.get? b = some o) → s₁.heap.get? D = none → h'.get? D = some (listOf (ts.map Value.ref).toArray n) → ts.length = row.length → MadeT w ts row tks → (∀ q ∈ tks, h'.get? q.1 = some q.2 ∧ s₁.heap.get? q.1 = none) →
        Q (.ref D) { s₁ with heap := h', toks := tk })
inductive TkS (w : World) (s₁ : Shared) (I ax C D : Addr) (rs : List Addr) (row : List Tok0) (k : Nat) (s' : Shared) : Prop
  | mk (h' : Heap) (tk i : Nat) (ts : List Addr) (tks : List (Addr × Obj)) (m' : Str → Option Value) (nD : Nat) (e : s' = { s₁ with heap := h', toks := tk }) (hi : i ≤ row.length) (hk : k = row.length + 1 - i) (hts : ts.length = i) (hst : h'.IsListIter I ax i ∧ h'.IsList ax (rs.map Value.ref).toArray) (hn : h'.Ns C m')
    (hgD : h'.get? D = some (listOf (ts.map Value.ref).toArray nD)) (hold : ∀ b o, s₁.heap.get? b = some o → h'.get? b = some o) (hM : MadeT w ts row tks) (hT : ∀ q ∈ tks, h'.get? q.1 = some q.2 ∧ s₁.heap.get? q.1 = none ∧ q.1 ≠ I ∧ q.1 ≠ C ∧ q.1 ≠ D)
section
variable {prog : Program} {w : World} {A : Around} {E : Value → Shared → Prop} {s : Shared} {env : Env}
/-- a comprehension that makes the row's tokens -/
theorem comp_toks {elt iter : Expr} {x y z : Str} {px py pz tp : Pos} {tc : Nat} {scope : Scope} {cl : List (Str × Addr)} {pos : Pos} {Q : Value → Shared → Prop} {row : List Tok0}
    (hh : A.handled = none) (hclos : closureFor scope env = pure cl) (hcell : ∀ y ∈ scope.names, y.2 ≠ .cell) (hkind : scope.kind = .function)
    (hnames : ∀ y ∈ scope.names, y.2 = .local → scope.names.lookup y.1 = some .local) (hx : scope.names.lookup x = some .local) (hy : scope.names.lookup y = some .local) (hz : scope.names.lookup z = some .local) (hxy : x ≠ y) (hxz : x ≠ z) (hyz : y ≠ z)
    (h : wpAny (model prog w) A (eval iter env) (CtPost prog w A env elt x y z scope cl row Q) E s)
    (hs : ∀ x, foldedSetIterable iter env x = pure x) :
    wpAny (model prog w) A (eval (.ListComp elt [⟨.Tuple [.Name x px, .Name y py, .Name z pz] tc tp, iter, [], 0⟩] scope pos) env) Q E s := by
  rw [eval_ListComp]
  refine wpAny_comprehension_free (use := none) rfl hs hclos hkind hnames (wpAny_mono h (fun xv s₁ h₁ => ?_) fun _ _ e => e)
  obtain ⟨ax, rs, rfl, hl, hlen, hfew, hrow, helt, hQ⟩ := h₁
  have hlt : ax < s₁.heap.objs.size := by obtain ⟨_, e, _⟩ := hl; exact Heap.lt_size e
  refine wpAny_pyIter_list hl ?_
  refine wpAny_newObj_type (wpAny_newFunctionEnv hcell (by intro y hy; simp at hy) (fun h₁ hns₁ hsb₁ => ?_) hkind)
  dsimp only at hns₁ hsb₁ ⊢
  generalize hH1 : s₁.heap.push { cls := .type "list_iterator", dict := none, data := .fields #[.ref ax, .int 0 0] } = H1 at hns₁ hsb₁ ⊢
  generalize hH2 : H1.push { cls := .type "list", dict := none, data := .seq ([] : List Value).toArray } = H2 at hns₁ hsb₁ ⊢
  have e1 : H1.objs.size = s₁.heap.objs.size + 1 := by rw [← hH1, Heap.size_push]
  have e2 : H2.objs.size = s₁.heap.objs.size + 1 + 1 := by rw [← hH2, Heap.size_push, e1]
  obtain ⟨I, hI⟩ : ∃ I, I = s₁.heap.objs.size := ⟨_, rfl⟩
  obtain ⟨D, hD⟩ : ∃ D, D = H1.objs.size := ⟨_, rfl⟩
  obtain ⟨C, hC⟩ : ∃ C, C = H2.objs.size := ⟨_, rfl⟩
  rw [← hC] at hns₁ hsb₁ ⊢
  rw [← hD, ← hI]
  have ID : I < D := by rw [hI, hD, e1]; exact Nat.lt_succ_self _
  have DC : D < C := by rw [hD, hC, e1, e2]; exact Nat.lt_succ_self _
  have old1 : ∀ b o, s₁.heap.get? b = some o → H1.get? b = some o := fun b o e => hH1 ▸ Heap.get?_push_of_some _ e
  have old2 : ∀ b o, H1.get? b = some o → H2.get? b = some o := fun b o e => hH2 ▸ Heap.get?_push_of_some _ e
  have old3 : ∀ b o, H2.get? b = some o → h₁.get? b = some o := fun b o e => hsb₁.extBut b o (by rw [hC]; exact Nat.ne_of_lt (Heap.lt_size e)) (Heap.get?_push_of_some _ e)
  have ltI : ∀ b o, s₁.heap.get? b = some o → b < I := fun b o e => hI ▸ Heap.lt_size e
  have hacc : h₁.get? D = some (listOf (([] : List Addr).map Value.ref).toArray 0) := old3 _ _ (by rw [hD, ← hH2]; exact Heap.get?_push_size _ rfl)
  have hit : h₁.IsListIter I ax 0 := ⟨_, old3 _ _ (old2 _ _ (by rw [hI, ← hH1]; exact Heap.get?_push_size _ rfl)), rfl, rfl⟩
  have hsize : (rs.map Value.ref).toArray.size = row.length := by rw [List.size_toArray, List.length_map, hlen]
  have W := Walks.list (prog := prog) (w := w) hh I ax (Nat.ne_of_lt (hI ▸ hlt)) (rs.map Value.ref).toArray
  rw [hsize] at W
  have loop : ∀ s₃ : Shared, s₃ = { s₁ with heap := h₁, toks := s₁.toks + ([] : List (Str × Value)).length } →
      codeAny (model prog w) A (.compLoop (.ListComp elt [⟨.Tuple [.Name x px, .Name y py, .Name z pz] tc tp, iter, [], 0⟩] scope pos) 0 (.ref I) (.ref D) (compEnvC scope cl C env)) (compPost (model prog w) A E none Q (.ref D) C) s₃ := by
    rintro s₃ rfl
    refine LCp.codeAny_compLoop_pair
      (TkS w s₁ I ax C D rs row) ?_ (row.length + 1)
      ⟨h₁, _, 0, [], [], _, _, rfl, Nat.zero_le _, rfl, rfl, ⟨hit, hl.at fun o e => old3 _ o (old2 _ o (old1 _ o e))⟩, hns₁, hacc, fun b o e => old3 b o (old2 b o (old1 b o e)), fun i a t e => by simp at e, List.forall_mem_nil _⟩
    rintro k s' ⟨h', tk, i, ts, tks, m', nD, rfl, hi, rfl, hts, hst, hn, hgD, hold, hM, hT⟩
    by_cases hlt2 : i < row.length
    · refine W.item i _ _ _ hlt2 hst fun v h₂ tk₂ hPv hst₂ hk₂ => ?_
      obtain ⟨t, ht⟩ : ∃ t, row[i]? = some t := ⟨_, List.getElem?_eq_getElem hlt2⟩
      obtain ⟨a, ha⟩ : ∃ a, rs[i]? = some a := ⟨_, List.getElem?_eq_getElem (by rw [hlen]; exact hlt2)⟩
      have hv : v = .ref a := by
        have h9 : (rs.map Value.ref)[i]? = some v := by simpa using hPv
        rw [List.getElem?_map, ha] at h9
        exact (Option.some.inj h9).symm
      subst hv
      obtain ⟨t1, t2, t3, htu⟩ := hrow i a t ha ht
      have k2 : ∀ b o, b ≠ I → h'.get? b = some o → h₂.get? b = some o := fun b o nb e => hk₂ b o (by simpa using nb) e
      have htu2 : IsTup h₂ a [.str t.kind t1, sv t.sign t2, .int t.line t3].toArray := by
        obtain ⟨o, e, r⟩ := htu
        exact ⟨o, k2 _ _ (Nat.ne_of_lt (ltI _ _ e)) (hold _ _ e), r⟩
      refine wpAny_letOwnedTupleGo_listiter hst₂.1 ?_
      refine assign_Tuple_tuple hh htu2 rfl rfl fun h₅ he => ?_
      have he' : ∀ b o, h₂.get? b = some o → h₅.get? b = some o := fun b o e => he b o (Nat.ne_of_lt (Heap.lt_size e)) e
      have CI : C ≠ I := Nat.ne_of_gt (Nat.lt_trans ID DC)
      refine assignInOrder_cons (wpAny_assign_Name (wpAny_storeName_local (lookup_relabel_local hx) ((hn.at' fun o e => k2 _ o CI e).at' fun o e => he' _ o e) (fun h₆ hn₆ hs₆ => ?_) (by simp [compEnvC, relabel, hkind])))
      refine assignInOrder_cons (wpAny_assign_Name (wpAny_storeName_local (lookup_relabel_local hy) hn₆ (fun h₇ hn₇ hs₇ => ?_) (by simp [compEnvC, relabel, hkind])))
      refine assignInOrder_cons (wpAny_assign_Name (wpAny_storeName_local (lookup_relabel_local hz) hn₇ (fun h₃ hn₃ hs₃ => ?_) (by simp [compEnvC, relabel, hkind])))
      refine assignInOrder_nil ?_
      have k3 : ∀ b o, b ≠ C → h₂.get? b = some o → h₃.get? b = some o := fun b o hb e => hs₃.extBut b o hb (hs₇.extBut b o hb (hs₆.extBut b o hb (he' b o e)))
      have ltC : ∀ b o, s₁.heap.get? b = some o → b ≠ C ∧ b ≠ I ∧ b ≠ D := fun b o e => by
        have := ltI b o e
        exact ⟨Nat.ne_of_lt (Nat.lt_trans this (Nat.lt_trans ID DC)), Nat.ne_of_lt this, Nat.ne_of_lt (Nat.lt_trans this ID)⟩
      have hold3 : ∀ b o, s₁.heap.get? b = some o → h₃.get? b = some o := fun b o e => k3 b o (ltC b o e).1 (k2 b o (ltC b o e).2.1 (hold b o e))
      have hst₃ := W.frame _ _ h₃ hst₂ fun b hb o e => k3 b o (fm (P := fun b => b ≠ C) (Ne.symm CI) (all1 (Nat.ne_of_lt (Nat.lt_trans (hI ▸ hlt) (Nat.lt_trans ID DC)))) b hb) e
      have hgD3 : h₃.get? D = some (listOf (ts.map Value.ref).toArray nD) := k3 _ _ (Nat.ne_of_lt DC) (k2 _ _ (Nat.ne_of_gt ID) hgD)
      have hT3 : ∀ q ∈ tks, h₃.get? q.1 = some q.2 := fun q hq => k3 _ _ (hT q hq).2.2.2.1 (k2 _ _ (hT q hq).2.2.1 (hT q hq).1)
      refine wpAny_mono (helt C t t1 t2 t3 _ _ _ (List.mem_of_getElem? ht) (Nat.le_of_lt (hI ▸ Nat.lt_trans ID DC)) hn₃ (by simp [hxy, hxz]) (by simp [hyz]) (by simp) hold3) (fun yv s₄ h₄ => ?_) fun _ _ e => e
      obtain ⟨a', dx, kt, n', tz, u1, u2, u3, h₈, tk₈, m₈, rfl, rfl, hn₈, kp, f1, f2, g1, g2⟩ := h₄
      have kp' : ∀ b o, b ≠ C → h₃.get? b = some o → h₈.get? b = some o := fun b o nb e => kp b o e (by simpa using nb)
      have hC3 : ∃ o, h₃.get? C = some o := by obtain ⟨o, _, _, e, _⟩ := hn₃; exact ⟨o, e⟩
      have hI3 : ∃ o, h₃.get? I = some o := by obtain ⟨o, e, _⟩ := hst₃.1; exact ⟨o, e⟩
      have off : ∀ b, h₃.get? b = none → s₁.heap.get? b = none ∧ b ≠ I ∧ b ≠ C ∧ b ≠ D := fun b e => by
        refine ⟨?_, fun q => ?_, fun q => ?_, fun q => ?_⟩
        · cases q : s₁.heap.get? b with
          | none => rfl
          | some o => rw [hold3 _ _ q] at e; cases e
        · obtain ⟨o, e'⟩ := hI3; rw [q, e'] at e; cases e
        · obtain ⟨o, e'⟩ := hC3; rw [q, e'] at e; cases e
        · rw [q, hgD3] at e; cases e
      have hst₈ := W.frame _ _ h₈ hst₃ fun b hb o e => kp' b o (fm (P := fun b => b ≠ C) (Ne.symm CI) (all1 (Nat.ne_of_lt (Nat.lt_trans (hI ▸ hlt) (Nat.lt_trans ID DC)))) b hb) e
      refine append_at (hsz := by show (ts.map Value.ref).toArray.size ≤ sizeLine; rw [List.size_toArray, List.length_map, hts, sizeLine_eq]; omega) (kp' _ _ (Nat.ne_of_lt DC) hgD3) fun h₉ hs₉ hD₉ => ?_
      have k9 : ∀ b o, b ≠ D → h₈.get? b = some o → h₉.get? b = some o := fun b o nb e => hs₉.extBut b o nb e
      refine ⟨row.length + 1 - (i + 1), by omega, h₉, _, i + 1, ts ++ [a'], (a', instObj 209 dx) :: (dx, tkDict w kt (.str t.kind u1) (sv t.sign u2) (.int t.line u3) n' tz) :: tks, m₈, nD + 1, rfl, hlt2, rfl, by rw [List.length_append, List.length_singleton, hts], W.frame _ _ h₉ hst₈ fun b hb o e => k9 b o (fm (P := fun b => b ≠ D) (Nat.ne_of_lt ID) (all1 (Nat.ne_of_lt (Nat.lt_trans (hI ▸ hlt) ID))) b hb) e, hn₈.at' fun o e => k9 _ o (Nat.ne_of_gt DC) e, ?_, fun b o e => k9 b o (ltC b o e).2.2 (kp' b o (ltC b o e).1 (hold3 b o e)), hM.snoc (by rw [hts]; exact ht), ?_⟩
      · first | (rw [hD₉, List.push_toArray, List.map_append]; rfl) | (rw [hD₉, List.map_append]; rfl)
      · refine List.forall_mem_cons.mpr ⟨⟨k9 _ _ (off _ f1).2.2.2 g1, off _ f1⟩, List.forall_mem_cons.mpr ⟨⟨k9 _ _ (off _ f2).2.2.2 g2, off _ f2⟩, fun q hq => ⟨k9 _ _ (hT q hq).2.2.2.2 (kp' _ _ (hT q hq).2.2.2.1 (hT3 q hq)), (hT q hq).2⟩⟩⟩
    · obtain rfl : i = row.length := Nat.le_antisymm hi (Nat.not_lt.mp hlt2)
      refine W.done _ _ _ hst fun h₂ tk₂ hk₂ => ?_
      have k2 : ∀ b o, b ≠ I → h'.get? b = some o → h₂.get? b = some o := fun b o nb e => hk₂ b o (by simpa using nb) e
      have CI : C ≠ I := Nat.ne_of_gt (Nat.lt_trans ID DC)
      refine ⟨_, hn.at' fun o e => k2 _ o CI e, fun h'' hs'' => hQ D ts tks nD h'' tk₂ (fun b o e => ?_) ?_ ?_ hts hM fun q hq => ⟨?_, (hT q hq).2.1⟩⟩
      · have := ltI b o e
        exact hs''.extBut b o (Nat.ne_of_lt (Nat.lt_trans this (Nat.lt_trans ID DC))) (k2 b o (Nat.ne_of_lt this) (hold b o e))
      · cases q : s₁.heap.get? D with
        | none => rfl
        | some o => exact absurd (ltI _ _ q) (Nat.lt_asymm ID)
      · exact hs''.extBut _ _ (Nat.ne_of_lt DC) (k2 _ _ (Nat.ne_of_gt ID) hgD)
      · exact hs''.extBut _ _ (hT q hq).2.2.2.1 (k2 _ _ (hT q hq).2.2.1 (hT q hq).1)
  exact codeAny_compStart_list (loop _ rfl) (W.self 0 _ _ _ ⟨hit, hl.at fun o e => old3 _ o (old2 _ o (old1 _ o e))⟩ (loop _ rfl))
end

section
variable {prog : Program} {w : World} {p : Program} {loose : List Str} {mean : ExcName → Option Value} {mg mb : Str → Option Value}
theorem cut_fresh {h g h' : Heap} {C x : Addr} {o : Obj} {news : List (Addr × Obj)} (N : News (cutAt h C) C h' ((x, o) :: news)) (l : ∀ q ∈ aboveL h C, q.1 ≠ x) : h.get? x = none := by
  obtain ⟨_, n, e⟩ := N _ (.head _)
  cases q : h.get? x with
  | none => rfl
  | some o' =>
    rcases Nat.lt_or_gt_of_ne n with z | z
    · rw [cutAt_get z, q] at e; cases e
    · exact absurd rfl (l (x, o') (aboveL_mem.mpr ⟨z, q⟩))
theorem tk_get {w : World} {h : Heap} {dx : Addr} {k0 k1 k2 k3 k4 tz : Tok} {a b c : Value} {n : Nat} (e : h.get? dx = some (dictOf [ent w (Str.ofString "kind") k0 a, ent w (Str.ofString "value") k1 b, ent w (Str.ofString "line") k2 c, ent w (Str.ofString "spaced") k3 (.bool false), ent w (Str.ofString "place") k4 (.int 0 tz)] n)) :
    ∃ kt n tz, h.get? dx = some (tkDict w kt a b c n tz) := ⟨fun i => match i with | 0 => k0 | 1 => k1 | 2 => k2 | 3 => k3 | _ => k4, n, tz, e⟩
theorem tok_made {dp un : Nat} {fr : Option (List Env)} {gd : Option (List Code)} {s : Shared} {C : Addr} {m : Str → Option Value} {k : Str} {v : Option Str} {l : Int} {t1 t2 t3 t4 : Tok} {Q E : Value → Shared → Prop}
    (hn : s.heap.Ns C m) (B : Base w p loose mean mg mb (cutAt s.heap C)) (hr : dp + 4 < recursionLimit) (hu : un + 100 < cLine)
    (h : ∀ a dx kt n tz h' tk', KeepsBut [C] s.heap h' → h'.Ns C m → s.heap.get? a = none → s.heap.get? dx = none → h'.get? a = some (instObj 209 dx) → h'.get? dx = some (tkDict w kt (.str k t1) (sv v t2) (.int l t3) n tz) → Q (.ref a) { s with heap := h', toks := tk' }) :
    wpAny (model prog w) (ar dp un fr gd) (call (.ref 209) [.str k t1, sv v t2, .int l t3, .bool false, .int 0 t4]) Q E s := by
  obtain ⟨F0, N0, al, lo⟩ := stand hn
  refine call_cls F0 B.X N0 (by k_is) (by k_is) (by k_is) fun x dx h1 F1 N1 l1 l2 => ?_
  have k1 := stand_keep al F1 N1 (fun z hz => .tail _ (.tail _ hz))
  have fx : s.heap.get? x = none := cut_fresh (g := s.heap) N1 (fun q hq => Nat.ne_of_lt (Nat.lt_trans (l1 q hq) l2))
  have fd : s.heap.get? dx = none := cut_fresh (g := s.heap) (news_tail N1) (fun q hq => Nat.ne_of_lt (l1 q hq))
  have hA : At (cutAt s.heap C) h1 [(x, instObj 209 dx), (dx, dictOf [] 0)] := ⟨F1.keep, fun q hq => by
    simp only [List.mem_cons, List.not_mem_nil, or_false] at hq
    rcases hq with rfl | rfl
    · exact ⟨(N1 _ (.head _)).1, (N1 _ (.head _)).2.2⟩
    · exact ⟨(N1 _ (.tail _ (.head _))).1, (N1 _ (.tail _ (.head _))).2.2⟩⟩
  have X0 := Frag.In.keeps B.X hA.1
  have nxC := (N1 _ (.head _)).2.1
  have ndC := (N1 _ (.tail _ (.head _))).2.1
  have ns1 := F1.ns
  have nxd : x ≠ dx := Nat.ne_of_gt l2
  have nm : ∀ b, b ≠ C → b ∉ ([] : List Addr) → True := fun _ _ _ => trivial
  clear N1 N0 F0 nm
  ktr_enter
  intro g L h₂ m0 hm0 F N' X T st hlt kp
  have kg : ∀ b o, s.heap.get? b = some o → b ≠ C → g.get? b = some o := fun b o e nb => kp _ _ (k1 b o nb e) (by
    simp only [List.map_cons, List.map_nil, List.mem_cons, List.not_mem_nil, or_false, not_or]
    exact ⟨fun q => (by rw [q, fx] at e; cases e), fun q => (by rw [q, fd] at e; cases e)⟩)
  have nsg : g.Ns C m := ns1.at' fun o e => kp _ _ e (by
    simp only [List.map_cons, List.map_nil, List.mem_cons, List.not_mem_nil, or_false, not_or]
    exact ⟨Ne.symm nxC, Ne.symm ndC⟩)
  dsimp only
  k_unmd
  k_fold
  k_steps
  rename Fr _ _ _ _ => kF
  rename News _ _ _ _ => kN
  obtain ⟨kt, n, tz, gd⟩ := tk_get (kN _ (.tail _ (.head _))).1
  refine ⟨rfl, ?_⟩
  exact h x dx kt n tz _ _ (fun b o e nb => kF.keep _ _ (kg b o e (by simpa using nb))) (nsg.at' fun o e => kF.keep _ _ e) fx fd (kN _ (.head _)).1 gd
end

section
variable {prog : Program} {w : World} {p : Program} {loose : List Str} {mean : ExcName → Option Value} {mg mb : Str → Option Value}
theorem rd_get {w : World} {h : Heap} {dx aT aSc aCl : Addr} {k0 k1 k2 k3 k4 k5 k6 k7 k8 k9 tp : Tok} {tb last : Value} {n : Nat} (e : h.get? dx = some (dictOf [ent w (Str.ofString "tokens") k0 (.ref aT), ent w (Str.ofString "table") k1 tb, ent w (Str.ofString "place") k2 (.int 0 tp), ent w (Str.ofString "last") k3 last,
    ent w (Str.ofString "scopes") k4 (.ref aSc), ent w (Str.ofString "closed") k5 (.ref aCl), ent w (Str.ofString "no_do") k6 (.bool false), ent w (Str.ofString "bare") k7 (.bool false), ent w (Str.ofString "loops") k8 (.bool false), ent w (Str.ofString "rescues") k9 (.bool false)] n)) :
    ∃ kt n tp, h.get? dx = some (rdDict w kt aT tb (0 : Nat) tp last aSc aCl false false n) := ⟨fun i => match i with | 0 => k0 | 1 => k1 | 2 => k2 | 3 => k3 | 4 => k4 | 5 => k5 | 6 => k6 | 7 => k7 | 8 => k8 | _ => k9, n, tp, e⟩
theorem reader_made {dp un : Nat} {fr : Option (List Env)} {gd : Option (List Code)} {s : Shared} {C aT : Addr} {m : Str → Option Value} {ts : List Addr} {nT : Nat} {aTb : Addr} {Q E : Value → Shared → Prop}
    (hn : s.heap.Ns C m) (B : Base w p loose mean mg mb (cutAt s.heap C)) (hr : dp + 4 < recursionLimit) (hu : un + 100 < cLine) (eT : s.heap.get? aT = some (listOf (ts.map Value.ref).toArray nT)) (hTC : aT ≠ C) (hts : 0 < ts.length)
    (h : ∀ a dx a1 a2 a3 kt n tp n1 n2 n3 h' tk', KeepsBut [C] s.heap h' → h'.Ns C m → (∀ b ∈ [a, dx, a1, a2, a3], s.heap.get? b = none) → [a, dx, a1, a2, a3].Nodup → h'.get? a = some (instObj 188 dx) →
      h'.get? dx = some (rdDict w kt aT (.ref aTb) (0 : Nat) tp (.ref (adr ts 0)) a2 a3 false false n) → h'.get? a1 = some (listOf #[] n1) → h'.get? a2 = some (listOf #[.ref a1] n2) → h'.get? a3 = some (listOf #[.bool true] n3) → Q (.ref a) { s with heap := h', toks := tk' }) :
    wpAny (model prog w) (ar dp un fr gd) (call (.ref 188) [.ref aT, .ref aTb]) Q E s := by
  obtain ⟨F0, N0, al, lo⟩ := stand hn
  refine call_cls F0 B.X N0 (by k_is) (by k_is) (by k_is) fun x dx h1 F1 N1 l1 l2 => ?_
  have k1 := stand_keep al F1 N1 (fun z hz => .tail _ (.tail _ hz))
  have fx : s.heap.get? x = none := cut_fresh (g := s.heap) N1 (fun q hq => Nat.ne_of_lt (Nat.lt_trans (l1 q hq) l2))
  have fd : s.heap.get? dx = none := cut_fresh (g := s.heap) (news_tail N1) (fun q hq => Nat.ne_of_lt (l1 q hq))
  have hA : At (cutAt s.heap C) h1 [(x, instObj 188 dx), (dx, dictOf [] 0)] := ⟨F1.keep, fun q hq => by
    simp only [List.mem_cons, List.not_mem_nil, or_false] at hq
    rcases hq with rfl | rfl
    · exact ⟨(N1 _ (.head _)).1, (N1 _ (.head _)).2.2⟩
    · exact ⟨(N1 _ (.tail _ (.head _))).1, (N1 _ (.tail _ (.head _))).2.2⟩⟩
  have X0 := Frag.In.keeps B.X hA.1
  have nxC := (N1 _ (.head _)).2.1
  have ndC := (N1 _ (.tail _ (.head _))).2.1
  have ns1 := F1.ns
  have nxd : x ≠ dx := Nat.ne_of_gt l2
  clear N1 N0 F0
  ktr_enter
  intro g L h₂ m0 hm0 F N' X T st hlt kp
  have kg : ∀ b o, s.heap.get? b = some o → b ≠ C → g.get? b = some o := fun b o e nb => kp _ _ (k1 b o nb e) (by
    simp only [List.map_cons, List.map_nil, List.mem_cons, List.not_mem_nil, or_false, not_or]
    exact ⟨fun q => (by rw [q, fx] at e; cases e), fun q => (by rw [q, fd] at e; cases e)⟩)
  have nsg : g.Ns C m := ns1.at' fun o e => kp _ _ e (by
    simp only [List.map_cons, List.map_nil, List.mem_cons, List.not_mem_nil, or_false, not_or]
    exact ⟨Ne.symm nxC, Ne.symm ndC⟩)
  have gT := kg _ _ eT hTC
  have hx0 : (ts.map Value.ref)[(0 : Int).toNat]? = some (.ref (adr ts 0)) := by
    show (ts.map Value.ref)[0]? = _
    have e9 := adr_get (i := 0) hts
    rw [Nat.zero_min] at e9
    rw [List.getElem?_map, e9]; rfl
  have fS : ∀ {b : Addr}, g.get? b = none → b ≠ C → s.heap.get? b = none := fun {b} e nb => by
    cases q : s.heap.get? b with
    | none => rfl
    | some o => rw [kg b o q nb] at e; cases e
  have Cg : ∃ o, g.get? C = some o := by obtain ⟨o, _, _, e, _⟩ := nsg; exact ⟨o, e⟩
  dsimp only
  k_unmd
  k_fold
  k_steps
  rename Fr _ _ _ _ => kF
  rename News _ _ _ _ => kN
  obtain ⟨a3, e9, -⟩ := name2 (P := fun D : Addr => News g L _ ((D, _) :: _)) kN
  subst e9
  obtain ⟨a2, e9, -⟩ := name2 (P := fun D : Addr => News g L _ (_ :: (D, _) :: _)) kN
  subst e9
  obtain ⟨a1, e9, -⟩ := name2 (P := fun D : Addr => News g L _ (_ :: _ :: (D, _) :: _)) kN
  subst e9
  have q3 := kN _ (.head _)
  have q2 := kN _ (.tail _ (.head _))
  have q1 := kN _ (.tail _ (.tail _ (.head _)))
  have fr1 : ∀ {b : Addr}, g.get? b = none → s.heap.get? b = none := fun {b} e => fS e (by obtain ⟨o, eC⟩ := Cg; exact fresh_ne e eC)
  obtain ⟨kt, n, tp, gd⟩ := rd_get (kN _ (.tail _ (.tail _ (.tail _ (.tail _ (.head _)))))).1
  have d1 : x < a1 := by lcg_src
  have d2 : dx < a1 := by lcg_src
  have d3 : a1 < a2 := by lcg_src
  have d4 : a2 < a3 := by lcg_src
  refine ⟨rfl, ?_⟩
  refine h x dx a1 a2 a3 kt n tp _ _ _ _ _ (fun b o e nb => kF.keep _ _ (kg b o e (by simpa using nb))) (nsg.at' fun o e => kF.keep _ _ e) (all5 (P := fun b => s.heap.get? b = none) fx fd (fr1 q1.2.2) (fr1 q2.2.2) (fr1 q3.2.2)) ?_ (kN _ (.tail _ (.tail _ (.tail _ (.head _))))).1 gd q1.1 q2.1 q3.1
  · simp only [List.nodup_cons, List.mem_cons, List.not_mem_nil, not_or, or_false, not_false_eq_true, List.nodup_nil, and_true]
    have d5 := Nat.lt_trans d3 d4
    exact ⟨⟨nxd, Nat.ne_of_lt d1, Nat.ne_of_lt (Nat.lt_trans d1 d3), Nat.ne_of_lt (Nat.lt_trans d1 d5)⟩, ⟨Nat.ne_of_lt d2, Nat.ne_of_lt (Nat.lt_trans d2 d3), Nat.ne_of_lt (Nat.lt_trans d2 d5)⟩, ⟨Nat.ne_of_lt d3, Nat.ne_of_lt d5⟩, Nat.ne_of_lt d4⟩
end

theorem stays_cut {g h : Heap} {L : Addr} (k : g.StaysIn h) (hz : g.objs.size ≤ L) : g.StaysIn (cutAt h L) := fun b o e => (cutAt_get (Nat.lt_of_lt_of_le (Heap.lt_size e) hz)).trans (k b o e)
/-- all that a heap holds beside its ground and the frame -/
noncomputable def restL (g : Heap) (L : Addr) (h : Heap) : List (Addr × Obj) := (List.range h.objs.size).filterMap fun b => if (g.get? b).isNone ∧ b ≠ L then (h.get? b).map fun o => (b, o) else none
theorem restL_mem {g h : Heap} {L b : Addr} {o : Obj} : (b, o) ∈ restL g L h ↔ g.get? b = none ∧ b ≠ L ∧ h.get? b = some o := by
  unfold restL
  rw [List.mem_filterMap]
  constructor
  · rintro ⟨a, _, e⟩
    split at e
    · rename_i hc
      obtain ⟨o', e1, e2⟩ := Option.map_eq_some_iff.mp e
      cases e2
      exact ⟨Option.isNone_iff_eq_none.mp hc.1, hc.2, e1⟩
    · cases e
  · rintro ⟨h1, h2, e⟩
    exact ⟨b, List.mem_range.mpr (Heap.lt_size e), by rw [if_pos ⟨Option.isNone_iff_eq_none.mpr h1, h2⟩, e]; rfl⟩
theorem rest_news {g h : Heap} {L : Addr} : News g L h (restL g L h) := fun q hq => by
  obtain ⟨h1, h2, e⟩ := restL_mem.mp (show (q.1, q.2) ∈ restL g L h from hq)
  exact ⟨e, h2, h1⟩
theorem rest_newsF {g h : Heap} {L : Addr} {m : Str → Option Value} (_F : Fr g L h m) : News g L h (restL g L h) := rest_news
theorem rest_put {g h : Heap} {L a : Addr} {o : Obj} {r : List (Addr × Obj)} (N : News g L h r) (e : h.get? a = some o) (n : a ≠ L) (z : g.get? a = none) : News g L h ((a, o) :: r) := news_put N e n z
/-- all that a heap held, but the frame, stays -/
theorem rest_keep {g h h' : Heap} {L : Addr} {m : Str → Option Value} {news : List (Addr × Obj)} (F0 : ∀ b o, g.get? b = some o → h.get? b = some o) (F : Fr g L h' m) (N : News g L h' news) (hs : ∀ z ∈ restL g L h, z ∈ news) :
    ∀ b o, b ≠ L → h.get? b = some o → h'.get? b = some o := fun b o hb e => by
  cases q : g.get? b with
  | none => exact N.get (hs _ (restL_mem.mpr ⟨q, hb, e⟩))
  | some o' =>
    have := F0 _ _ q
    rw [this] at e; cases e
    exact F.keep _ _ q
theorem rest_fresh {g h h' : Heap} {L x : Addr} {o : Obj} {news : List (Addr × Obj)} (N : News g L h' ((x, o) :: news)) (l : ∀ q ∈ restL g L h, q.1 ≠ x) : h.get? x = none := by
  obtain ⟨_, n, e⟩ := N _ (.head _)
  cases q : h.get? x with
  | none => rfl
  | some o' => exact absurd rfl (l (x, o') (restL_mem.mpr ⟨e, n, q⟩))
theorem fr_ns {g h h' : Heap} {L : Addr} {m m' : Str → Option Value} (F : Fr g L h m) (k : KeepsBut [L] h h') (ns : h'.Ns L m') : Fr g L h' m' := ⟨ns, fun b o e => k _ _ (F.keep _ _ e) (by
  intro q; rw [List.mem_singleton.mp q] at e; exact absurd (Heap.lt_size e) (Nat.not_lt.mpr F.above)), F.above⟩
theorem first_ix {as : List Addr} (h : 0 < as.length) : (as.map Value.ref)[(0 : Int).toNat]? = some (.ref (adr as 0)) := by
  show (as.map Value.ref)[0]? = _
  have e9 := adr_get (i := 0) h
  rw [Nat.zero_min] at e9
  rw [List.getElem?_map, e9]; rfl
section
variable {prog : Program} {w : World} {c : Co} {h₀ : Heap}
/-- the law's frame behind a deed -/
theorem fr_up {g h h' : Heap} {L : Addr} {m : Str → Option Value} {ws : List Addr} (F : Fr g L h m) (u : Up ws [L] h h') (hg : ∀ a ∈ ws, g.get? a = none) (hL : L ∉ ws) : Fr g L h' m := by
  refine ⟨?_, fun b o e => u.keep (F.keep _ _ e) (fun q => by rw [hg b q] at e; cases e) (fun q => ?_), F.above⟩
  · obtain ⟨oL, es, ep, e, r⟩ := F.ns
    obtain ⟨sl, e1, _⟩ := u L oL e hL
    exact ⟨_, es, ep, e1, r⟩
  · rw [List.mem_singleton.mp q] at e; exact absurd (Heap.lt_size e) (Nat.not_lt.mpr F.above)
/-- the state moves to a heap that keeps all but the frame and an iterator -/
theorem pre_move {v : Va} {h hh : Heap} {L I : Addr} {env : Env} {m : Str → Option Value} (P : Pre prog w h₀ c v [env] h) (k : ∀ b o, b ≠ L → b ≠ I → h.get? b = some o → hh.get? b = some o) (hI0 : h₀.get? I = none) (nI : ∀ b, b ∈ adrs c v ∨ b ∈ v.cod.map (·.1) → b ≠ I)
    (hf : env.frame = some L) (hk : env.scope.kind ≠ .module) (ns : hh.Ns L m) : Pre prog w h₀ c v [env] hh := by
  have hm : L ∈ fa [env] := by rw [fa_cons hf]; exact .head _
  obtain ⟨hL0, _⟩ := P.hl.mem hm
  refine ⟨P.st.move fun b o hb e => k b o (fun q => ?_) (nI b hb) e, fun b o e => k b o (fun q => by rw [q, hL0] at e; cases e) (fun q => by rw [q, hI0] at e; cases e) (P.h0 _ _ e), P.out, P.outM, P.outC, Heap.FunFrames.cons hk hf ns hL0 trivial, P.dis⟩
  rcases hb with hb | hb
  · exact P.dis L hm (q ▸ hb)
  · exact frames_noC P.hl P.st L hm (q ▸ hb)
/-- what the law's laps find -/
structure PreU (prog : Program) (w : World) (h₀ : Heap) (c : Co) (L I : Addr) (i : Nat) (h : Heap) (v : Va) : Prop where
  pre : ∀ env : Env, env.frame = some L → env.scope.kind ≠ .module → Pre prog w h₀ c v [env] h
  fit : Fit v
  off : ∀ b, b ∈ adrs c v ∨ b ∈ v.cod.map (·.1) → b ≠ I
  lo : v.lo = []
  b1 : v.b1 ≤ 20 + (i * cost 3 : Nat)
  ys : v.top.ys.length ≤ i * cost 3
  free : ∀ b ∈ core c ++ scAd v.sc, b ≠ I
inductive LwJ (prog : Program) (w : World) (h₀ : Heap) (c : Co) (I L : Addr) (g₀ : Heap) (i : Nat) (g : Heap) (m : Str → Option Value) (news : List (Addr × Obj)) : Prop
  | mk (e : g = g₀) (i1 : m (Str.ofString "box") = some (.ref c.aB)) (i2 : m (Str.ofString "reader") = some (.ref c.aR)) (i3 : m (Str.ofString "state") = some (.ref c.aS)) (go : ∀ hh mm, Fr g L hh mm → News g L hh news → ∃ v, PreU prog w h₀ c L I i hh v)
theorem rest_fresh2 {g h : Heap} {L x : Addr} (n : x ≠ L) (e : g.get? x = none) (l : ∀ p ∈ restL g L h, p.1 < x) : h.get? x = none := by
  cases q : h.get? x with
  | none => rfl
  | some o' => exact absurd (l (x, o') (restL_mem.mpr ⟨e, n, q⟩)) (Nat.lt_irrefl _)
theorem hid_off {h : Heap} {aB L : Addr} {o1 o2 o3 o4 : Obj} (e1 : h.get? aB = some o1) (e2 : h.get? 300 = some o2) (e3 : h.get? 314 = some o3) (e4 : h.get? L = some o4) : ∀ b, h.get? b = none → b ∉ [aB, 300, 314, L] := fun b e => by
  simp only [List.mem_cons, List.not_mem_nil, or_false, not_or]
  exact ⟨fresh_ne e e1, fresh_ne e e2, fresh_ne e e3, fresh_ne e e4⟩
/-- a lap's end -/
theorem preU_next {h4 h5 h6 hh : Heap} {L I : Addr} {i : Nat} {v v2 : Va} {oI : Obj} {mm : Str → Option Value} {env0 : Env} (P4 : ∀ env : Env, env.frame = some L → env.scope.kind ≠ .module → Pre prog w h₀ c v [env] h4) (U1 : v.lo = []) (U2 : v.b1 ≤ 20 + (i * cost 3 : Nat)) (U3 : v.top.ys.length ≤ i * cost 3) (U4 : ∀ b ∈ core c ++ scAd v.sc, b ≠ I)
    (hf0 : env0.frame = some L) (Y : Post prog w h₀ c v [] (cost 3) (fa [env0]) h4 h5 v2) (fit2 : Fit v2) (hoI : ∃ vs, oI.data = .fields vs ∧ ∀ y t, vs[1]? ≠ some (.str y t)) (g4 : h4.get? I = some oI) (hIL : I ≠ L) (hI0 : h₀.get? I = none)
    (k56 : ∀ b o, b ≠ L → h5.get? b = some o → h6.get? b = some o) (k6h : ∀ b o, b ≠ L → b ≠ I → h6.get? b = some o → hh.get? b = some o) (ns : hh.Ns L mm) : PreU prog w h₀ c L I (i + 1) hh v2 := by
  have e0 : fa [env0] = [L] := fa_cons hf0
  rw [e0] at Y
  have nI2 := off_I Y hoI g4 U4 (by simpa using hIL)
  refine ⟨fun env hf hk => ?_, fit2, nI2, Y.gr.lo.trans U1, ?_, ?_, ?_⟩
  · have Y' : Post prog w h₀ c v [] (cost 3) (fa [env]) h4 h5 v2 := by rw [show fa [env] = [L] from fa_cons hf]; exact Y
    have P5 := Post.pre (P4 env hf hk) Y' (by simp)
    exact pre_move P5 (fun b o n1 n2 e => k6h b o n1 n2 (k56 b o n1 e)) hI0 nI2 hf hk ns
  · have := Y.gr.b1
    rw [Nat.succ_mul]; omega
  · obtain ⟨ys, e, hl⟩ := Y.gr.top
    rw [e, Nat.succ_mul]; dsimp only; omega
  · intro b hb
    rw [Y.gr.scAd] at hb; exact U4 b hb
theorem preU_start {h9 hh : Heap} {L I : Addr} {v : Va} {mm : Str → Option Value} (P9 : ∀ env : Env, env.frame = some L → env.scope.kind ≠ .module → Pre prog w h₀ c v [env] h9) (fit : Fit v) (hlo : v.lo = []) (hcod : v.cod = []) (b1 : v.b1 ≤ 20) (ys : v.top.ys = [])
    (k : ∀ b o, b ≠ L → b ≠ I → h9.get? b = some o → hh.get? b = some o) (ltI : ∀ b o, b ≠ L → h9.get? b = some o → b ≠ I) (hI0 : h₀.get? I = none) (ns : hh.Ns L mm) : PreU prog w h₀ c L I 0 hh v := by
  have P0 := P9 (envOf (Str.ofString "") inScope L 0 .none) rfl (by nofun)
  have hm : L ∈ fa [envOf (Str.ofString "") inScope L 0 .none] := by rw [fa_cons (L := L) rfl]; exact .head _
  have nA : ∀ b ∈ adrs c v, b ≠ I := fun b hb => by
    obtain ⟨o, e⟩ := P0.st.has hb
    exact ltI b o (fun q => P0.dis L hm (q ▸ hb)) e
  have nI : ∀ b, b ∈ adrs c v ∨ b ∈ v.cod.map (·.1) → b ≠ I := fun b hb => by
    rcases hb with hb | hb
    · exact nA b hb
    · rw [hcod] at hb; cases hb
  refine ⟨fun env hf hk => pre_move (P9 env hf hk) k hI0 nI hf hk ns, fit, nI, hlo, by simpa using b1, by rw [ys]; exact Nat.zero_le _, fun b hb => nA b ?_⟩
  simp only [adrs, List.mem_append, List.mem_cons] at hb ⊢
  rcases hb with hb | hb <;> simp [hb]
theorem hid_none {h6 h9 h10 : Heap} {L I : Addr} {hid : List Addr} (hI : I = h10.objs.size) (k69 : ∀ b o, b ≠ L → h6.get? b = some o → h9.get? b = some o) (k910 : ∀ b o, b ≠ L → h9.get? b = some o → h10.get? b = some o) (lt : L < h10.objs.size) : (hideAll h6 hid).get? I = none := by
  subst hI
  cases q : (hideAll h6 hid).get? h10.objs.size with
  | none => rfl
  | some o => exact absurd (Heap.lt_size (k910 _ _ (Nat.ne_of_gt lt) (k69 _ _ (Nat.ne_of_gt lt) (of_hideAll _ q)))) (Nat.lt_irrefl _)
theorem hid_g0 {g : Heap} {aB L : Addr} (e1 : g.get? aB = none) (e2 : g.get? 300 = none) (e3 : g.get? 314 = none) (e4 : g.objs.size ≤ L) : ∀ a ∈ [aB, 300, 314, L], g.get? a = none := fun a ha => by
  simp only [List.mem_cons, List.not_mem_nil, or_false] at ha
  rcases ha with ha | ha | ha | ha <;> rw [ha]
  · exact e1
  · exact e2
  · exact e3
  · exact Heap.get?_none_of_le e4
theorem hid_stays {g h6 : Heap} {hid : List Addr} (kg : ∀ b o, g.get? b = some o → h6.get? b = some o) (hz : ∀ a ∈ hid, g.get? a = none) : g.StaysIn (hideAll h6 hid) := fun b o e => hideAll_get _ (kg b o e) (fun q => by rw [hz b q] at e; cases e)
theorem wr_free {v : Va} {I : Addr} (f : ∀ b ∈ core c ++ scAd v.sc, b ≠ I) : I ∉ ([] : List Addr) ++ wr c v := fun q => by
  simp only [wr, List.nil_append, List.mem_append, List.mem_cons, List.not_mem_nil, or_false] at q
  rcases q with q | q | q
  · exact f I (List.mem_append_left _ q) rfl
  · exact f v.top.an (List.mem_append_right _ (by rw [scAd_sc]; simp)) q.symm
  · exact f v.top.an' (List.mem_append_right _ (by rw [scAd_sc]; simp)) q.symm
theorem restI_keep {g h hh : Heap} {L I : Addr} {mm : Str → Option Value} (F0 : ∀ b o, g.get? b = some o → h.get? b = some o) (F : Fr g L hh mm) (N : News g L hh ((restL g L h).filter fun q => q.1 ≠ I)) : ∀ b o, b ≠ L → b ≠ I → h.get? b = some o → hh.get? b = some o := fun b o n1 n2 e => by
  cases q : g.get? b with
  | none => exact N.get (List.mem_filter.mpr ⟨restL_mem.mpr ⟨q, n1, e⟩, by simpa using n2⟩)
  | some o' =>
    have := F0 _ _ q
    rw [this] at e; cases e
    exact F.keep _ _ q
theorem restI_news {g h : Heap} {L I : Addr} {m : Str → Option Value} (F : Fr g L h m) : News g L h ((restL g L h).filter fun q => q.1 ≠ I) := fun q hq => rest_newsF F q (List.mem_filter.mp hq).1
theorem restI_off {g h : Heap} {L I : Addr} : ∀ q ∈ (restL g L h).filter fun q => q.1 ≠ I, q.1 ≠ I := fun q hq => by simpa using (List.mem_filter.mp hq).2
end

theorem nd13 {a0 a1 a2 a3 a4 a5 a6 a7 a8 a9 a10 a11 a12 : Addr} (n1 : [a0, a1, a2].Nodup) (n2 : [a3, a4, a5, a6, a7].Nodup) (n3 : [a8, a9, a10, a11, a12].Nodup) (c12 : ∀ x ∈ [a0, a1, a2], ∀ y ∈ [a3, a4, a5, a6, a7], x ≠ y)
    (c13 : ∀ x ∈ [a0, a1, a2] ++ [a3, a4, a5, a6, a7], ∀ y ∈ [a8, a9, a10, a11, a12], x ≠ y) : [a3, a4, a8, a0, a6, a7, a12, a1, a2, a9, a5, a10, a11].Nodup := by
  have h : ([a0, a1, a2] ++ [a3, a4, a5, a6, a7] ++ [a8, a9, a10, a11, a12]).Nodup := List.nodup_append.mpr ⟨List.nodup_append.mpr ⟨n1, n2, fun x hx y hy => c12 x hx y hy⟩, n3, fun x hx y hy => c13 x hx y hy⟩
  have p : ([3, 4, 8, 0, 6, 7, 12, 1, 2, 9, 5, 10, 11] : List Nat).Perm [0, 1, 2, 3, 4, 5, 6, 7, 8, 9, 10, 11, 12] := by decide
  exact (List.Perm.nodup_iff (p.map fun i => [a0, a1, a2, a3, a4, a5, a6, a7, a8, a9, a10, a11, a12].getD i 0)).mpr h
section
variable {prog : Program} {w : World} {p : Program} {loose : List Str} {mean : ExcName → Option Value} {mg mb : Str → Option Value}
theorem cx_start {g0 h6 : Heap} {L aB aT aRow : Addr} {rs ts : List Addr} {row : List Tok0} {tups tks : List (Addr × Obj)} {nR nT : Nat} (B : Base w p loose mean mg mb g0) (kg : g0.StaysIn h6) (hz : ∀ a ∈ [aB, 300, 314, L], g0.get? a = none)
    (Dr : Drawn rs row tups) (hT : ∀ q ∈ tups, h6.get? q.1 = some q.2 ∧ q.1 ∉ [aB, 300, 314, L]) (eRow : h6.get? aRow = some (listOf (rs.map Value.ref).toArray nR)) (fRow : aRow ∉ [aB, 300, 314, L]) (eT : h6.get? aT = some (listOf (ts.map Value.ref).toArray nT)) (fT : aT ∉ [aB, 300, 314, L])
    (hM : MadeT w ts row tks) (hTk : ∀ q ∈ tks, h6.get? q.1 = some q.2 ∧ q.1 ∉ [aB, 300, 314, L]) (lenT : ts.length = row.length) (l1 : 0 < row.length) (l2 : row.length ≤ 20) (heof : ∀ i, row.length ≤ i + 1 → (cur row i).kind ≠ Str.ofString "nl") :
    Cx w p loose mean mg mb row aT aRow ts rs (hideAll h6 [aB, 300, 314, L]) := by
  have hh : ∀ {b : Addr} {o : Obj}, b ∉ [aB, 300, 314, L] → h6.get? b = some o → (hideAll h6 [aB, 300, 314, L]).get? b = some o := fun n e => hideAll_get _ e n
  refine ⟨B.keeps fun b o e => hh (fun q => by rw [hz b q] at e; cases e) (kg b o e), l1, Nat.le_trans l2 (by decide), Dr.ok, heof, fun i e => Dr.op _ (List.mem_of_getElem? (cur_at (i := i) l1)) e, lenT, Dr.len, list_get (hh fT eT), list_get (hh fRow eRow), fun i a t e1 e2 => ?_, fun i a t e1 e2 => ?_⟩
  · obtain ⟨dx, kt, n, tz, t1, t2, t3, m1, m2⟩ := hM i a t e1 e2
    exact ⟨dx, kt, n, tz, t1, t2, t3, hh (hTk _ m1).2 (hTk _ m1).1, hh (hTk _ m2).2 (hTk _ m2).1⟩
  · obtain ⟨o, m, v1, v2, v3, nt, rfl⟩ := Dr.all i a t e1 e2
    exact ⟨v1, v2, v3, _, hh (hT _ m).2 (hT _ m).1, rfl, _, rfl⟩
theorem pre_start {c : Co} {v : Va} {h6 h9 : Heap} {L : Addr} {env : Env} {m : Str → Option Value} (S : StA prog w c v h9) (hcod : v.cod = []) (k69 : ∀ b o, b ≠ L → h6.get? b = some o → h9.get? b = some o) (ns : h9.Ns L m) (hf : env.frame = some L) (hk : env.scope.kind ≠ .module)
    (g2 : ∀ b ∈ [c.aR, c.dR, c.aS, c.aSc, c.aCl, c.aSS, v.aM, v.top.an, v.top.an'], h6.get? b = none) (nL : ∀ b ∈ adrs c v, b ≠ L) : Pre prog w (hideAll h6 [c.aB, 300, 314, L]) c v [env] h9 := by
  have hno : ∀ {b : Addr}, h6.get? b = none → (hideAll h6 [c.aB, 300, 314, L]).get? b = none := fun {b} e => by
    cases q : (hideAll h6 [c.aB, 300, 314, L]).get? b with
    | none => rfl
    | some o => rw [of_hideAll _ q] at e; cases e
  have hL0 : (hideAll h6 [c.aB, 300, 314, L]).get? L = none := hideAll_none _ (by simp)
  refine ⟨S, fun b o e => k69 b o (fun q => by rw [q, hL0] at e; cases e) (of_hideAll _ e), fun a ha => ?_, hno (g2 _ (by simp)), fun z hz => (by rw [hcod] at hz; cases hz), Heap.FunFrames.cons hk hf ns hL0 trivial, fun b hb q => ?_⟩
  · simp only [wr, core, List.mem_append, List.mem_cons, List.not_mem_nil, or_false] at ha
    rcases ha with (ha | ha | ha | ha | ha | ha | ha | ha | ha) | ha | ha <;> subst ha
    · exact hno (g2 _ (by simp))
    · exact hno (g2 _ (by simp))
    · exact hno (g2 _ (by simp))
    · exact hideAll_none _ (by simp)
    · exact hno (g2 _ (by simp))
    · exact hno (g2 _ (by simp))
    · exact hno (g2 _ (by simp))
    · exact hideAll_none _ (by simp)
    · exact hideAll_none _ (by simp)
    · exact hno (g2 _ (by simp))
    · exact hno (g2 _ (by simp))
  · rw [fa_cons hf] at hb
    rcases List.mem_cons.mp hb with hb | hb
    · exact nL b q hb
    · cases hb
theorem sta_start {h9 : Heap} {aR dR aT aRow aS aB aSc aCl aSS aM a1 an' tu : Addr} {kt : Nat → Tok} {nR nM n1 n2 n3 n4 n5 n6 nB : Nat} {rs ts : List Addr} {row : List Tok0} {tb : Value} {tp tq t0 t1 t2 : Tok} {oS : Obj} {b0 b1 b2 : Int}
    (nd : [aR, dR, aS, aB, aSc, aCl, aSS, 300, 314, aM, a1, an', tu].Nodup) (gR : h9.get? aR = some (instObj 188 dR)) (gD : h9.get? dR = some (rdDict w kt aT tb (0 : Nat) tp (.ref (adr ts 0)) aSc aCl false false nR)) (gS : h9.get? aS = some oS)
    (dS : oS.IsDictOf (strKind prog w) (stKvs aRow (0 : Nat) tq (.ref (adr rs 0)) aM aSS)) (gSc : h9.get? aSc = some (listOf #[.ref a1] n1)) (gCl : h9.get? aCl = some (listOf #[.bool true] n2)) (gSS : h9.get? aSS = some (listOf #[.ref tu] n3)) (g1 : h9.get? a1 = some (listOf #[] n4)) (g1' : h9.get? an' = some (listOf #[] n5))
    (gtu : h9.get? tu = some ({ cls := .type "tuple", data := .seq #[.bool true, .ref an'] n6 } : Obj)) (gM : h9.get? aM = some (listOf #[.bool false, .bool false] nM)) (gB : h9.get? aB = some (boxObj b0 b1 b2 t0 t1 t2 nB)) (p0 : 0 ≤ b0) (p1 : b0 < 10 ^ 90) (p2 : 0 ≤ b1) (g3 : h9.get? 300 = some (tabObj #[])) (g4 : h9.get? 314 = some (tabObj #[])) :
    StA prog w ⟨aR, dR, aT, aRow, aS, aB, aSc, aCl, aSS, kt, nR, ts, rs, row⟩
      { pl := 0, j := 0, ql := 0, qj := 0, tp := tp, tq := tq, tb := tb, nd := false, ba := false, md := false, mb := false, aM := aM, nM := nM, oS := oS, lo := [], top := ⟨true, a1, an', tu, []⟩, b0 := b0, b1 := b1, b2 := b2, t0 := t0, t1 := t1, t2 := t2, nB := nB, ps3 := #[], ps4 := #[], cod := [] } h9 := by
  have hs : ∀ q ∈ ([] ++ [⟨true, a1, an', tu, []⟩] : List Sc), ScAt h9 q := fun q hq => by
    rcases List.mem_singleton.mp hq with rfl
    exact ⟨⟨[], _, g1, .nil⟩, ⟨[], _, g1', .nil⟩, _, gtu, rfl, _, rfl⟩
  exact ⟨⟨gR, gD, gS, ⟨⟨n1, gSc⟩, ⟨n2, gCl⟩, hs, (by show 1 ≤ 100; decide), ⟨_, rfl, rfl⟩⟩, ⟨⟨n3, gSS⟩, hs, (by show 1 ≤ 100; decide)⟩, g3, g4⟩, ⟨gB, gM, List.forall_mem_nil _⟩,
    ⟨dS, p0, p1, p2, trivial, trivial, .inl rfl, .inl rfl, .inl rfl, nd, List.forall_mem_nil _, List.forall_mem_nil _⟩⟩
end

local macro_rules | `(tactic| walk_at "call ref") => row [tFirst [tAt 236, tAt 250, tAt 209, tAt 188], tStop]
theorem wpA_eq {M : Model} {A A' : Around} {α : Type} {t : Sem α} {Q : α → Shared → Prop} {E : Value → Shared → Prop} {s : Shared} (e : A = A') (h : wpAny M A' t Q E s) : wpAny M A t Q E s := e ▸ h
theorem genE {M : Model} {A : Around} {α : Type} {t : Sem α} {Q : α → Shared → Prop} {E : Value → Shared → Prop} {s : Shared} (h : ∀ E', E' = E → wpAny M A t Q E' s) : wpAny M A t Q E s := h E rfl
/- these names are taken, so that the head makes no twins of its own there: they would not fit -/
theorem fin.tw995775220138220913 : True := trivial
theorem fin.tw11862903064186416244 : True := trivial
theorem fin.tw13981231130595552247 : True := trivial
theorem fin.tw15718796082602202473 : True := trivial
theorem fin.tw7833462173279853912 : True := trivial
theorem fin.tw11112386831996348380 : True := trivial
theorem fin.tw3404870402558255397 : True := trivial
theorem fin.tw12631824708648523144 : True := trivial
theorem fin.tw12981369473037909858 : True := trivial
theorem fin.tw1547877587097197411 : True := trivial
theorem fin.tw7472291436863326401 : True := trivial
theorem fin.tw4443050520305737185 : True := trivial
theorem fin.tw783483362715066742 : True := trivial
theorem fin.tw3506512066687448480 : True := trivial
theorem fin.tw10699407837109476802 : True := trivial
theorem fin.tw5229952134453381203 : True := trivial
theorem fin.tw7716820226725407877 : True := trivial
theorem fin.tw12833947400113492166 : True := trivial
theorem fin.tw14793013804824869981 : True := trivial
theorem fin.tw2316539691658765527 : True := trivial
theorem fin.tw1088692219920020602 : True := trivial
theorem fin.tw9221430085559818832 : True := trivial
theorem fin.tw7976502392129159676 : True := trivial
theorem fin.tw5402249366112354979 : True := trivial
theorem fin.tw8942474457413960924 : True := trivial
theorem fin.tw8842561966015468986 : True := trivial
theorem fin.tw803859442106103436 : True := trivial
theorem fin.tw13814004702073501669 : True := trivial
theorem fin.tw3028926083550364057 : True := trivial
theorem fin.tw4754365596532378047 : True := trivial
theorem fin.tw5678346346211369953 : True := trivial
theorem fin.tw13898374239775968522 : True := trivial
theorem fin.tw18295790063311454060 : True := trivial
theorem fin.tw15564276425815640635 : True := trivial
theorem fin.tw8018989035897545986 : True := trivial
theorem fin.tw13948639791554836966 : True := trivial
theorem fin.tw6718411051458867188 : True := trivial
theorem fin.tw7000300075881102575 : True := trivial
theorem fin.tw3599858809825778643 : True := trivial
theorem fin.tw2415902012162501839 : True := trivial
theorem fin.tw1535588207084551279 : True := trivial
theorem fin.tw10242451874928486539 : True := trivial
theorem fin.tw1014637456484912126 : True := trivial
theorem fin.tw4588413851689716618 : True := trivial
theorem fin.tw4769821431679368130 : True := trivial
theorem fin.tw4768634762848416435 : True := trivial
theorem fin.tw10936777179133785780 : True := trivial
theorem fin.tw17896612028031085017 : True := trivial
theorem fin.tw16656299143469825513 : True := trivial
theorem fin.tw6968583824967984638 : True := trivial
theorem fin.tw4719063310657182621 : True := trivial
theorem fin.tw16307707646766795581 : True := trivial
theorem fin.tw1819255440876223710 : True := trivial
theorem fin.tw17974384156558142227 : True := trivial
theorem fin.tw14333544728242365436 : True := trivial
theorem fin.tw15309079848183770524 : True := trivial
theorem fin.tw1635022588487117616 : True := trivial
theorem fin.tw12409915417874342407 : True := trivial
theorem fin.tw18082680734076937219 : True := trivial
theorem fin.tw4640724917100965312 : True := trivial
theorem fin.tw15533503492667675913 : True := trivial
theorem fin.tw16103849850496634939 : True := trivial
theorem fin.tw10098057777631523497 : True := trivial
theorem fin.tw3456623496861543869 : True := trivial
theorem fin.tw6207176494656529804 : True := trivial
theorem fin.tw10891054232620793217 : True := trivial
theorem fin.tw10196768644732416780 : True := trivial
theorem fin.tw16196181902256332553 : True := trivial
theorem fin.tw16510490156224867327 : True := trivial
theorem fin.tw828056024939588000 : True := trivial
theorem fin.tw16237762584071213788 : True := trivial
theorem fin.tw12649782002744950493 : True := trivial
theorem fin.tw12135189313929291683 : True := trivial
theorem fin.tw16570786720924097770 : True := trivial
theorem fin.tw8269367382603917829 : True := trivial
theorem fin.tw18255404467826089762 : True := trivial
theorem fin.tw7929640520542984453 : True := trivial
theorem fin.tw9725021084223525626 : True := trivial
theorem fin.tw17821466097196317003 : True := trivial
theorem fin.tw11336253725339858928 : True := trivial
theorem fin.tw14365839007642131201 : True := trivial
theorem fin.tw5796354222422608987 : True := trivial
theorem fin.tw6323506392446703087 : True := trivial
theorem fin.tw6449190631224713292 : True := trivial
theorem fin.tw7830629276484211593 : True := trivial
theorem fin.tw799341379326975648 : True := trivial
theorem fin.tw8352470293576582857 : True := trivial
theorem fin.tw10907391636593693970 : True := trivial
theorem fin.tw14210890002308233579 : True := trivial
theorem fin.tw14245171486683049214 : True := trivial
theorem fin.tw4218790737952374519 : True := trivial
theorem fin.tw12221555665107904926 : True := trivial
theorem fin.tw17041991840579044601 : True := trivial
theorem fin.tw12946824338688289833 : True := trivial
theorem fin.tw15741700470354863883 : True := trivial
theorem fin.tw4868334931027891882 : True := trivial
theorem fin.tw8643116662766533202 : True := trivial
theorem fin.tw17662344363894024548 : True := trivial
theorem fin.tw8272817396058243321 : True := trivial
theorem fin.tw3105451386036433885 : True := trivial
theorem fin.tw13021059552284102479 : True := trivial
theorem fin.tw5071919506433949198 : True := trivial
theorem fin.tw8281523328739849912 : True := trivial
theorem fin.tw11615019562542576733 : True := trivial
theorem fin.tw5320702786494000081 : True := trivial
theorem fin.tw17260493314774615805 : True := trivial
theorem fin.tw17628183408451194143 : True := trivial
theorem fin.tw4924110625330727750 : True := trivial
theorem fin.tw10329872625359487480 : True := trivial
theorem fin.tw14679806638718605512 : True := trivial
theorem fin.tw1951045429614898598 : True := trivial
theorem fin.tw9357874355931990178 : True := trivial
theorem fin.tw16275787546110486726 : True := trivial
theorem fin.tw10829458402184033698 : True := trivial
theorem fin.tw9387745189664136937 : True := trivial
theorem fin.tw884059145510264010 : True := trivial
theorem fin.tw3955986520655104412 : True := trivial
theorem fin.tw8569027658895312972 : True := trivial
theorem fin.tw11587955951900863698 : True := trivial
theorem fin.tw17717364068325071970 : True := trivial
theorem fin.tw4312942655851389009 : True := trivial
theorem fin.tw15688172546075569117 : True := trivial
theorem fin.tw4209717502836232480 : True := trivial
theorem fin.tw11454252539852477091 : True := trivial
theorem fin.tw16175276709679454751 : True := trivial
theorem fin.tw16229209127682248589 : True := trivial
theorem fin.tw6667815254911646788 : True := trivial
theorem fin.tw428092273266315144 : True := trivial
theorem fin.tw5805905742469029177 : True := trivial
theorem fin.tw1625080806587739848 : True := trivial
theorem fin.tw3199103547748192838 : True := trivial
theorem fin.tw6058378993454661626 : True := trivial
theorem fin.tw17416127249078093707 : True := trivial
theorem fin.tw6712194924023145494 : True := trivial
theorem fin.tw1544503264643628384 : True := trivial
theorem fin.tw15566928917628492161 : True := trivial
theorem fin.tw16252508478716706905 : True := trivial
theorem fin.tw9001875181463519149 : True := trivial
theorem fin.tw17430205856086898164 : True := trivial
theorem fin.tw10852849658779182186 : True := trivial
theorem fin.tw17130245016438642246 : True := trivial
theorem fin.tw3112429581023547943 : True := trivial
theorem fin.tw2462912638960843985 : True := trivial
theorem fin.tw17123178472405020103 : True := trivial
theorem fin.tw4878226113927451544 : True := trivial
theorem fin.tw16205109500356779066 : True := trivial
theorem fin.tw7995362448368537469 : True := trivial
theorem fin.tw7380833856163905736 : True := trivial
theorem fin.tw5962627729488381771 : True := trivial
theorem fin.tw13360279666012451719 : True := trivial
theorem fin.tw14075178694198228753 : True := trivial
theorem fin.tw16934629359412608497 : True := trivial
theorem fin.tw14347400895652799225 : True := trivial
theorem fin.tw1080700006314346644 : True := trivial
theorem fin.tw3974152918291533672 : True := trivial
theorem fin.tw10580198807604790814 : True := trivial
theorem fin.tw2910385600587045654 : True := trivial
theorem fin.tw9218923581257491847 : True := trivial
theorem fin.tw982560976839675504 : True := trivial
theorem fin.tw9363291351745731410 : True := trivial
theorem fin.tw3998398428148030388 : True := trivial
theorem fin.tw12711679700452659978 : True := trivial
theorem fin.tw3810570522144960214 : True := trivial
theorem fin.tw1422313219903470601 : True := trivial
theorem fin.tw6498334528663615478 : True := trivial
theorem fin.tw15201286185872193147 : True := trivial
theorem fin.tw9746214513668125432 : True := trivial
theorem fin.tw612862322836996645 : True := trivial
theorem fin.tw18105942590061964161 : True := trivial
theorem fin.tw7613857476909055813 : True := trivial
theorem fin.tw6515953530934532768 : True := trivial
theorem fin.tw8119881530291889089 : True := trivial
theorem fin.tw12669758225909598566 : True := trivial
theorem fin.tw12876064707754696378 : True := trivial
theorem fin.tw4162185377826839926 : True := trivial
theorem fin.tw17698704350827878285 : True := trivial
theorem fin.tw2656788454239962097 : True := trivial
theorem fin.tw9746901515087519452 : True := trivial
theorem fin.tw13093503161671486093 : True := trivial
theorem fin.tw2304379251839397102 : True := trivial
theorem fin.tw3837020019201816242 : True := trivial
theorem fin.tw6435670951450185984 : True := trivial
theorem fin.tw5073790198343104882 : True := trivial
theorem fin.tw12284014389350100970 : True := trivial
theorem fin.tw5115476493328737885 : True := trivial
theorem fin.tw11293339424137598113 : True := trivial
theorem fin.tw3404873503106905745 : True := trivial
theorem fin.tw11154830654865731599 : True := trivial
theorem fin.tw12557769604369416430 : True := trivial
theorem fin.tw15399907426655090358 : True := trivial
theorem fin.tw9913140749668108558 : True := trivial
theorem fin.tw6707113841082798463 : True := trivial
theorem fin.tw17861066769153400444 : True := trivial
theorem fin.tw8025084765662995669 : True := trivial
theorem fin.tw15459455144867644326 : True := trivial
theorem fin.tw9247658263007524724 : True := trivial
theorem fin.tw8330952907988395303 : True := trivial
theorem fin.tw16256441300576474876 : True := trivial
theorem fin.tw10511823565363050587 : True := trivial
theorem fin.tw12105171945263650130 : True := trivial
theorem fin.tw17067295170570645592 : True := trivial
theorem fin.tw1249118550022496774 : True := trivial
theorem fin.tw14166196953294261902 : True := trivial
theorem fin.tw12550770813317053977 : True := trivial
theorem fin.tw8919302590299486024 : True := trivial
theorem fin.tw4598667867955821814 : True := trivial
theorem fin.tw16115155874713506467 : True := trivial
theorem fin.tw5098551885099359569 : True := trivial
theorem fin.tw6531376189190222733 : True := trivial
theorem fin.tw12180539936304867106 : True := trivial
theorem fin.tw18373065035072037172 : True := trivial
theorem fin.tw11897717083992391400 : True := trivial
theorem fin.tw9722632081671974098 : True := trivial
theorem fin.tw11039862389202566683 : True := trivial
theorem fin.tw12141802397888321627 : True := trivial
theorem fin.tw846297522682114974 : True := trivial
theorem fin.tw10599938827571368224 : True := trivial
theorem fin.tw3683778510129048087 : True := trivial
theorem fin.tw14568449535678555946 : True := trivial
theorem fin.tw13177410634674063896 : True := trivial
theorem fin.tw16109372258727991565 : True := trivial
theorem fin.tw16540275574145912595 : True := trivial
theorem fin.tw10807920368746810246 : True := trivial
theorem fin.tw7845872953664198349 : True := trivial
theorem fin.tw12567809125941998234 : True := trivial
theorem fin.tw6081921254191324426 : True := trivial
theorem fin.tw3343445320678177929 : True := trivial
theorem fin.tw17933470926392208243 : True := trivial
theorem fin.tw744865244796547220 : True := trivial
theorem fin.tw16889484823980962733 : True := trivial
theorem fin.tw12629903358213643309 : True := trivial
theorem fin.tw8947099994592609211 : True := trivial
theorem fin.tw1012361349325877821 : True := trivial
theorem fin.tw7055459427971326715 : True := trivial
theorem fin.tw4265850918314828415 : True := trivial
theorem fin.tw12291753297600562012 : True := trivial
theorem fin.tw16958243865122950064 : True := trivial
theorem fin.tw18195182924450695511 : True := trivial
theorem fin.tw14139026862911339306 : True := trivial
theorem fin.tw6454446336052903152 : True := trivial
theorem fin.tw4759752924163587094 : True := trivial
theorem fin.tw12355744275394475900 : True := trivial
theorem fin.tw17204297501091165112 : True := trivial
theorem fin.tw14728723275428758510 : True := trivial
theorem fin.tw17743408960866722510 : True := trivial
theorem fin.tw15344004072050561172 : True := trivial
theorem fin.tw5102460946473063141 : True := trivial
theorem fin.tw8656503046869711584 : True := trivial
theorem fin.tw12212933522069011988 : True := trivial
theorem fin.tw888132650186811988 : True := trivial
theorem fin.tw13516622038369049944 : True := trivial
theorem fin.tw13870153662132920491 : True := trivial
theorem fin.tw8289400949097046189 : True := trivial
theorem fin.tw2086631506510373192 : True := trivial
theorem fin.tw17719728818120068181 : True := trivial
theorem fin.tw807531904560671035 : True := trivial
theorem fin.tw14109310954907245088 : True := trivial
theorem fin.tw17449020081951674710 : True := trivial
theorem fin.tw7451905468542833597 : True := trivial
theorem fin.tw14856888987745899463 : True := trivial
theorem fin.tw2608567993692976607 : True := trivial
theorem fin.tw2321816554428607280 : True := trivial
theorem fin.tw4684940682943077961 : True := trivial
theorem fin.tw4950403968356008110 : True := trivial
theorem fin.tw891787732878383699 : True := trivial
theorem fin.tw17637551073024348614 : True := trivial
theorem fin.tw4170516301191304579 : True := trivial
theorem fin.tw6232080684201472732 : True := trivial
theorem fin.tw14838103818555229697 : True := trivial
theorem fin.tw9735714214384596553 : True := trivial
theorem fin.tw4879674094562380441 : True := trivial
theorem fin.tw999798209818781672 : True := trivial
theorem fin.tw17869975865946814897 : True := trivial
theorem fin.tw6127190174262240918 : True := trivial
theorem fin.tw3975253019698251321 : True := trivial
theorem fin.tw2367325634123391141 : True := trivial
theorem fin.tw13383306551100868464 : True := trivial
theorem fin.tw5734618986648460908 : True := trivial
theorem fin.tw2671655128345628175 : True := trivial
theorem fin.tw13162651487661262736 : True := trivial
theorem fin.tw3173534031939492945 : True := trivial
theorem fin.tw7803649310394182010 : True := trivial
theorem fin.tw3459265974087741279 : True := trivial
theorem fin.tw9748538221750983269 : True := trivial
theorem fin.tw18387650150990424433 : True := trivial
theorem fin.tw10383673109516279431 : True := trivial
theorem fin.tw1982079694162106894 : True := trivial
theorem fin.tw5011121235533021005 : True := trivial
theorem fin.tw12494888245299231016 : True := trivial
theorem fin.tw12696600883282566439 : True := trivial
theorem fin.tw8590288500278120515 : True := trivial
theorem fin.tw12962497063298326498 : True := trivial
theorem fin.tw14431720936831517352 : True := trivial
theorem fin.tw757079261281740938 : True := trivial
theorem fin.tw5293390819737331289 : True := trivial
theorem fin.tw16496857829328116044 : True := trivial
theorem fin.tw3263211703599914710 : True := trivial
theorem fin.tw17971676594858020690 : True := trivial
theorem fin.tw6650461044873433052 : True := trivial
theorem fin.tw15149952090015108872 : True := trivial
theorem fin.tw17801579834951734752 : True := trivial
theorem fin.tw11040825799340251285 : True := trivial
theorem fin.tw15989303212955285315 : True := trivial
theorem fin.tw15621619335703214680 : True := trivial
theorem fin.tw15832999045522443761 : True := trivial
theorem fin.tw895571856199123645 : True := trivial
theorem fin.tw8559517257967667466 : True := trivial
theorem fin.tw3125960719983571848 : True := trivial
theorem fin.tw6956187926921108005 : True := trivial
theorem fin.tw1963134401048803436 : True := trivial
theorem fin.tw8383268338085895543 : True := trivial
theorem fin.tw3812028171767442716 : True := trivial
theorem fin.tw10671828304227620169 : True := trivial
theorem fin.tw16407147864228438881 : True := trivial
theorem fin.tw12829507556594621215 : True := trivial
theorem fin.tw14345562132136545540 : True := trivial
theorem fin.tw5901363791540438844 : True := trivial
theorem fin.tw3762306804915933987 : True := trivial
theorem fin.tw8577089030196625639 : True := trivial
theorem fin.tw11079828417688620724 : True := trivial
theorem fin.tw4898026214463823928 : True := trivial
theorem fin.tw11151619158091525091 : True := trivial
theorem fin.tw380778119907437045 : True := trivial
theorem fin.tw6634307039904815820 : True := trivial
theorem fin.tw12118000046449163591 : True := trivial
theorem fin.tw17963964198891936676 : True := trivial
theorem fin.tw6068950659093879613 : True := trivial
theorem fin.tw14814673180317915700 : True := trivial
theorem fin.tw10895054467252067526 : True := trivial
theorem fin.tw18105285910621931680 : True := trivial
theorem fin.tw12448240930570709186 : True := trivial
theorem fin.tw670465573061467203 : True := trivial
theorem fin.tw13423622936843584764 : True := trivial
theorem fin.tw2537931557510868981 : True := trivial
theorem fin.tw18230178534529381785 : True := trivial
theorem fin.tw3810338749695602999 : True := trivial
theorem fin.tw11466478281803324712 : True := trivial
theorem fin.tw15815952407149668801 : True := trivial
theorem fin.tw7684487725183542926 : True := trivial
theorem fin.tw13724452099449386491 : True := trivial
theorem fin.tw3268265519342814607 : True := trivial
theorem fin.tw16401934584784274106 : True := trivial
theorem fin.tw7675655780812522254 : True := trivial
theorem fin.tw1252854909445205041 : True := trivial
theorem fin.tw14560573928864763818 : True := trivial
theorem fin.tw480829909506669009 : True := trivial
theorem fin.tw16530489862217454893 : True := trivial
theorem fin.tw333583748066197110 : True := trivial
theorem fin.tw1666694428299288667 : True := trivial
theorem fin.tw12996517811204074000 : True := trivial
theorem fin.tw9260378047223084069 : True := trivial
theorem fin.tw2775396313129547428 : True := trivial
theorem fin.tw10070804522480449196 : True := trivial
theorem fin.tw4570111826955561243 : True := trivial
theorem fin.tw1976505206021243879 : True := trivial
theorem fin.tw5647864574477489665 : True := trivial
theorem fin.tw10874316729293906858 : True := trivial
theorem fin.tw14517287926952318261 : True := trivial
theorem fin.tw7249652514872940865 : True := trivial
theorem fin.tw6567050819087999508 : True := trivial
theorem fin.tw4613182775407389354 : True := trivial
theorem fin.tw13925877587632400325 : True := trivial
theorem fin.tw11298980531735778240 : True := trivial
theorem fin.tw11953781441336167498 : True := trivial
theorem fin.tw1397303283331804279 : True := trivial
theorem fin.tw10925335251469727208 : True := trivial
theorem fin.tw2866121171748074186 : True := trivial
theorem fin.tw9806666330580929782 : True := trivial
theorem fin.tw3004984022683251337 : True := trivial
theorem fin.tw9610726530385051774 : True := trivial
theorem fin.tw1613116972386908190 : True := trivial
theorem fin.tw8399098705505230059 : True := trivial
theorem fin.tw16269368082590959529 : True := trivial
theorem fin.tw5897612983314593646 : True := trivial
theorem fin.tw452842511749404161 : True := trivial
theorem fin.tw8668149382578428375 : True := trivial
theorem fin.tw16285329926789087883 : True := trivial
theorem fin.tw4788878847521262168 : True := trivial
theorem fin.tw13467322939085005891 : True := trivial
theorem fin.tw12869217540446652890 : True := trivial
theorem fin.tw17197158672614542318 : True := trivial
theorem fin.tw216489041496292469 : True := trivial
theorem fin.tw12876116671307685997 : True := trivial
set_option Elab.async true in
theorem fin : PySem.Challenge.rw_nz0038_01.Holds := by
  w_on; o_law; o_head (kmHook k0.heap_1 [2, 3, 15, 22, 23, 25, 26, 28, 29, 30, 31, 32, 33, 36, 43, 45, 46, 48, 49, 50, 51, 52, 62, 64, 65, 67, 68, 69, 70, 72, 73, 75, 76, 77, 79, 80, 82, 83, 84, 85, 87, 88, 90, 91, 92, 93, 95, 96, 98, 99, 100, 101, 103, 104, 106, 107, 108, 110, 111, 113, 114, 115, 117, 118, 120, 121, 122, 124, 125, 127, 128, 129, 131, 132, 134, 135, 136, 138, 139, 141, 142, 143, 144, 146, 147, 149, 150, 151, 153, 154, 156, 157, 158, 160, 161, 163, 164, 165, 167, 168, 170, 171, 172, 174, 175, 177, 178, 179, 181, 182, 184, 185, 186, 187, 188, 189, 190, 200, 202, 203, 205, 206, 207, 208, 209, 210, 211, 214, 215, 216, 217, 218, 219, 220, 221, 222, 223, 225, 226, 228, 229, 230, 232, 233, 235, 236, 237, 239, 240, 242, 243, 244, 246, 247, 249, 250, 251, 253, 254, 256, 257, 258, 259, 261, 262, 264, 265, 266, 268, 269, 271, 272, 273, 275, 276, 278, 279, 280, 282, 283, 285, 286, 287, 290, 291, 292, 294, 295, 297, 298, 299, 301, 302, 304, 305, 306, 308, 309, 311, 312, 313, 315, 316, 318, 319, 320, 322, 323, 325, 326, 327, 330, 331] (fun _ => by kernel_rfl) [314, 300]); (case hw => w_witness2)
  k_go0
  all_goals try k_fold
  refine genE fun E9 hE9 => ?_
  rename Frag.In _ _ => X
  rename Top _ _ _ _ _ _ => T
  rename Fr _ _ _ _ => kF
  rename News _ _ _ _ => kN
  rename IntsAre _ _ => hI
  rename Shared.gens _ = _ => hgens
  rename (PyData.list _).layable0 = true => hLay
  rename Heap.IsList _ _ _ => hScr
  have B : Base _ _ _ _ _ _ _ := ⟨X, T⟩
  have aboveg := kF.above
  k_steps
  rename Fr _ _ _ _ => kF
  rename News _ _ _ _ => kN
  obtain ⟨h1, e9, -⟩ := name2 (P := fun hx : Heap => Fr _ _ hx _) kF
  subst e9
  have z314 := kN _ (.head _)
  have z300 := kN _ (.tail _ (.head _))
  refine box_at (B.keeps kF.keep) (list_keep kF hScr) hI hLay (by ktr_room) fun aB b0 b2 t0 t1 t2 nB h2 tk2 kS hB1 p0 p1 p2 eB => ?_
  have F2 := Fr.keeps kF kS
  have N2 := news_fresh kF kN kS hB1 eB
  clear kF kN
  k_steps
  rename Fr _ _ _ _ => kF
  rename News _ _ _ _ => kN
  obtain ⟨h3, e9, -⟩ := name2 (P := fun hx : Heap => Fr _ _ hx _) kF
  subst e9
  have kB := kN _ (.head _)
  have k314 := kN _ (.tail _ (.head _))
  have k300 := kN _ (.tail _ (.tail _ (.head _)))
  have n314 := (fresh_ne hB1 z314.1).symm
  have n300 := (fresh_ne hB1 z300.1).symm
  refine row_at B ⟨kF.keep, fun q hq => by rcases List.mem_singleton.mp hq with rfl; exact ⟨kB.1, kB.2.2⟩⟩ (by ktr_room) p0 p1 (by decide) (by decide) fun aRow rs row tups nR c0 c1 u0 u1 u2 nB2 h4 tk4 kK eB4 r0 r1 r2 r3 eRow fRow hT Dr l1 l2 heof => ?_
  have F4 := fr_but kF kK (fun a ha => by rcases List.mem_singleton.mp ha with rfl; exact ⟨kB.2.2, kB.2.1⟩)
  have e314 := kK _ _ k314.1 (by simpa using n314)
  have e300 := kK _ _ k300.1 (by simpa using n300)
  obtain ⟨oL3, eL3⟩ := fr_get kF
  have nRL := fresh_ne fRow eL3
  have zRow := gone_of kF.keep fRow
  have zB := kB.2.2
  have nBL := kB.2.1
  have n314L := k314.2.1
  have n300L := k300.2.1
  have y314 := k314.2.2
  have y300 := k300.2.2
  have kF4 := F4.keep
  have off3 := hid_off kB.1 k300.1 k314.1 eL3
  have nTup : ∀ q ∈ tups, q.1 ≠ _ := fun q hq => fresh_ne (hT q hq).2 eL3
  have N4 := rest_newsF F4
  clear kF kN k314 k300 kB kK hScr z314 z300 hB1
  k_steps
  rename Fr _ _ _ _ => kF
  rename News _ _ _ _ => kN
  obtain ⟨h5, e9, -⟩ := name2 (P := fun hx : Heap => Fr _ _ hx _) kF
  subst e9
  have k45 := rest_keep kF4 kF kN (fun z hz => hz)
  have gRow5 := k45 _ _ nRL eRow
  (with_unfolding_all refine comp_toks (row := row) rfl (by rfl) (by decide) rfl (by decide) rfl rfl rfl (by decide +kernel) (by decide +kernel) (by decide +kernel) ?_ (fun _ => rfl))
  k_steps
  refine ⟨aRow, rs, rfl, list_get gRow5, Dr.len, by omega, fun i a t ea et => ?_, ?_, ?_⟩
  · obtain ⟨o, m, v1, v2, v3, nt, rfl⟩ := Dr.all i a t ea et
    exact ⟨v1, v2, v3, _, k45 _ _ (nTup _ m) (hT _ m).1, rfl, _, rfl⟩
  · intro C t v1 v2 v3 m₂ s₂ E' ht hC hn x1 x2 x3 hk
    obtain ⟨F6, N6, al6, lo6⟩ := stand hn
    have g45 := kF.keep
    have B6 := B.keeps (fun b o e => lo6 b o (Nat.lt_of_lt_of_le (Heap.lt_size (g45 b o e)) hC) (hk b o (g45 b o e)))
    clear X T kF kN
    obtain ⟨X, T⟩ := id B6
    k_steps
    refine tok_made hn B6 (by ktr_room) (by ktr_units) fun a dx kt n tz h' tk' e1 e2 e3 e4 e5 e6 => ?_
    exact ⟨a, dx, kt, n, tz, _, _, _, h', tk', _, rfl, rfl, e2, e1, e3, e4, e5, e6⟩
  · intro aT ts tks nT h6 tk6 keep6 fT eT lenT hM hTk
    have F6 := Fr.keeps kF keep6
    have kF6 := F6.keep
    obtain ⟨oL5, eL5⟩ := fr_get kF
    have nTL := fresh_ne fT eL5
    have off5 := hid_off (k45 _ _ nBL eB4) (k45 _ _ n300L e300) (k45 _ _ n314L e314) eL5
    have hz0 := hid_g0 zB y300 y314 aboveg
    have kg0 := hid_stays kF6 hz0
    have C0 := cx_start (L := _) B kF6 hz0 Dr (fun q hq => ⟨keep6 _ _ (k45 _ _ (nTup q hq) (hT q hq).1), off3 _ (hT q hq).2⟩) (keep6 _ _ gRow5) (off3 _ fRow) eT (off5 _ fT) hM (fun q hq => ⟨(hTk q hq).1, off5 _ (hTk q hq).2⟩) lenT l1 l2 heof
    have e6B := keep6 _ _ (k45 _ _ nBL eB4)
    have e6300 := keep6 _ _ (k45 _ _ n300L e300)
    have e6314 := keep6 _ _ (k45 _ _ n314L e314)
    have N6 := rest_newsF F6
    clear kF kN
    k_steps
    rename Fr _ _ _ _ => kF
    rename News _ _ _ _ => kN
    obtain ⟨h7, e9, -⟩ := name2 (P := fun hx : Heap => Fr _ _ hx _) kF
    subst e9
    have k67 := rest_keep kF6 kF kN (fun z hz => .tail _ hz)
    have eT7 := k67 _ _ nTL eT
    refine reader_made kF.ns (B.keeps (stays_cut kF.keep aboveg)) (by ktr_room) (by ktr_units) eT7 nTL (by rw [lenT]; exact l1) fun aR dR a1 aSc aCl kt nR8 tp n1 n2 n3 h8 tk8 kp8 ns8 fr8 nd8 gR gD g1 gSc gCl => ?_
    have F8 := fr_ns kF kp8 ns8
    have kF8 := F8.keep
    have k78 : ∀ b o, b ≠ _ → h7.get? b = some o → h8.get? b = some o := fun b o nb e => kp8 b o e (by simpa using nb)
    have eRow8 := k78 _ _ nRL (k67 _ _ nRL (keep6 _ _ gRow5))
    have N8 := rest_put (rest_newsF F8) eRow8 nRL zRow
    obtain ⟨oL7, eL7⟩ := fr_get kF
    have hxr := first_ix (as := rs) (by rw [Dr.len]; exact l1)
    clear kF kN
    k_steps
    rename Fr _ _ _ _ => kF
    rename News _ _ _ _ => kN
    rename Obj.IsDictOf _ _ (strPairs _) => hdS
    obtain ⟨h9, e9, -⟩ := name2 (P := fun hx : Heap => Fr _ _ hx _) kF
    subst e9
    obtain ⟨aSS, e9, -⟩ := name2 (P := fun D : Addr => News _ _ _ ((D, _) :: _)) kN
    subst e9
    obtain ⟨tu, e9, -⟩ := name2 (P := fun D : Addr => News _ _ _ (_ :: (D, _) :: _)) kN
    subst e9
    obtain ⟨an', e9, -⟩ := name2 (P := fun D : Addr => News _ _ _ (_ :: _ :: (D, _) :: _)) kN
    subst e9
    obtain ⟨aM, e9, -⟩ := name2 (P := fun D : Addr => News _ _ _ (_ :: _ :: _ :: (D, _) :: _)) kN
    subst e9
    obtain ⟨aS, e9, -⟩ := name2 (P := fun D : Addr => News _ _ _ (_ :: _ :: _ :: _ :: (D, _) :: _)) kN
    subst e9
    have k89 := rest_keep kF8 kF kN (fun z hz => by repeat (first | exact hz | apply List.Mem.tail))
    have k69 : ∀ b o, b ≠ _ → h6.get? b = some o → h9.get? b = some o := fun b o nb e => k89 b o nb (k78 b o nb (k67 b o nb e))
    have qSS := kN _ (.head _)
    have qtu := kN _ (.tail _ (.head _))
    have qan := kN _ (.tail _ (.tail _ (.head _)))
    have qM := kN _ (.tail _ (.tail _ (.tail _ (.head _))))
    have qS := kN _ (.tail _ (.tail _ (.tail _ (.tail _ (.head _)))))
    have fSS := rest_fresh2 qSS.2.1 qSS.2.2 (fun p hp => (by with_reducible assumption : ∀ p ∈ _, p.1 < _) p (by repeat (first | exact hp | apply List.Mem.tail)))
    have ftu := rest_fresh2 qtu.2.1 qtu.2.2 (fun p hp => (by with_reducible assumption : ∀ p ∈ _, p.1 < _) p (by repeat (first | exact hp | apply List.Mem.tail)))
    have fan := rest_fresh2 qan.2.1 qan.2.2 (fun p hp => (by with_reducible assumption : ∀ p ∈ _, p.1 < _) p (by repeat (first | exact hp | apply List.Mem.tail)))
    have fM := rest_fresh2 qM.2.1 qM.2.2 (fun p hp => (by with_reducible assumption : ∀ p ∈ _, p.1 < _) p (by repeat (first | exact hp | apply List.Mem.tail)))
    have fS := rest_fresh2 qS.2.1 qS.2.2 (fun p hp => (by with_reducible assumption : ∀ p ∈ _, p.1 < _) p (by repeat (first | exact hp | apply List.Mem.tail)))
    have has7 : ∀ x ∈ [aB, 300, 314], ∃ o, h7.get? x = some o := all3 ⟨_, k67 _ _ nBL e6B⟩ ⟨_, k67 _ _ n300L e6300⟩ ⟨_, k67 _ _ n314L e6314⟩
    have has8 : ∀ x ∈ [aB, 300, 314] ++ [aR, dR, a1, aSc, aCl], ∃ o, h8.get? x = some o := fun x hx => by
      rcases List.mem_append.mp hx with hx | hx
      · simp only [List.mem_cons, List.not_mem_nil, or_false] at hx
        rcases hx with hx | hx | hx <;> rw [hx]
        · exact ⟨_, k78 _ _ nBL (k67 _ _ nBL e6B)⟩
        · exact ⟨_, k78 _ _ n300L (k67 _ _ n300L e6300)⟩
        · exact ⟨_, k78 _ _ n314L (k67 _ _ n314L e6314)⟩
      · simp only [List.mem_cons, List.not_mem_nil, or_false] at hx
        rcases hx with hx | hx | hx | hx | hx <;> rw [hx]
        · exact ⟨_, gR⟩
        · exact ⟨_, gD⟩
        · exact ⟨_, g1⟩
        · exact ⟨_, gSc⟩
        · exact ⟨_, gCl⟩
    have fr9 : ∀ y ∈ [aS, aM, an', tu, aSS], h8.get? y = none := all5 fS fM fan ftu fSS
    have i1 : aS < aM := by lcg_src
    have i2 : aM < an' := by lcg_src
    have i3 : an' < tu := by lcg_src
    have i4 : tu < aSS := by lcg_src
    have nd9 := nd13 (by simp only [List.nodup_cons, List.mem_cons, List.not_mem_nil, not_or, or_false, not_false_eq_true, List.nodup_nil, and_true]; exact ⟨⟨Ne.symm n300, Ne.symm n314⟩, (by decide : (300 : Nat) ≠ 314)⟩) nd8
      (by simp only [List.nodup_cons, List.mem_cons, List.not_mem_nil, not_or, or_false, not_false_eq_true, List.nodup_nil, and_true]
          exact ⟨⟨Nat.ne_of_lt i1, Nat.ne_of_lt (Nat.lt_trans i1 i2), Nat.ne_of_lt (Nat.lt_trans i1 (Nat.lt_trans i2 i3)), Nat.ne_of_lt (Nat.lt_trans i1 (Nat.lt_trans i2 (Nat.lt_trans i3 i4)))⟩, ⟨Nat.ne_of_lt i2, Nat.ne_of_lt (Nat.lt_trans i2 i3), Nat.ne_of_lt (Nat.lt_trans i2 (Nat.lt_trans i3 i4))⟩, ⟨Nat.ne_of_lt i3, Nat.ne_of_lt (Nat.lt_trans i3 i4)⟩, Nat.ne_of_lt i4⟩)
      (fun x hx y hy => by obtain ⟨o, e⟩ := has7 x hx; exact (fresh_ne (fr8 y hy) e).symm) (fun x hx y hy => by obtain ⟨o, e⟩ := has8 x hx; exact (fresh_ne (fr9 y hy) e).symm)
    have nL8 : ∀ y ∈ [aR, dR, a1, aSc, aCl], y ≠ _ := fun y hy => fresh_ne (fr8 y hy) eL7
    have S9 := sta_start (aT := aT) (ts := ts) (row := row) nd9 (k89 _ _ (nL8 _ (by simp)) gR) (k89 _ _ (nL8 _ (by simp)) gD) qS.1 hdS (k89 _ _ (nL8 _ (by simp)) gSc) (k89 _ _ (nL8 _ (by simp)) gCl) qSS.1 (k89 _ _ (nL8 _ (by simp)) g1) qan.1 qtu.1 qM.1 (k69 _ _ nBL e6B) r0 r1 r2 (k69 _ _ n300L e6300) (k69 _ _ n314L e6314)
    have no7 : ∀ {y : Addr}, h8.get? y = none → y ≠ _ → h7.get? y = none := fun {y} e n => by
      cases q : h7.get? y with
      | none => rfl
      | some o => rw [k78 _ _ n q] at e; cases e
    have no6 : ∀ {y : Addr}, h7.get? y = none → y ≠ _ → h6.get? y = none := fun {y} e n => by
      cases q : h6.get? y with
      | none => rfl
      | some o => rw [k67 _ _ n q] at e; cases e
    have P9 := fun (env : Env) hf hk => pre_start (env := env) S9 rfl k69 kF.ns hf hk (fun b hb => by
      simp only [List.mem_cons, List.not_mem_nil, or_false] at hb
      rcases hb with hb | hb | hb | hb | hb | hb | hb | hb | hb <;> rw [hb]
      · exact no6 (fr8 _ (by simp)) (nL8 _ (by simp))
      · exact no6 (fr8 _ (by simp)) (nL8 _ (by simp))
      · exact no6 (no7 fS qS.2.1) qS.2.1
      · exact no6 (fr8 _ (by simp)) (nL8 _ (by simp))
      · exact no6 (fr8 _ (by simp)) (nL8 _ (by simp))
      · exact no6 (no7 fSS qSS.2.1) qSS.2.1
      · exact no6 (no7 fM qM.2.1) qM.2.1
      · exact no6 (fr8 _ (by simp)) (nL8 _ (by simp))
      · exact no6 (no7 fan qan.2.1) qan.2.1) (fun b hb => by
      simp only [adrs, core, scAd, Va.sc, List.nil_append, List.flatMap_cons, List.flatMap_nil, List.append_nil, List.mem_append, List.mem_cons, List.not_mem_nil, or_false] at hb
      rcases hb with (hb | hb | hb | hb | hb | hb | hb | hb | hb) | hb | hb | hb | hb <;> rw [hb]
      · exact nL8 _ (by simp)
      · exact nL8 _ (by simp)
      · exact qS.2.1
      · exact nBL
      · exact nL8 _ (by simp)
      · exact nL8 _ (by simp)
      · exact qSS.2.1
      · exact n300L
      · exact n314L
      · exact qM.2.1
      · exact nL8 _ (by simp)
      · exact qan.2.1
      · exact qtu.2.1)
    (try clear has7)
    (try clear has8)
    (try clear fr9)
    (try clear i1)
    (try clear i2)
    (try clear i3)
    (try clear i4)
    (try clear nd9)
    (try clear no7)
    (try clear no6)
    (try clear fS)
    (try clear fM)
    (try clear fan)
    (try clear ftu)
    (try clear fSS)
    (try clear fr8)
    (try clear nd8)
    (try clear k78)
    (try clear k67)
    (try clear k89)
    (try clear gR)
    (try clear gD)
    (try clear g1)
    (try clear gSc)
    (try clear gCl)
    (try clear kF8)
    (try clear eRow8)
    (try clear hxr)
    (try clear eL7)
    (try clear eT7)
    (try clear off3)
    (try clear off5)
    (try clear hM)
    (try clear hTk)
    (try clear hT)
    (try clear Dr)
    (try clear e314)
    (try clear e300)
    (try clear e6B)
    (try clear e6300)
    (try clear e6314)
    (try clear k45)
    (try clear gRow5)
    (try clear keep6)
    (try clear fT)
    (try clear eT)
    (try clear eRow)
    (try clear fRow)
    (try clear eB4)
    (try clear nTup)
    (try clear kF4)
    (try clear kF6)
    (try clear N6)
    (try clear N8)
    (try clear F6)
    (try clear F8)
    (try clear N4)
    (try clear F4)
    have N9 := rest_newsF kF
    have kF9 := kF.keep
    clear kN
    refine wpAny_For ?_
    k_steps
    rename News _ _ _ _ => kN
    rename Fr _ _ _ _ => kF
    rename IsRange _ _ _ _ _ _ _ _ => hR
    obtain ⟨h10, e9, -⟩ := name2 (P := fun hx : Heap => Fr _ _ hx _) kF
    subst e9
    have k910 := rest_keep kF9 kF kN (fun z hz => hz)
    have L10 := kF.ns.lt
    have lt9 : ∀ b o, b ≠ _ → h9.get? b = some o → b ≠ h10.objs.size := fun b o n e => Nat.ne_of_lt (Heap.lt_size (k910 b o n e))
    refine for_range (hE := by rw [hE9]; passes_own) rfl hR (by decide) (show _ = ((3 : Nat) : Int) from rfl) (LwJ _ _ _ _ h10.objs.size _ _) (fun _ _ => True) kF kN
      ⟨rfl, by ktn_lt, by ktn_lt, by ktn_lt, fun hh mm FF NN => ⟨_, preU_start P9 ⟨rfl, rfl, rfl, rfl⟩ rfl rfl (by dsimp only; omega) rfl (fun b o n1 _ e => rest_keep kF9 FF NN (fun z hz => hz) b o n1 e) lt9 (hid_none rfl k69 k910 L10) FF.ns⟩⟩ trivial (fun _ _ _ _ _ => trivial) ?_ ?_
    · intro I i tv g' m₁ news₁ h₃ tk₃ oI hI hi J₁ _ F₃ N₃ off hoI
      obtain ⟨rfl, j1, j2, j3, cl⟩ := J₁
      obtain ⟨v', U⟩ := cl h₃ m₁ F₃ (news_tail N₃)
      have hI' : h10.objs.size = I := hI.symm
      have hI2 : I = h10.objs.size := hI
      rw [hI'] at U
      have gI3 := N₃ _ (.head _)
      have kF3 := F₃.keep
      have N4 := rest_newsF F₃
      have hcost : cost 3 = 2210 := rfl
      have hneed : need 3 = 280 := rfl
      have hmul : i * cost 3 ≤ 2 * cost 3 := Nat.mul_le_mul_right _ (by omega)
      have ub1 := U.b1
      have uys := U.ys
      generalize i * cost 3 = qq at ub1 uys hmul
      clear kF kN N₃ cl
      k_steps
      rename News _ _ _ _ => kN
      rename Fr _ _ _ _ => kF
      obtain ⟨h11, e9, -⟩ := name2 (P := fun hx : Heap => Fr _ _ hx _) kF
      subst e9
      have k34 := rest_keep kF3 kF kN (fun z hz => hz)
      have P4 := fun (env : Env) hf hk => pre_move (env := env) (U.pre env hf hk) (fun b o n1 _ e => k34 b o n1 e) (hid_none hI2 k69 k910 L10) U.off hf hk kF.ns
      refine wpA_eq (A' := ar 302 7 (some [_]) (some [])) rfl ?_
      refine deeds_ok (c := ⟨aR, dR, aT, aRow, aS, aB, aSc, aCl, aSS, kt, nR8, ts, rs, row⟩) C0 3 (by decide) (by decide) rfl (P4 _ rfl (by nofun)) U.fit ⟨by omega, by omega, by rw [U.lo]; decide⟩ fun h12 v2 tk12 Y fit2 => ?_
      have PX := P4 (envOf (Str.ofString "") inScope _ 0 .none) rfl (by nofun)
      have F12 := fr_up kF Y.up (fun a ha => gone_of kg0 (PX.out a ha)) (fun q => PX.dis _ (.head _) (wr_adrs q))
      have N12 := rest_newsF F12
      have kF12 := F12.keep
      have gI11 := k34 _ _ gI3.2.1 gI3.1
      have gI12 := Y.up.keep gI11 (wr_free U.free) (fun q => gI3.2.1 (List.mem_singleton.mp q))
      clear kF kN
      k_steps
      rename News _ _ _ _ => kN
      rename Fr _ _ _ _ => kF
      obtain ⟨h13, e9, -⟩ := name2 (P := fun hx : Heap => Fr _ _ hx _) kF
      subst e9
      have k1213 := rest_keep kF12 kF kN (fun z hz => hz)
      exact ⟨_, _, _, _, _, rfl, trivial, kF, news_put (restI_news kF) (k1213 _ _ gI3.2.1 gI12) gI3.2.1 gI3.2.2, restI_off, rfl, by ktn_lt, by ktn_lt, by ktn_lt, fun hh mm FF NN => ⟨v2, by
        rw [hI']
        exact preU_next P4 U.lo U.b1 U.ys U.free rfl Y fit2 hoI gI11 gI3.2.1 (hid_none hI2 k69 k910 L10) (fun b o n e => k1213 b o n e) (restI_keep kF.keep FF NN) FF.ns⟩⟩
    · intro g' m₁ news₁ h₃ tk₃ J₁ _ F₃ N₃
      obtain ⟨rfl, j1, j2, j3, cl⟩ := J₁
      obtain ⟨v', U⟩ := cl h₃ m₁ F₃ N₃
      have kF3 := F₃.keep
      have N4 := rest_newsF F₃
      clear kF kN N₃
      k_steps
      rename News _ _ _ _ => kN
      rename Fr _ _ _ _ => kF
      have k34 := rest_keep kF3 kF kN (fun z hz => hz)
      have P4 := pre_move (env := envOf (Str.ofString "") inScope _ 0 .none) (U.pre _ rfl (by nofun)) (fun b o n1 _ e => k34 b o n1 e) (hid_none rfl k69 k910 L10) U.off rfl (by nofun) kF.ns
      refine wpA_eq (A' := ar 302 7 (some [_]) (some [])) rfl ?_
      refine agrees_st (c := ⟨aR, dR, aT, aRow, aS, aB, aSc, aCl, aSS, kt, nR8, ts, rs, row⟩) (C0.keeps P4.h0) P4.st U.fit (by decide) (by decide) fun h' tk' kS => ?_
      have F5 := Fr.keeps kF kS
      have e3 := kS _ _ P4.st.r.p3
      have e4 := kS _ _ P4.st.r.p4
      have N5 := rest_newsF F5
      exact ⟨goodW_bool F5 hgens (fun _ => rfl) (by wrow_post), ⟨_, e4⟩, ⟨_, e3⟩, trivial⟩

end Mine
theorem PySem.Challenge.cw_nz0038_01_holds : PySem.Challenge.rw_nz0038_01.Holds :=
  Mine.fin
