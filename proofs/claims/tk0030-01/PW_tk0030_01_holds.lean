import PyProof.Rows.All
import Wide.All
import OpenK.AllK
import Wide.FinOn
import PySem.Challenge.RW_tk0030_01
open PySem PySem.W PyProof.Rows
set_option Elab.async false
set_option maxRecDepth 100000
local macro_rules | `(tactic| ktn_open) => `(tactic| k_extra "L:ktn_open")
local macro_rules | `(tactic| walk_at "RetOf") => `(tactic| k_extra "L:RetOf")
local macro_rules | `(tactic| walk_at "exec For Name Call cons nil") => `(tactic| k_extra "L:exec For Name Call cons nil")
local macro_rules | `(tactic| walk_at "pyIter ref") => `(tactic| k_extra "L:pyIter ref")
local macro_rules | `(tactic| walk_at "subscriptTail") => `(tactic| k_extra "L:subscriptTail")
local macro_rules | `(tactic| walk_at "call ref") => `(tactic| k_extra "L:call ref")
local macro_rules | `(tactic| walk_at "call builtin:len") => `(tactic| k_extra "L:call builtin:len")
local macro_rules | `(tactic| walk_at "compareOp NotEq ref ref") => `(tactic| k_extra "L:compareOp NotEq ref ref")
local macro_rules | `(tactic| walk_at "InvEndG") => `(tactic| k_extra "L:InvEndG")
local macro_rules | `(tactic| ktr_unf) => `(tactic| k_extra "L:ktr_unf")
local macro_rules | `(tactic| walk_at "CompSrc") => `(tactic| k_extra "L:CompSrc")
local macro_rules | `(tactic| walk_at "eval ListComp") => `(tactic| k_extra "L:eval ListComp")
local macro_rules | `(tactic| walk_at "CompOut") => `(tactic| k_extra "L:CompOut")
local macro_rules | `(tactic| walk_at "binaryOp Add ref ref") => `(tactic| k_extra "L:binaryOp Add ref ref")
local macro_rules | `(tactic| walk_at "call type:list") => `(tactic| k_extra "L:call type:list")
local macro_rules | `(tactic| walk_at "binaryOp Mult ref int") => `(tactic| k_extra "L:binaryOp Mult ref int")
local macro_rules | `(tactic| walk_at "call builtin:list.append") => `(tactic| k_extra "L:call builtin:list.append")
local macro_rules | `(tactic| walk_at "binaryOp FloorDiv int int") => `(tactic| k_extra "L:binaryOp FloorDiv int int")
local macro_rules | `(tactic| walk_at "compareOp Eq ref ref") => `(tactic| k_extra "L:compareOp Eq ref ref")
local macro_rules | `(tactic| walk_at "execs cons Assign cons") => `(tactic| k_extra "L:execs cons Assign cons")
local macro_rules | `(tactic| walk_at "execs cons For cons") => `(tactic| k_extra "L:execs cons For cons")
local macro_rules | `(tactic| walk_at "execs cons If cons") => `(tactic| k_extra "L:execs cons If cons")
local macro_rules | `(tactic| walk_at "CellLoop") => `(tactic| k_extra "L:CellLoop")
local macro_rules | `(tactic| walk_at "newTuple") => `(tactic| k_extra "L:newTuple")
local macro_rules | `(tactic| walk_at "binaryOp Mult int int") => `(tactic| k_extra "L:binaryOp Mult int int")
local macro_rules | `(tactic| walk_at "IntOut") => `(tactic| k_extra "L:IntOut")
local macro_rules | `(tactic| walk_at "call builtin:sum") => `(tactic| k_extra "L:call builtin:sum")
local macro_rules | `(tactic| walk_at "newList") => `(tactic| k_extra "L:newList")
local macro_rules | `(tactic| walk_at "TakeOut") => `(tactic| k_extra "L:TakeOut")

namespace Mine
set_option maxRecDepth 100000 in
set_option maxHeartbeats 8000000 in
open_top hd for PySem.Challenge.rw_tk0030_01
end Mine

namespace Mine
open PySem.Calls PySem.Spec

/-- none of the new ones is an old one -/
def Apart (news tl : List (Addr × Obj)) : Prop := ∀ q ∈ news, ∀ p ∈ tl, q.1 ≠ p.1
def RetOf (g : Heap) (s : Shared) (P : List (Addr × Obj) → Value → Prop) (v : Value) (s' : Shared) : Prop :=
  ∃ L' m' tl h' tk, s' = { s with heap := h', toks := tk } ∧ Fr g L' h' m' ∧ News g L' h' tl ∧ P tl v

section
variable {prog : Program} {w : World} {A A₀ : Around} {E : Value → Shared → Prop} {s : Shared} {K : Frag} {L : Addr} {h₀ base : Heap} {m mg mb : Str → Option Value} {news : List (Addr × Obj)} {p : Program} {loose : List Str} {mean : ExcName → Option Value} {Q : Value → Shared → Prop}
theorem retOf_back {g : Heap} {P : List (Addr × Obj) → Value → Prop} {v : Value} {s' : Shared} (N : News h₀ L s.heap news) (hg : ∀ b o, s.heap.get? b = some o → g.get? b = some o)
    (hret : ∀ r tl h' tk', Fr h₀ L h' m → News h₀ L h' (news ++ tl) → Apart news tl → P tl r → Q r { s with heap := h', toks := tk' })
    (hr : RetOf g s P v s') : LeaveK h₀ L m g (fun r s' => match r with | .ok (.ret v) => Q v s' | .ok _ => False | .error e => E e s') v s' := by
  obtain ⟨L', m', tl, h', tk, rfl, F', N', hP⟩ := hr
  refine ⟨L', m', tl, F', N', fun kF kN => ?_⟩
  refine hret v tl h' tk kF (fun q hq => ?_) (fun q hq r hr e => ?_) hP
  · rcases List.mem_append.mp hq with hq | hq
    · exact ⟨F'.keep _ _ (hg _ _ (N q hq).1), (N q hq).2⟩
    · exact kN q hq
  · have h1 := hg _ _ (N q hq).1
    rw [e, (N' r hr).2.2] at h1
    cases h1

/-- a leaf of the walk that is closed by hand -/
def Leaf (p : Prop) : Prop := p
theorem retOf_mk {g : Heap} {P : List (Addr × Obj) → Value → Prop} {v : Value} {L' : Addr} {m' : Str → Option Value} {tl : List (Addr × Obj)} {h' : Heap} {tk : Nat} (F' : Fr g L' h' m') (N' : News g L' h' tl) (hP : Leaf (P tl v)) : RetOf g s P v { s with heap := h', toks := tk } :=
  ⟨L', m', tl, h', tk, rfl, F', N', hP⟩
theorem enterP {env : Env} {outer : List Env} {name qual : Str} {params : Arguments} {body : List Stmt} {scope : Scope} {dV kV doc pm cdv ct oc : Value} {an od : Option Addr} {osl : Array (Option Value)} {f : Addr} {vs : List Value} {binds : List (Str × Value)} (P : List (Addr × Obj) → Value → Prop)
    (B : Below A₀ base outer h₀) (F : Fr h₀ L s.heap m) (X₀ : K.In h₀) (N : News h₀ L s.heap news) (T : Top p loose mean mg mb h₀) (hA : A.frames = some (env :: outer)) (hf : env.frame = some L) (hke : env.scope.kind = .function)
    (ho : K.lookup f = some ⟨oc, od, .func (fnOf name qual params body scope dV kV doc pm an cdv ct), osl⟩) (hcd : codeIn K cdv qual = true) (hroom : A.depth < recursionLimit)
    (hbind : BindsTo s (fnOf name qual params body scope dV kV doc pm an cdv ct) ⟨vs, []⟩ binds) (hloc : ∀ y ∈ binds, scope.names.lookup y.1 = some .local)
    (hret : ∀ r tl h' tk', Fr h₀ L h' m → News h₀ L h' (news ++ tl) → Apart news tl → P tl r → Q r { s with heap := h', toks := tk' })
    (h : ∀ g L' h₁ tk, (∀ b o, s.heap.get? b = some o → g.get? b = some o) → Fr g L' h₁ (fun y => binds.reverse.lookup y) → News g L' h₁ [] → Below A base (env :: outer) g → K.In g → Top p loose mean mg mb g →
      wpAny (model prog w) (A.deeper (envOf qual scope L' f cdv)) (execs body (envOf qual scope L' f cdv))
        (fun fl s' => RetOf g s P (match fl with | .ret v => v | _ => .none) s')
        (fun e s' => wpAny (model prog w) (A.deeper (envOf qual scope L' f cdv)) (leaving (envOf qual scope L' f cdv) e) (fun _ s'' => E e s'') (fun e' s'' => E e' s'') s')
        { s with heap := h₁, toks := tk })
    (hco : scope.isCoroutine = false) (hgen : scope.isGenerator = false) (hk : scope.kind = .function)
    (hcell : ∀ x ∈ scope.names, x.2 ≠ .cell) : wpAny (model prog w) A (call (.ref f) vs) Q E s := by
  refine wpAny_call (code_defG B F X₀ (news := []) News.nil T hA hf hke ho hcd hroom hbind hloc (fun g L' h₁ FG F' N' B' X' T' kG => ?_) hco hgen hk hcell)
  have hg : ∀ b o, s.heap.get? b = some o → g.get? b = some o := fun b o e => kG b o e (by simp)
  exact wpAny_mono (h g L' h₁ _ hg F' N' B' X' T') (fun fl s' hr => retOf_back N hg hret hr) fun _ _ e => e

theorem enterC {env : Env} {outer : List Env} {name qual : Str} {params : Arguments} {body : List Stmt} {scope : Scope} {dV kV doc pm cdv ct oc : Value} {an od : Option Addr} {osl : Array (Option Value)} {f : Addr} {vs : List Value} {binds : List (Str × Value)} (P : List (Addr × Obj) → Value → Prop)
    (B : Below A₀ base outer h₀) (F : Fr h₀ L s.heap m) (X₀ : K.In h₀) (N : News h₀ L s.heap news) (T : Top p loose mean mg mb h₀) (hA : A.frames = some (env :: outer)) (hf : env.frame = some L) (hke : env.scope.kind = .function)
    (ho : K.lookup f = some ⟨oc, od, .func (fnOf name qual params body scope dV kV doc pm an cdv ct), osl⟩) (hcd : codeIn K cdv qual = true) (hroom : A.depth < recursionLimit)
    (hbind : BindsTo s (fnOf name qual params body scope dV kV doc pm an cdv ct) ⟨vs, []⟩ binds) (hkind : (binds.all fun y => scope.names.lookup y.1 == some .local || scope.names.lookup y.1 == some .cell) = true)
    (hnd : ((cellsFrom 0 scope.names []).map (·.1)).Nodup)
    (hret : ∀ r tl h' tk', Fr h₀ L h' m → News h₀ L h' (news ++ tl) → Apart news tl → P tl r → Q r { s with heap := h', toks := tk' })
    (h : ∀ g L' h₁ tk cells, (∀ b o, s.heap.get? b = some o → g.get? b = some o) → Fr g L' h₁ (bindL (envOfC qual scope L' f cdv).kindOf binds fun _ => none) → News g L' h₁ (cells ++ []) →
      CellsAre (bindC (envOfC qual scope L' f cdv).kindOf binds fun _ => none) (cellsFrom (L' + 1) scope.names []) cells → Below A base (env :: outer) g → K.In g → Top p loose mean mg mb g →
      wpAny (model prog w) (A.deeper (envOfC qual scope L' f cdv)) (execs body (envOfC qual scope L' f cdv))
        (fun fl s' => RetOf g s P (match fl with | .ret v => v | _ => .none) s')
        (fun e s' => wpAny (model prog w) (A.deeper (envOfC qual scope L' f cdv)) (leaving (envOfC qual scope L' f cdv) e) (fun _ s'' => E e s'') (fun e' s'' => E e' s'') s')
        { s with heap := h₁, toks := tk })
    (hco : scope.isCoroutine = false) (hgen : scope.isGenerator = false) (hk : scope.kind = .function) : wpAny (model prog w) A (call (.ref f) vs) Q E s := by
  obtain ⟨_, BG, st, lv⟩ := groundX (R := fun r s' => match r with | .ok (.ret v) => Q v s' | .ok _ => False | .error e => E e s') B F (news := []) News.nil hA hf hke
  refine wpAny_call (codeAny_call_function hroom (X₀.keeps F.keep _ _ ho) rfl hco hgen rfl (codeRec_of (X₀.keeps F.keep) hcd) (hbind _ _ _ _ ?_))
  refine wpAny_newFunctionEnv_cells hk (kindsX hkind _) fun env' he s' x => ?_
  subst he
  refine ⟨(T.nolimit.keeps F.keep).keeps x.toInCall.keep, codeAny_func ?_⟩
  obtain ⟨h₁, tk, rfl, _⟩ := x.done
  obtain ⟨cells, NC, Y⟩ := Cl.news (h₀ := s.heap) (Nat.le_refl _) fun n c hm => ⟨x.cell n c (lookup_of_mem_nodup (cellsFrom_names scope.names 0 (s.heap.objs.size + 1) [] [] rfl ▸ hnd) hm), x.above n c hm⟩
  refine wpAny_mono (h s.heap s.heap.objs.size h₁ tk cells (fun _ _ e => e) ⟨x.toInCall.ns, fun b o e => x.toInCall.keep b o e, Nat.le_refl _⟩ (by rw [List.append_nil]; exact NC) Y BG (X₀.keeps st) (T.keeps st)) (fun fl s' hr => lv _ _ (retOf_back N (fun _ _ e => e) hret hr)) fun _ _ e => e
end
end Mine

namespace Mine
open PySem.Calls PySem.Spec

abbrev tupOf (x y : Int) (t u : Tok) : Obj := { cls := .type "tuple", data := .seq #[.int x t, .int y u] }
/-- a ratio in lowest terms -/
def red (p : Int × Int) : Int × Int := (p.1.fdiv (Int.gcd p.1 p.2), p.2.fdiv (Int.gcd p.1 p.2))

inductive RatAt (g : Heap) (led : List (Addr × Obj)) : Value → Int × Int → Prop
  | base {a : Addr} {x y : Int} {t u : Tok} : g.get? a = some (tupOf x y t u) → RatAt g led (.ref a) (x, y)
  | made {a : Addr} {x y : Int} {t u : Tok} : (a, tupOf x y t u) ∈ led → RatAt g led (.ref a) (x, y)
  | zero : RatAt g led (.ref 49) (0, 1)
  | one : RatAt g led (.ref 50) (1, 1)
theorem RatAt.mono {g : Heap} {led led' : List (Addr × Obj)} {v : Value} {x : Int × Int} (h : RatAt g led v x) (hs : ∀ p ∈ led, p ∈ led') : RatAt g led' v x := by
  cases h with
  | base h => exact .base h
  | made h => exact .made (hs _ h)
  | zero => exact .zero
  | one => exact .one
theorem RatAt.ref {g : Heap} {led : List (Addr × Obj)} {v : Value} {x : Int × Int} (h : RatAt g led v x) : ∃ a, v = .ref a := by
  cases h <;> exact ⟨_, rfl⟩
theorem RatAt.to {h₀ H g : Heap} {L : Addr} {m : Str → Option Value} {news led : List (Addr × Obj)} {v : Value} {x : Int × Int} (h : RatAt h₀ news v x) (F : Fr h₀ L H m) (N : News h₀ L H news) (hg : ∀ b o, H.get? b = some o → g.get? b = some o) : RatAt g led v x := by
  cases h with
  | base h => exact .base (hg _ _ (F.keep _ _ h))
  | made h => exact .base (hg _ _ (N _ h).1)
  | zero => exact .zero
  | one => exact .one
/-- what a call hands back: made by the call, or one of the text's own two -/
def RatOut (tl : List (Addr × Obj)) (v : Value) (x : Int × Int) : Prop := ∀ (g : Heap) (led : List (Addr × Obj)), (∀ p ∈ tl, p ∈ led) → RatAt g led v x

inductive RatsAt (g : Heap) (led : List (Addr × Obj)) : List Value → List (Int × Int) → Prop
  | nil : RatsAt g led [] []
  | cons {v : Value} {vs : List Value} {p : Int × Int} {ps : List (Int × Int)} : RatAt g led v (red p) → RatsAt g led vs ps → RatsAt g led (v :: vs) (p :: ps)
theorem RatsAt.mono {g : Heap} {led led' : List (Addr × Obj)} {vs : List Value} {ps : List (Int × Int)} (h : RatsAt g led vs ps) (hs : ∀ p ∈ led, p ∈ led') : RatsAt g led' vs ps := by
  induction h with
  | nil => exact .nil
  | cons h _ ih => exact .cons (h.mono hs) ih
theorem RatsAt.length {g : Heap} {led : List (Addr × Obj)} {vs : List Value} {ps : List (Int × Int)} (h : RatsAt g led vs ps) : vs.length = ps.length := by
  induction h with
  | nil => rfl
  | cons _ _ ih => rw [List.length_cons, List.length_cons, ih]
theorem RatsAt.to {h₀ H g : Heap} {L : Addr} {m : Str → Option Value} {news led : List (Addr × Obj)} {vs : List Value} {ps : List (Int × Int)} (h : RatsAt h₀ news vs ps) (F : Fr h₀ L H m) (N : News h₀ L H news) (hg : ∀ b o, H.get? b = some o → g.get? b = some o) : RatsAt g led vs ps := by
  induction h with
  | nil => exact .nil
  | cons h _ ih => exact .cons (h.to F N hg) ih
theorem RatsAt.get {g : Heap} {led : List (Addr × Obj)} {vs : List Value} {ps : List (Int × Int)} (h : RatsAt g led vs ps) : ∀ {k : Nat}, k < ps.length → ∃ a, vs[k]? = some (.ref a) ∧ RatAt g led (.ref a) (red (ps.getD k (0, 1))) := by
  induction h with
  | nil => intro k hk; exact absurd hk (Nat.not_lt_zero _)
  | cons h _ ih =>
    intro k hk
    cases k with
    | zero => obtain ⟨a, rfl⟩ := h.ref; exact ⟨a, rfl, h⟩
    | succ k => exact ih (Nat.lt_of_succ_lt_succ hk)
theorem RatsAt.append {g : Heap} {led : List (Addr × Obj)} {vs ws : List Value} {ps qs : List (Int × Int)} (h : RatsAt g led vs ps) (k : RatsAt g led ws qs) : RatsAt g led (vs ++ ws) (ps ++ qs) := by
  induction h with
  | nil => exact k
  | cons h _ ih => exact .cons h ih

inductive SerAt (g : Heap) (led : List (Addr × Obj)) : Value → List (Int × Int) → Prop
  | base {a : Addr} {vs : List Value} {n : Nat} {ps : List (Int × Int)} : g.get? a = some (listOf vs.toArray n) → RatsAt g led vs ps → SerAt g led (.ref a) ps
  | made {a : Addr} {vs : List Value} {n : Nat} {ps : List (Int × Int)} : (a, listOf vs.toArray n) ∈ led → RatsAt g led vs ps → SerAt g led (.ref a) ps
theorem SerAt.mono {g : Heap} {led led' : List (Addr × Obj)} {v : Value} {ps : List (Int × Int)} (h : SerAt g led v ps) (hs : ∀ p ∈ led, p ∈ led') : SerAt g led' v ps := by
  cases h with
  | base h r => exact .base h (r.mono hs)
  | made h r => exact .made (hs _ h) (r.mono hs)
theorem SerAt.ref {g : Heap} {led : List (Addr × Obj)} {v : Value} {ps : List (Int × Int)} (h : SerAt g led v ps) : ∃ a, v = .ref a := by
  cases h <;> exact ⟨_, rfl⟩
theorem SerAt.to {h₀ H g : Heap} {L : Addr} {m : Str → Option Value} {news led : List (Addr × Obj)} {v : Value} {ps : List (Int × Int)} (h : SerAt h₀ news v ps) (F : Fr h₀ L H m) (N : News h₀ L H news) (hg : ∀ b o, H.get? b = some o → g.get? b = some o) : SerAt g led v ps := by
  cases h with
  | base h r => exact .base (hg _ _ (F.keep _ _ h)) (r.to F N hg)
  | made h r => exact .base (hg _ _ (N _ h).1) (r.to F N hg)
def SerOut (tl : List (Addr × Obj)) (v : Value) (ps : List (Int × Int)) : Prop := ∀ (g : Heap) (led : List (Addr × Obj)), (∀ p ∈ tl, p ∈ led) → SerAt g led v ps

theorem top_zero (P : Params) : ∃ t u, (hd.heap_39 P).lookup 49 = some (tupOf 0 1 t u) := ⟨_, _, rfl⟩
theorem top_one (P : Params) : ∃ t u, (hd.heap_39 P).lookup 50 = some (tupOf 1 1 t u) := ⟨_, _, rfl⟩

section
variable {P : Params} {h₀ H : Heap} {L : Addr} {m : Str → Option Value} {n₁ news : List (Addr × Obj)} {a b : Addr} {x y : Int × Int} {ps : List (Int × Int)}
theorem RatAt.heap (h : RatAt h₀ n₁ (.ref a) x) (hs : ∀ p ∈ n₁, p ∈ news) (F : Fr h₀ L H m) (X : (hd.heap_39 P).In h₀) (N : News h₀ L H news) : ∃ t u, H.get? a = some (tupOf x.1 x.2 t u) := by
  cases h with
  | base h => exact ⟨_, _, F.keep _ _ h⟩
  | made h => exact ⟨_, _, (N _ (hs _ h)).1⟩
  | zero => obtain ⟨t, u, e⟩ := top_zero P; exact ⟨t, u, F.keep _ _ (X _ _ e)⟩
  | one => obtain ⟨t, u, e⟩ := top_one P; exact ⟨t, u, F.keep _ _ (X _ _ e)⟩
theorem RatAt.reads (h : RatAt h₀ n₁ (.ref a) x) (hs : ∀ p ∈ n₁, p ∈ news) (F : Fr h₀ L H m) (X : (hd.heap_39 P).In h₀) (N : News h₀ L H news) : Reads H (.ref a) (.tuple [.int x.1, .int x.2]) [] := by
  obtain ⟨t, u, e⟩ := h.heap hs F X N
  exact reads_tuple_at e rfl rfl (readsAll_cons_val (Reads.int _ _) (readsAll_cons_val (Reads.int _ _) ReadsAll.nil))
theorem SerAt.heap (h : SerAt h₀ n₁ (.ref a) ps) (hs : ∀ p ∈ n₁, p ∈ news) (F : Fr h₀ L H m) (N : News h₀ L H news) : ∃ vs n, H.get? a = some (listOf vs.toArray n) ∧ RatsAt h₀ n₁ vs ps := by
  cases h with
  | base h r => exact ⟨_, _, F.keep _ _ h, r⟩
  | made h r => exact ⟨_, _, (N _ (hs _ h)).1, r⟩
theorem eqv_pair (x y : Int × Int) : PyData.eqv (.tuple [.int x.1, .int x.2]) (.tuple [.int y.1, .int y.2]) = decide (x = y) := by
  simp only [PyData.eqv, PyData.eqvAll, Bool.and_true]
  cases x; cases y
  simp only [Prod.mk.injEq, Bool.decide_and]
  first | rfl | (congr 1 <;> rfl) | simp
end
section
variable {prog : Program} {w : World} {A : Around} {E : Value → Shared → Prop} {s : Shared} {P : Params} {h₀ : Heap} {L : Addr} {m : Str → Option Value} {n₁ n₂ news : List (Addr × Obj)} {a b : Addr} {x y : Int × Int} {ps : List (Int × Int)} {Q : Value → Shared → Prop}
theorem rat_item0 {value slice : PySem.Expr} {u : Tok} (hR : RatAt h₀ n₁ (.ref a) x) (hs : ∀ p ∈ n₁, p ∈ news) (F : Fr h₀ L s.heap m) (X : (hd.heap_39 P).In h₀) (N : News h₀ L s.heap news) (h : ∀ t, Q (.int x.1 t) s)
    (he : subscripted slice false (.ref a) (.int 0 u) = operate [.ref a, .int 0 u] (getItem (.ref a) (.int 0 u))) :
    wpAny (model prog w) A (subscriptTail value slice (.ref a) (.int 0 u)) Q E s := by
  obtain ⟨t, v, e⟩ := hR.heap hs F X N
  exact item_tupleT (l := [.int x.1 t, .int x.2 v]) (j := 0) ⟨_, e, rfl, _, rfl⟩ (by decide) (by decide) rfl rfl (h t) he
theorem rat_item1 {value slice : PySem.Expr} {u : Tok} (hR : RatAt h₀ n₁ (.ref a) x) (hs : ∀ p ∈ n₁, p ∈ news) (F : Fr h₀ L s.heap m) (X : (hd.heap_39 P).In h₀) (N : News h₀ L s.heap news) (h : ∀ t, Q (.int x.2 t) s)
    (he : subscripted slice false (.ref a) (.int 1 u) = operate [.ref a, .int 1 u] (getItem (.ref a) (.int 1 u))) :
    wpAny (model prog w) A (subscriptTail value slice (.ref a) (.int 1 u)) Q E s := by
  obtain ⟨t, v, e⟩ := hR.heap hs F X N
  exact item_tupleT (l := [.int x.1 t, .int x.2 v]) (j := 1) ⟨_, e, rfl, _, rfl⟩ (by decide) (by decide) rfl rfl (h v) he
theorem ser_item {value slice : PySem.Expr} {u : Tok} {k : Int} (hS : SerAt h₀ n₁ (.ref a) ps) (hs : ∀ p ∈ n₁, p ∈ news) (F : Fr h₀ L s.heap m) (N : News h₀ L s.heap news) (h0 : 0 ≤ k) (hk : k < ps.length) (hl : ps.length ≤ 100)
    (h : ∀ b, RatAt h₀ n₁ (.ref b) (red (ps.getD k.toNat (0, 1))) → Q (.ref b) s)
    (he : subscripted slice false (.ref a) (.int k u) = operate [.ref a, .int k u] (getItem (.ref a) (.int k u))) :
    wpAny (model prog w) A (subscriptTail value slice (.ref a) (.int k u)) Q E s := by
  obtain ⟨vs, n, e, r⟩ := hS.heap hs F N
  obtain ⟨b, hb, hR⟩ := r.get (k := k.toNat) (by lia)
  have hL : s.heap.IsList a vs.toArray := ⟨_, e, rfl, _, rfl⟩
  exact tail_any hL.typeIs slot_list_getitem.lookup (wpAny_getItem_list hL h0 (by lia) (by simpa using hb) (h b hR)) he
theorem ser_len (hS : SerAt h₀ n₁ (.ref a) ps) (hs : ∀ p ∈ n₁, p ∈ news) (F : Fr h₀ L s.heap m) (N : News h₀ L s.heap news) (hl : ps.length ≤ 100) (h : Q (.int (ps.length : Int) (s.toks + 1)) { s with toks := s.toks + 1 + 1 }) :
    wpAny (model prog w) A (call (.builtin "len") [.ref a]) Q E s := by
  obtain ⟨vs, n, e, r⟩ := hS.heap hs F N
  have h1 := r.length
  have hL : s.heap.IsList a vs.toArray := ⟨_, e, rfl, _, rfl⟩
  refine len_list hL (by rw [List.size_toArray]; lia) ?_
  rw [List.size_toArray, h1]
  exact h
theorem rat_ne (hR : RatAt h₀ n₁ (.ref a) x) (hs : ∀ p ∈ n₁, p ∈ news) (hR₂ : RatAt h₀ n₂ (.ref b) y) (hs₂ : ∀ p ∈ n₂, p ∈ news) (F : Fr h₀ L s.heap m) (X : (hd.heap_39 P).In h₀) (N : News h₀ L s.heap news) (hu : A.units + 64 < cLine) (h : Q (.bool (decide (x ≠ y))) s) :
    wpAny (model prog w) A (compareOp .NotEq (.ref a) (.ref b)) Q E s := by
  refine ne_dataH (hR.reads hs F X N) (hR₂.reads hs₂ F X N) rfl rfl hu ?_
  rw [eqv_pair, ← decide_not]
  exact h
end
end Mine

namespace Mine
open PySem.Calls PySem.Spec
theorem gcd_turn {a b a₀ b₀ : Int} (h1 : 0 ≤ a) (h2 : 0 ≤ b) (h3 : Int.gcd a b = Int.gcd a₀ b₀) (_ : b ≠ 0) : 0 ≤ b ∧ 0 ≤ a.fmod b ∧ Int.gcd b (a.fmod b) = Int.gcd a₀ b₀ := by
  refine ⟨h2, Int.fmod_nonneg h1 h2, ?_⟩
  have h : a % b = a + b * (-(a / b)) := by rw [Int.emod_def, Int.mul_neg]; lia
  rw [← h3, Int.fmod_eq_emod_of_nonneg _ h2, Int.gcd_comm b, h, Int.gcd_add_mul_left_left]
theorem gcd_start {x y : Int} : 0 ≤ (if x < 0 then -x else x) ∧ 0 ≤ (if y < 0 then -y else y) ∧ Int.gcd (if x < 0 then -x else x) (if y < 0 then -y else y) = Int.gcd (if x < 0 then -x else x) (if y < 0 then -y else y) := by
  refine ⟨?_, ?_, rfl⟩ <;> split <;> lia
theorem gcd_less {a b : Int} (h0 : 0 ≤ b) (hb : b ≠ 0) : (a.fmod b).toNat < b.toNat := by
  have := Int.fmod_lt_of_pos a (show 0 < b by lia)
  lia
theorem gcd_end {a b x y : Int} (h1 : 0 ≤ a) (h3 : Int.gcd a b = Int.gcd (if x < 0 then -x else x) (if y < 0 then -y else y)) (hb : b = 0) : a = Int.gcd x y := by
  have e1 : Int.gcd (if x < 0 then -x else x) (if y < 0 then -y else y) = Int.gcd x y := by
    split <;> split <;> simp
  rw [hb, Int.gcd_zero_right, e1] at h3
  lia
section
variable {w : World} {mean : ExcName → Option Value} {mg mb : Str → Option Value} {dp un : Nat} {gd : Option (List Code)} {cn : Str} {cs : Scope} {a : Addr} {ccd : Value} {cl : List (Str × Addr)} {outer : List Env} {A₀ : Around} {base h₀ : Heap} {L : Addr} {m : Str → Option Value} {news : List (Addr × Obj)} {s : Shared} {Q E : Value → Shared → Prop}

set_option maxHeartbeats 4000000 in
theorem gcd_use {x y : Int} {t u : Tok} (B : Below A₀ base outer h₀) (F : Fr h₀ L s.heap m) (X : (hd.heap_39 w.params).In h₀) (N : News h₀ L s.heap news) (T : Top hd.view_39 (looseW hd.view_39 []) mean mg mb h₀) (hk : cs.kind = .function)
    (hdp : dp + 1 < recursionLimit) (hun : un + 8 + 64 < cLine)
    (hret : ∀ r tl h' tk', Fr h₀ L h' m → News h₀ L h' (news ++ tl) → Apart news tl → (∃ t, r = .int (Int.gcd x y) t) → Q r { s with heap := h', toks := tk' }) :
    wpAny (model PySem.Challenge.rw_tk0030_01.row.prog w) (ktrTop dp un gd cn cs L a ccd cl outer) (call (.ref 41) [.int x t, .int y u]) Q E s := by
  k_with_none
  w_top off
  k_with "L:ktn_open" => ((case kA => exact rfl); (case kF => exact rfl); (case kK => assumption); (case k1 => k_asm); (case k2 => k_asm); (case k3 => k_asm); (case k4 => k_asm); (case k5 => k_asm); (case k6 => k_is); (case k7 => k_is); (case k8 => ktr_room); (case k9 => exact BindsTo.of_eq rfl); (case c5 => decide); (case kB => exact locs rfl); (case c2 => exact rfl); (case c3 => exact rfl); (case c4 => exact rfl); k_whole; intro g' L' h' tk' hg' F' N' B' X' T')
  k_with "L:RetOf" => (k_dflt (refine' retOf_mk ?rF ?rN ?_; (case rF => k_asm); (case rN => k_asm)); (try dsimp only))
  revert X; k_fill; intro X
  k_dflt (refine' enterP (fun tl r => ∃ t, r = .int (Int.gcd x y) t) ?k1 ?k2 ?k3 ?k4 ?k5 ?kA ?kF ?kK ?k6 ?k7 ?k8 ?k9 ?kB hret ?_ ?c2 ?c3 ?c4 ?c5; ktn_open)
  clear hret; (try dsimp only); (try k_fold)
  k_with "exec While Compare cons nil" => k_while_given ["a!","b!"] (fun a₀ b₀ script a b => 0 ≤ a ∧ 0 ≤ b ∧ Int.gcd a b = Int.gcd a₀ b₀) (fun a₀ b₀ script a b => b.toNat) "a" "b"
  k_with "state" => first | exact gcd_turn (by assumption) (by assumption) (by assumption) (by assumption) | exact gcd_start
  k_with "measure" => exact gcd_less (by assumption) (by assumption)
  k_steps
  all_goals (first | exact ⟨_, congrArg (fun k => Value.int k _) (gcd_end (by assumption) (by assumption) (by assumption))⟩ | trace_state)
end
end Mine

namespace Mine
open PySem.Calls PySem.Spec
theorem gcd_pos {x y : Int} (hy : 0 < y) : (0 : Int) < Int.gcd x y := by
  have : 0 < Int.gcd x y := Int.gcd_pos_of_ne_zero_right x (by omega)
  omega
theorem gcd_le {x y : Int} (hy : 0 < y) : (Int.gcd x y : Int) ≤ y := Int.gcd_le_right x hy
section
variable {w : World} {mean : ExcName → Option Value} {mg mb : Str → Option Value} {dp un : Nat} {gd : Option (List Code)} {cn : Str} {cs : Scope} {a : Addr} {ccd : Value} {cl : List (Str × Addr)} {outer : List Env} {A₀ : Around} {base h₀ : Heap} {L : Addr} {m : Str → Option Value} {news : List (Addr × Obj)} {s : Shared} {Q E : Value → Shared → Prop}
set_option maxHeartbeats 4000000 in
theorem rat_use {x y : Int} {t u : Tok} (hy : 0 < y) (hy2 : y < 1073741824) (B : Below A₀ base outer h₀) (F : Fr h₀ L s.heap m) (X : (hd.heap_39 w.params).In h₀) (N : News h₀ L s.heap news) (T : Top hd.view_39 (looseW hd.view_39 []) mean mg mb h₀) (hk : cs.kind = .function)
    (hdp : dp + 2 < recursionLimit) (hun : un + 16 + 64 < cLine)
    (hret : ∀ r tl h' tk', Fr h₀ L h' m → News h₀ L h' (news ++ tl) → Apart news tl → RatOut tl r (red (x, y)) → Q r { s with heap := h', toks := tk' }) :
    wpAny (model PySem.Challenge.rw_tk0030_01.row.prog w) (ktrTop dp un gd cn cs L a ccd cl outer) (call (.ref 57) [.int x t, .int y u]) Q E s := by
  k_with_none
  w_top off
  k_with "L:ktn_open" => ((case kA => exact rfl); (case kF => exact rfl); (case kK => first | exact rfl | assumption); (case k1 => k_asm); (case k2 => k_asm); (case k3 => k_asm); (case k4 => k_asm); (case k5 => k_asm); (case k6 => k_is); (case k7 => k_is); (case k8 => ktr_room); (case k9 => exact BindsTo.of_eq rfl); (case c5 => decide); (case kB => exact locs rfl); (case c2 => exact rfl); (case c3 => exact rfl); (case c4 => exact rfl); k_whole)
  k_with "L:exec For Name Call cons nil" => (k_here; (rename Fr _ _ _ _ => lF'); (with_unfolding_all refine' For_invVF lF' ?k1 ?k2 ?_; (case k1 => exact rfl); (case k2 => exact rfl); k_whole))
  k_with "L:pyIter ref" => (k_here; k_extra "pyIter ref")
  k_with "L:RetOf" => (k_dflt (refine' retOf_mk ?rF ?rN ?_; (case rF => k_asm); (case rN => k_asm)); (try dsimp only))
  k_with "L:subscriptTail" => (k_here; (first | ((with_reducible show wpAny _ _ (subscriptTail _ _ (Value.ref _) (Value.int 0 _)) _ _ _); k_dflt (refine' rat_item0 ?hR ?hs ?F ?X ?N ?_ ?he; (case hR => assumption); (case F => k_asm); (case X => k_asm); (case N => k_asm); (case hs => kqd_sub); (case he => with_unfolding_all rfl))) | ((with_reducible show wpAny _ _ (subscriptTail _ _ (Value.ref _) (Value.int 1 _)) _ _ _); k_dflt (refine' rat_item1 ?hR ?hs ?F ?X ?N ?_ ?he; (case hR => assumption); (case F => k_asm); (case X => k_asm); (case N => k_asm); (case hs => kqd_sub); (case he => with_unfolding_all rfl)))); intro t9; (try dsimp only))
  k_with "L:call ref" => (k_here; (with_reducible show wpAny _ _ (call (Value.ref 41) _) _ _ _); k_dflt (refine' gcd_use  ?k1 ?k2 ?k3 ?k4 ?k5 ?kK ?kd ?ku ?_; (case k1 => k_asm); (case k2 => k_asm); (case k3 => k_asm); (case k4 => k_asm); (case k5 => k_asm); (case kK => first | exact rfl | assumption);  (case kd => ktr_room); (case ku => ktr_units); k_whole); intro r9 tl9 h9 tk9 F9 N9 hA9 hO9; (obtain ⟨t9, e9⟩ := hO9; subst e9); (try dsimp only); (try k_fold))
  revert X; k_fill; intro X
  k_dflt (refine' enterP (fun tl r => RatOut tl r (red (x, y))) ?k1 ?k2 ?k3 ?k4 ?k5 ?kA ?kF ?kK ?k6 ?k7 ?k8 ?k9 ?kB hret ?_ ?c2 ?c3 ?c4 ?c5; ktn_open)
  intro g' L' h' tk' hg' F' N' B' X' T'
  clear hret
  have hg1 := gcd_pos (x := x) hy
  have hg2 := gcd_le (x := x) hy
  (try dsimp only); (try k_fold)
  k_steps
  all_goals (first | (exfalso; omega) | (intro g led hs; exact RatAt.made (hs _ (by k_mem))) | trace_state)
set_option maxHeartbeats 4000000 in
theorem rmul_use {pa qa : Addr} {p q : Int × Int} {n₁ n₂ : List (Addr × Obj)} (hp : RatAt h₀ n₁ (.ref pa) p) (hps : ∀ z ∈ n₁, z ∈ news) (hq : RatAt h₀ n₂ (.ref qa) q) (hqs : ∀ z ∈ n₂, z ∈ news) (b0 : 0 < p.2) (b1 : 0 < q.2) (b2 : p.1 < 2^62) (b3 : -2^62 < p.1) (b4 : p.2 < 1073741824) (b5 : p.2 * q.2 < 1073741824) (b6 : 0 < p.2 * q.2) (B : Below A₀ base outer h₀) (F : Fr h₀ L s.heap m) (X : (hd.heap_39 w.params).In h₀) (N : News h₀ L s.heap news) (T : Top hd.view_39 (looseW hd.view_39 []) mean mg mb h₀) (hk : cs.kind = .function)
    (hdp : dp + 3 < recursionLimit) (hun : un + 24 + 64 < cLine)
    (hret : ∀ r tl h' tk', Fr h₀ L h' m → News h₀ L h' (news ++ tl) → Apart news tl → RatOut tl r (red (p.1 * q.1, p.2 * q.2)) → Q r { s with heap := h', toks := tk' }) :
    wpAny (model PySem.Challenge.rw_tk0030_01.row.prog w) (ktrTop dp un gd cn cs L a ccd cl outer) (call (.ref 71) [.ref pa, .ref qa]) Q E s := by
  k_with_none
  w_top off
  k_with "L:ktn_open" => ((case kA => exact rfl); (case kF => exact rfl); (case kK => first | exact rfl | assumption); (case k1 => k_asm); (case k2 => k_asm); (case k3 => k_asm); (case k4 => k_asm); (case k5 => k_asm); (case k6 => k_is); (case k7 => k_is); (case k8 => ktr_room); (case k9 => exact BindsTo.of_eq rfl); (case c5 => decide); (case kB => exact locs rfl); (case c2 => exact rfl); (case c3 => exact rfl); (case c4 => exact rfl); k_whole)
  k_with "L:exec For Name Call cons nil" => (k_here; (rename Fr _ _ _ _ => lF'); (with_unfolding_all refine' For_invVF lF' ?k1 ?k2 ?_; (case k1 => exact rfl); (case k2 => exact rfl); k_whole))
  k_with "L:pyIter ref" => (k_here; k_extra "pyIter ref")
  k_with "L:RetOf" => (k_dflt (refine' retOf_mk ?rF ?rN ?_; (case rF => k_asm); (case rN => k_asm)); (try dsimp only))
  k_with "L:subscriptTail" => (k_here; (first | ((with_reducible show wpAny _ _ (subscriptTail _ _ (Value.ref _) (Value.int 0 _)) _ _ _); k_dflt (refine' rat_item0 ?hR ?hs ?F ?X ?N ?_ ?he; (case hR => assumption); (case F => k_asm); (case X => k_asm); (case N => k_asm); (case hs => kqd_sub); (case he => with_unfolding_all rfl))) | ((with_reducible show wpAny _ _ (subscriptTail _ _ (Value.ref _) (Value.int 1 _)) _ _ _); k_dflt (refine' rat_item1 ?hR ?hs ?F ?X ?N ?_ ?he; (case hR => assumption); (case F => k_asm); (case X => k_asm); (case N => k_asm); (case hs => kqd_sub); (case he => with_unfolding_all rfl)))); intro t9; (try dsimp only))
  k_with "L:call ref" => (k_here; (with_reducible show wpAny _ _ (call (Value.ref 41) _) _ _ _); k_dflt (refine' gcd_use  ?k1 ?k2 ?k3 ?k4 ?k5 ?kK ?kd ?ku ?_; (case k1 => k_asm); (case k2 => k_asm); (case k3 => k_asm); (case k4 => k_asm); (case k5 => k_asm); (case kK => first | exact rfl | assumption);  (case kd => ktr_room); (case ku => ktr_units); k_whole); intro r9 tl9 h9 tk9 F9 N9 hA9 hO9; (obtain ⟨t9, e9⟩ := hO9; subst e9); (try dsimp only); (try k_fold))
  k_with "L:call ref" => (k_here; (with_reducible show wpAny _ _ (call (Value.ref 57) _) _ _ _); k_dflt (refine' rat_use ?p0 ?p1 ?k1 ?k2 ?k3 ?k4 ?k5 ?kK ?kd ?ku ?_; (case k1 => k_asm); (case k2 => k_asm); (case k3 => k_asm); (case k4 => k_asm); (case k5 => k_asm); (case kK => first | exact rfl | assumption); (case p0 => omega); (case p1 => omega); (case kd => ktr_room); (case ku => ktr_units); k_whole); intro r9 tl9 h9 tk9 F9 N9 hA9 hO9; skip; (try dsimp only); (try k_fold))
  revert X; k_fill; intro X
  k_dflt (refine' enterP (fun tl r => RatOut tl r (red (p.1 * q.1, p.2 * q.2))) ?k1 ?k2 ?k3 ?k4 ?k5 ?kA ?kF ?kK ?k6 ?k7 ?k8 ?k9 ?kB hret ?_ ?c2 ?c3 ?c4 ?c5; ktn_open)
  intro g' L' h' tk' hg' F' N' B' X' T'
  clear hret
  have hp' : RatAt g' [] (.ref pa) p := (hp.mono hps).to F N hg'
  have hq' : RatAt g' [] (.ref qa) q := (hq.mono hqs).to F N hg'
  clear hp hps hq hqs
  (try dsimp only); (try k_fold)
  k_steps
  all_goals (first | (exfalso; omega) | assumption | trace_state)
set_option maxHeartbeats 4000000 in
theorem radd_use {pa qa : Addr} {p q : Int × Int} {n₁ n₂ : List (Addr × Obj)} (hp : RatAt h₀ n₁ (.ref pa) p) (hps : ∀ z ∈ n₁, z ∈ news) (hq : RatAt h₀ n₂ (.ref qa) q) (hqs : ∀ z ∈ n₂, z ∈ news) (b0 : 0 < p.2) (b1 : 0 < q.2) (b2 : p.2 < 1073741824) (b3 : q.2 < 1073741824) (b5 : p.2 * q.2 < 1073741824) (b6 : 0 < p.2 * q.2) (B : Below A₀ base outer h₀) (F : Fr h₀ L s.heap m) (X : (hd.heap_39 w.params).In h₀) (N : News h₀ L s.heap news) (T : Top hd.view_39 (looseW hd.view_39 []) mean mg mb h₀) (hk : cs.kind = .function)
    (hdp : dp + 3 < recursionLimit) (hun : un + 24 + 64 < cLine)
    (hret : ∀ r tl h' tk', Fr h₀ L h' m → News h₀ L h' (news ++ tl) → Apart news tl → RatOut tl r (red (p.1 * q.2 + q.1 * p.2, p.2 * q.2)) → Q r { s with heap := h', toks := tk' }) :
    wpAny (model PySem.Challenge.rw_tk0030_01.row.prog w) (ktrTop dp un gd cn cs L a ccd cl outer) (call (.ref 64) [.ref pa, .ref qa]) Q E s := by
  k_with_none
  w_top off
  k_with "L:ktn_open" => ((case kA => exact rfl); (case kF => exact rfl); (case kK => first | exact rfl | assumption); (case k1 => k_asm); (case k2 => k_asm); (case k3 => k_asm); (case k4 => k_asm); (case k5 => k_asm); (case k6 => k_is); (case k7 => k_is); (case k8 => ktr_room); (case k9 => exact BindsTo.of_eq rfl); (case c5 => decide); (case kB => exact locs rfl); (case c2 => exact rfl); (case c3 => exact rfl); (case c4 => exact rfl); k_whole)
  k_with "L:exec For Name Call cons nil" => (k_here; (rename Fr _ _ _ _ => lF'); (with_unfolding_all refine' For_invVF lF' ?k1 ?k2 ?_; (case k1 => exact rfl); (case k2 => exact rfl); k_whole))
  k_with "L:pyIter ref" => (k_here; k_extra "pyIter ref")
  k_with "L:RetOf" => (k_dflt (refine' retOf_mk ?rF ?rN ?_; (case rF => k_asm); (case rN => k_asm)); (try dsimp only))
  k_with "L:subscriptTail" => (k_here; (first | ((with_reducible show wpAny _ _ (subscriptTail _ _ (Value.ref _) (Value.int 0 _)) _ _ _); k_dflt (refine' rat_item0 ?hR ?hs ?F ?X ?N ?_ ?he; (case hR => assumption); (case F => k_asm); (case X => k_asm); (case N => k_asm); (case hs => kqd_sub); (case he => with_unfolding_all rfl))) | ((with_reducible show wpAny _ _ (subscriptTail _ _ (Value.ref _) (Value.int 1 _)) _ _ _); k_dflt (refine' rat_item1 ?hR ?hs ?F ?X ?N ?_ ?he; (case hR => assumption); (case F => k_asm); (case X => k_asm); (case N => k_asm); (case hs => kqd_sub); (case he => with_unfolding_all rfl)))); intro t9; (try dsimp only))
  k_with "L:call ref" => (k_here; (with_reducible show wpAny _ _ (call (Value.ref 41) _) _ _ _); k_dflt (refine' gcd_use  ?k1 ?k2 ?k3 ?k4 ?k5 ?kK ?kd ?ku ?_; (case k1 => k_asm); (case k2 => k_asm); (case k3 => k_asm); (case k4 => k_asm); (case k5 => k_asm); (case kK => first | exact rfl | assumption);  (case kd => ktr_room); (case ku => ktr_units); k_whole); intro r9 tl9 h9 tk9 F9 N9 hA9 hO9; (obtain ⟨t9, e9⟩ := hO9; subst e9); (try dsimp only); (try k_fold))
  k_with "L:call ref" => (k_here; (with_reducible show wpAny _ _ (call (Value.ref 57) _) _ _ _); k_dflt (refine' rat_use ?p0 ?p1 ?k1 ?k2 ?k3 ?k4 ?k5 ?kK ?kd ?ku ?_; (case k1 => k_asm); (case k2 => k_asm); (case k3 => k_asm); (case k4 => k_asm); (case k5 => k_asm); (case kK => first | exact rfl | assumption); (case p0 => omega); (case p1 => omega); (case kd => ktr_room); (case ku => ktr_units); k_whole); intro r9 tl9 h9 tk9 F9 N9 hA9 hO9; skip; (try dsimp only); (try k_fold))
  revert X; k_fill; intro X
  k_dflt (refine' enterP (fun tl r => RatOut tl r (red (p.1 * q.2 + q.1 * p.2, p.2 * q.2))) ?k1 ?k2 ?k3 ?k4 ?k5 ?kA ?kF ?kK ?k6 ?k7 ?k8 ?k9 ?kB hret ?_ ?c2 ?c3 ?c4 ?c5; ktn_open)
  intro g' L' h' tk' hg' F' N' B' X' T'
  clear hret
  have hp' : RatAt g' [] (.ref pa) p := (hp.mono hps).to F N hg'
  have hq' : RatAt g' [] (.ref qa) q := (hq.mono hqs).to F N hg'
  clear hp hps hq hqs
  (try dsimp only); (try k_fold)
  k_steps
  all_goals (first | (exfalso; omega) | assumption | trace_state)
set_option maxHeartbeats 4000000 in
theorem rdiv_use {pa qa : Addr} {p q : Int × Int} {n₁ n₂ : List (Addr × Obj)} (hp : RatAt h₀ n₁ (.ref pa) p) (hps : ∀ z ∈ n₁, z ∈ news) (hq : RatAt h₀ n₂ (.ref qa) q) (hqs : ∀ z ∈ n₂, z ∈ news) (b1 : 0 < q.1) (b2 : p.1 < 2^62) (b3 : -2^62 < p.1) (b0 : 0 < p.2) (b4 : p.2 < 1073741824) (b5 : p.2 * q.1 < 1073741824) (b6 : 0 < p.2 * q.1) (B : Below A₀ base outer h₀) (F : Fr h₀ L s.heap m) (X : (hd.heap_39 w.params).In h₀) (N : News h₀ L s.heap news) (T : Top hd.view_39 (looseW hd.view_39 []) mean mg mb h₀) (hk : cs.kind = .function)
    (hdp : dp + 3 < recursionLimit) (hun : un + 24 + 64 < cLine)
    (hret : ∀ r tl h' tk', Fr h₀ L h' m → News h₀ L h' (news ++ tl) → Apart news tl → RatOut tl r (red (p.1 * q.2, p.2 * q.1)) → Q r { s with heap := h', toks := tk' }) :
    wpAny (model PySem.Challenge.rw_tk0030_01.row.prog w) (ktrTop dp un gd cn cs L a ccd cl outer) (call (.ref 78) [.ref pa, .ref qa]) Q E s := by
  k_with_none
  w_top off
  k_with "L:ktn_open" => ((case kA => exact rfl); (case kF => exact rfl); (case kK => first | exact rfl | assumption); (case k1 => k_asm); (case k2 => k_asm); (case k3 => k_asm); (case k4 => k_asm); (case k5 => k_asm); (case k6 => k_is); (case k7 => k_is); (case k8 => ktr_room); (case k9 => exact BindsTo.of_eq rfl); (case c5 => decide); (case kB => exact locs rfl); (case c2 => exact rfl); (case c3 => exact rfl); (case c4 => exact rfl); k_whole)
  k_with "L:exec For Name Call cons nil" => (k_here; (rename Fr _ _ _ _ => lF'); (with_unfolding_all refine' For_invVF lF' ?k1 ?k2 ?_; (case k1 => exact rfl); (case k2 => exact rfl); k_whole))
  k_with "L:pyIter ref" => (k_here; k_extra "pyIter ref")
  k_with "L:RetOf" => (k_dflt (refine' retOf_mk ?rF ?rN ?_; (case rF => k_asm); (case rN => k_asm)); (try dsimp only))
  k_with "L:subscriptTail" => (k_here; (first | ((with_reducible show wpAny _ _ (subscriptTail _ _ (Value.ref _) (Value.int 0 _)) _ _ _); k_dflt (refine' rat_item0 ?hR ?hs ?F ?X ?N ?_ ?he; (case hR => assumption); (case F => k_asm); (case X => k_asm); (case N => k_asm); (case hs => kqd_sub); (case he => with_unfolding_all rfl))) | ((with_reducible show wpAny _ _ (subscriptTail _ _ (Value.ref _) (Value.int 1 _)) _ _ _); k_dflt (refine' rat_item1 ?hR ?hs ?F ?X ?N ?_ ?he; (case hR => assumption); (case F => k_asm); (case X => k_asm); (case N => k_asm); (case hs => kqd_sub); (case he => with_unfolding_all rfl)))); intro t9; (try dsimp only))
  k_with "L:call ref" => (k_here; (with_reducible show wpAny _ _ (call (Value.ref 41) _) _ _ _); k_dflt (refine' gcd_use  ?k1 ?k2 ?k3 ?k4 ?k5 ?kK ?kd ?ku ?_; (case k1 => k_asm); (case k2 => k_asm); (case k3 => k_asm); (case k4 => k_asm); (case k5 => k_asm); (case kK => first | exact rfl | assumption);  (case kd => ktr_room); (case ku => ktr_units); k_whole); intro r9 tl9 h9 tk9 F9 N9 hA9 hO9; (obtain ⟨t9, e9⟩ := hO9; subst e9); (try dsimp only); (try k_fold))
  k_with "L:call ref" => (k_here; (with_reducible show wpAny _ _ (call (Value.ref 57) _) _ _ _); k_dflt (refine' rat_use ?p0 ?p1 ?k1 ?k2 ?k3 ?k4 ?k5 ?kK ?kd ?ku ?_; (case k1 => k_asm); (case k2 => k_asm); (case k3 => k_asm); (case k4 => k_asm); (case k5 => k_asm); (case kK => first | exact rfl | assumption); (case p0 => omega); (case p1 => omega); (case kd => ktr_room); (case ku => ktr_units); k_whole); intro r9 tl9 h9 tk9 F9 N9 hA9 hO9; skip; (try dsimp only); (try k_fold))
  revert X; k_fill; intro X
  k_dflt (refine' enterP (fun tl r => RatOut tl r (red (p.1 * q.2, p.2 * q.1))) ?k1 ?k2 ?k3 ?k4 ?k5 ?kA ?kF ?kK ?k6 ?k7 ?k8 ?k9 ?kB hret ?_ ?c2 ?c3 ?c4 ?c5; ktn_open)
  intro g' L' h' tk' hg' F' N' B' X' T'
  clear hret
  have hp' : RatAt g' [] (.ref pa) p := (hp.mono hps).to F N hg'
  have hq' : RatAt g' [] (.ref qa) q := (hq.mono hqs).to F N hg'
  clear hp hps hq hqs
  (try dsimp only); (try k_fold)
  k_steps
  all_goals (first | (exfalso; omega) | assumption | trace_state)
end
end Mine

namespace Mine
open PySem.Calls PySem.Spec
theorem not_vast {x y : Int} (b1 : y < 2^62) (b2 : x < 2^62) (b3 : -2^62 < x) : ¬ ((2 : Int) ^ Int.toNat 64 ≤ if y > (if x < 0 then -x else x) then y else if x < 0 then -x else x) := by
  have e : (2 : Int) ^ Int.toNat 64 = 18446744073709551616 := by decide
  rw [e]
  split <;> (try split) <;> lia
section
variable {w : World} {mean : ExcName → Option Value} {mg mb : Str → Option Value} {dp un : Nat} {gd : Option (List Code)} {cn : Str} {cs : Scope} {a : Addr} {ccd : Value} {cl : List (Str × Addr)} {outer : List Env} {A₀ : Around} {base h₀ : Heap} {L : Addr} {m : Str → Option Value} {news : List (Addr × Obj)} {s : Shared} {Q E : Value → Shared → Prop}
set_option maxHeartbeats 4000000 in
theorem rcompare_use {pa qa : Addr} {p q : Int × Int} {n₁ n₂ : List (Addr × Obj)} (hp : RatAt h₀ n₁ (.ref pa) p) (hps : ∀ z ∈ n₁, z ∈ news) (hq : RatAt h₀ n₂ (.ref qa) q) (hqs : ∀ z ∈ n₂, z ∈ news) (b0 : p.1 = 0) (b1 : q.1 = 0) (B : Below A₀ base outer h₀) (F : Fr h₀ L s.heap m) (X : (hd.heap_39 w.params).In h₀) (N : News h₀ L s.heap news) (T : Top hd.view_39 (looseW hd.view_39 []) mean mg mb h₀) (hk : cs.kind = .function)
    (hdp : dp + 2 < recursionLimit) (hun : un + 16 + 64 < cLine)
    (hret : ∀ r tl h' tk', Fr h₀ L h' m → News h₀ L h' (news ++ tl) → Apart news tl → (∃ t, r = .int 0 t) → Q r { s with heap := h', toks := tk' }) :
    wpAny (model PySem.Challenge.rw_tk0030_01.row.prog w) (ktrTop dp un gd cn cs L a ccd cl outer) (call (.ref 92) [.ref pa, .ref qa]) Q E s := by
  k_with_none
  w_top off
  k_with "L:ktn_open" => ((case kA => exact rfl); (case kF => exact rfl); (case kK => first | exact rfl | assumption); (case k1 => k_asm); (case k2 => k_asm); (case k3 => k_asm); (case k4 => k_asm); (case k5 => k_asm); (case k6 => k_is); (case k7 => k_is); (case k8 => ktr_room); (case k9 => exact BindsTo.of_eq rfl); (case c5 => decide); (case kB => exact locs rfl); (case c2 => exact rfl); (case c3 => exact rfl); (case c4 => exact rfl); k_whole)
  k_with "L:exec For Name Call cons nil" => (k_here; (rename Fr _ _ _ _ => lF'); (with_unfolding_all refine' For_invVF lF' ?k1 ?k2 ?_; (case k1 => exact rfl); (case k2 => exact rfl); k_whole))
  k_with "L:pyIter ref" => (k_here; k_extra "pyIter ref")
  k_with "L:RetOf" => (k_dflt (refine' retOf_mk ?rF ?rN ?_; (case rF => k_asm); (case rN => k_asm)); (try dsimp only))
  k_with "L:subscriptTail" => (k_here; (first | ((with_reducible show wpAny _ _ (subscriptTail _ _ (Value.ref _) (Value.int 0 _)) _ _ _); k_dflt (refine' rat_item0 ?hR ?hs ?F ?X ?N ?_ ?he; (case hR => assumption); (case F => k_asm); (case X => k_asm); (case N => k_asm); (case hs => kqd_sub); (case he => with_unfolding_all rfl))) | ((with_reducible show wpAny _ _ (subscriptTail _ _ (Value.ref _) (Value.int 1 _)) _ _ _); k_dflt (refine' rat_item1 ?hR ?hs ?F ?X ?N ?_ ?he; (case hR => assumption); (case F => k_asm); (case X => k_asm); (case N => k_asm); (case hs => kqd_sub); (case he => with_unfolding_all rfl)))); intro t9; (try dsimp only))
  k_with "L:subscriptTail" => (k_here; (with_reducible show wpAny _ _ (subscriptTail _ _ (Value.ref _) (Value.int _ _)) _ _ _); k_dflt (refine' ser_item ?hR ?hs ?F ?N ?h0 ?hk ?hl ?_ ?he; (case hR => assumption); (case F => k_asm); (case N => k_asm); (case hs => kqd_sub); (case h0 => omega); (case hk => omega); (case hl => omega); (case he => with_unfolding_all rfl)); intro b9 hb9; (try dsimp only))
  k_with "L:call builtin:len" => (k_here; (with_reducible show wpAny _ _ (call (Value.builtin "len") [Value.ref _]) _ _ _); k_dflt (refine' ser_len ?hR ?hs ?F ?N ?hl ?_; (case hR => assumption); (case F => k_asm); (case N => k_asm); (case hs => kqd_sub); (case hl => omega)); (try dsimp only))
  k_with "L:compareOp NotEq ref ref" => (k_here; (with_reducible show wpAny _ _ (compareOp CmpOp.NotEq (Value.ref _) (Value.ref _)) _ _ _); k_dflt (refine' rat_ne ?hR ?hs ?hR2 ?hs2 ?F ?X ?N ?hu ?_; (case hR => first | assumption | exact RatAt.zero (led := []) | exact RatAt.one (led := [])); (case hR2 => first | assumption | exact RatAt.zero (led := []) | exact RatAt.one (led := [])); (case F => k_asm); (case X => k_asm); (case N => k_asm); (case hs => kqd_sub); (case hs2 => kqd_sub); (case hu => ktr_units)); (try dsimp only))
  k_with "L:call ref" => (k_here; (with_reducible show wpAny _ _ (call (Value.ref 41) _) _ _ _); k_dflt (refine' gcd_use  ?k1 ?k2 ?k3 ?k4 ?k5 ?kK ?kd ?ku ?_; (case k1 => k_asm); (case k2 => k_asm); (case k3 => k_asm); (case k4 => k_asm); (case k5 => k_asm); (case kK => first | exact rfl | assumption);  (case kd => ktr_room); (case ku => ktr_units); k_whole); intro r9 tl9 h9 tk9 F9 N9 hA9 hO9; (obtain ⟨t9, e9⟩ := hO9; subst e9); (try dsimp only); (try k_fold))
  k_with "L:call ref" => (k_here; (with_reducible show wpAny _ _ (call (Value.ref 57) _) _ _ _); k_dflt (refine' rat_use ?p0 ?p1 ?k1 ?k2 ?k3 ?k4 ?k5 ?kK ?kd ?ku ?_; (case k1 => k_asm); (case k2 => k_asm); (case k3 => k_asm); (case k4 => k_asm); (case k5 => k_asm); (case kK => first | exact rfl | assumption); (case p0 => omega); (case p1 => omega); (case kd => ktr_room); (case ku => ktr_units); k_whole); intro r9 tl9 h9 tk9 F9 N9 hA9 hO9; skip; (try dsimp only); (try k_fold))
  revert X; k_fill; intro X
  k_dflt (refine' enterP (fun tl r => (∃ t, r = .int 0 t)) ?k1 ?k2 ?k3 ?k4 ?k5 ?kA ?kF ?kK ?k6 ?k7 ?k8 ?k9 ?kB hret ?_ ?c2 ?c3 ?c4 ?c5; ktn_open)
  intro g' L' h' tk' hg' F' N' B' X' T'
  clear hret
  have hp' : RatAt g' [] (.ref pa) p := (hp.mono hps).to F N hg'
  have hq' : RatAt g' [] (.ref qa) q := (hq.mono hqs).to F N hg'
  clear hp hps hq hqs
  (try dsimp only); (try k_fold)
  k_steps
  all_goals (refine ⟨_, congrArg (fun k => Value.int k _) ?_⟩; rw [b0, b1]; simp [b2i])
set_option maxHeartbeats 4000000 in
theorem is_vast_use {pa : Addr} {p : Int × Int} {n₁ : List (Addr × Obj)} (hp : RatAt h₀ n₁ (.ref pa) p) (hps : ∀ z ∈ n₁, z ∈ news) (b1 : p.2 < 2^62) (b2 : p.1 < 2^62) (b3 : -2^62 < p.1) (B : Below A₀ base outer h₀) (F : Fr h₀ L s.heap m) (X : (hd.heap_39 w.params).In h₀) (N : News h₀ L s.heap news) (T : Top hd.view_39 (looseW hd.view_39 []) mean mg mb h₀) (hk : cs.kind = .function)
    (hdp : dp + 2 < recursionLimit) (hun : un + 16 + 64 < cLine)
    (hret : ∀ r tl h' tk', Fr h₀ L h' m → News h₀ L h' (news ++ tl) → Apart news tl → r = .bool false → Q r { s with heap := h', toks := tk' }) :
    wpAny (model PySem.Challenge.rw_tk0030_01.row.prog w) (ktrTop dp un gd cn cs L a ccd cl outer) (call (.ref 85) [.ref pa]) Q E s := by
  k_with_none
  w_top off
  k_with "L:ktn_open" => ((case kA => exact rfl); (case kF => exact rfl); (case kK => first | exact rfl | assumption); (case k1 => k_asm); (case k2 => k_asm); (case k3 => k_asm); (case k4 => k_asm); (case k5 => k_asm); (case k6 => k_is); (case k7 => k_is); (case k8 => ktr_room); (case k9 => exact BindsTo.of_eq rfl); (case c5 => decide); (case kB => exact locs rfl); (case c2 => exact rfl); (case c3 => exact rfl); (case c4 => exact rfl); k_whole)
  k_with "L:exec For Name Call cons nil" => (k_here; (rename Fr _ _ _ _ => lF'); (with_unfolding_all refine' For_invVF lF' ?k1 ?k2 ?_; (case k1 => exact rfl); (case k2 => exact rfl); k_whole))
  k_with "L:pyIter ref" => (k_here; k_extra "pyIter ref")
  k_with "L:RetOf" => (k_dflt (refine' retOf_mk ?rF ?rN ?_; (case rF => k_asm); (case rN => k_asm)); (try dsimp only))
  k_with "L:subscriptTail" => (k_here; (first | ((with_reducible show wpAny _ _ (subscriptTail _ _ (Value.ref _) (Value.int 0 _)) _ _ _); k_dflt (refine' rat_item0 ?hR ?hs ?F ?X ?N ?_ ?he; (case hR => assumption); (case F => k_asm); (case X => k_asm); (case N => k_asm); (case hs => kqd_sub); (case he => with_unfolding_all rfl))) | ((with_reducible show wpAny _ _ (subscriptTail _ _ (Value.ref _) (Value.int 1 _)) _ _ _); k_dflt (refine' rat_item1 ?hR ?hs ?F ?X ?N ?_ ?he; (case hR => assumption); (case F => k_asm); (case X => k_asm); (case N => k_asm); (case hs => kqd_sub); (case he => with_unfolding_all rfl)))); intro t9; (try dsimp only))
  k_with "L:subscriptTail" => (k_here; (with_reducible show wpAny _ _ (subscriptTail _ _ (Value.ref _) (Value.int _ _)) _ _ _); k_dflt (refine' ser_item ?hR ?hs ?F ?N ?h0 ?hk ?hl ?_ ?he; (case hR => assumption); (case F => k_asm); (case N => k_asm); (case hs => kqd_sub); (case h0 => omega); (case hk => omega); (case hl => omega); (case he => with_unfolding_all rfl)); intro b9 hb9; (try dsimp only))
  k_with "L:call builtin:len" => (k_here; (with_reducible show wpAny _ _ (call (Value.builtin "len") [Value.ref _]) _ _ _); k_dflt (refine' ser_len ?hR ?hs ?F ?N ?hl ?_; (case hR => assumption); (case F => k_asm); (case N => k_asm); (case hs => kqd_sub); (case hl => omega)); (try dsimp only))
  k_with "L:compareOp NotEq ref ref" => (k_here; (with_reducible show wpAny _ _ (compareOp CmpOp.NotEq (Value.ref _) (Value.ref _)) _ _ _); k_dflt (refine' rat_ne ?hR ?hs ?hR2 ?hs2 ?F ?X ?N ?hu ?_; (case hR => first | assumption | exact RatAt.zero (led := []) | exact RatAt.one (led := [])); (case hR2 => first | assumption | exact RatAt.zero (led := []) | exact RatAt.one (led := [])); (case F => k_asm); (case X => k_asm); (case N => k_asm); (case hs => kqd_sub); (case hs2 => kqd_sub); (case hu => ktr_units)); (try dsimp only))
  k_with "L:call ref" => (k_here; (with_reducible show wpAny _ _ (call (Value.ref 41) _) _ _ _); k_dflt (refine' gcd_use  ?k1 ?k2 ?k3 ?k4 ?k5 ?kK ?kd ?ku ?_; (case k1 => k_asm); (case k2 => k_asm); (case k3 => k_asm); (case k4 => k_asm); (case k5 => k_asm); (case kK => first | exact rfl | assumption);  (case kd => ktr_room); (case ku => ktr_units); k_whole); intro r9 tl9 h9 tk9 F9 N9 hA9 hO9; (obtain ⟨t9, e9⟩ := hO9; subst e9); (try dsimp only); (try k_fold))
  k_with "L:call ref" => (k_here; (with_reducible show wpAny _ _ (call (Value.ref 57) _) _ _ _); k_dflt (refine' rat_use ?p0 ?p1 ?k1 ?k2 ?k3 ?k4 ?k5 ?kK ?kd ?ku ?_; (case k1 => k_asm); (case k2 => k_asm); (case k3 => k_asm); (case k4 => k_asm); (case k5 => k_asm); (case kK => first | exact rfl | assumption); (case p0 => omega); (case p1 => omega); (case kd => ktr_room); (case ku => ktr_units); k_whole); intro r9 tl9 h9 tk9 F9 N9 hA9 hO9; skip; (try dsimp only); (try k_fold))
  revert X; k_fill; intro X
  k_dflt (refine' enterP (fun tl r => r = .bool false) ?k1 ?k2 ?k3 ?k4 ?k5 ?kA ?kF ?kK ?k6 ?k7 ?k8 ?k9 ?kB hret ?_ ?c2 ?c3 ?c4 ?c5; ktn_open)
  intro g' L' h' tk' hg' F' N' B' X' T'
  clear hret
  have hp' : RatAt g' [] (.ref pa) p := (hp.mono hps).to F N hg'
  clear hp hps
  (try dsimp only); (try k_fold)
  k_steps
  all_goals (first | exact absurd (by assumption) (not_vast b1 b2 b3) | exact congrArg Value.bool (decide_eq_false (not_vast b1 b2 b3)))
set_option maxHeartbeats 4000000 in
theorem let_use {pa : Addr} {p : Int × Int} {n₁ : List (Addr × Obj)} (hp : RatAt h₀ n₁ (.ref pa) p) (hps : ∀ z ∈ n₁, z ∈ news) (b1 : p.2 < 2^62) (b2 : p.1 < 2^62) (b3 : -2^62 < p.1) (B : Below A₀ base outer h₀) (F : Fr h₀ L s.heap m) (X : (hd.heap_39 w.params).In h₀) (N : News h₀ L s.heap news) (T : Top hd.view_39 (looseW hd.view_39 []) mean mg mb h₀) (hk : cs.kind = .function)
    (hdp : dp + 3 < recursionLimit) (hun : un + 24 + 64 < cLine)
    (hret : ∀ r tl h' tk', Fr h₀ L h' m → News h₀ L h' (news ++ tl) → Apart news tl → r = .ref pa → Q r { s with heap := h', toks := tk' }) :
    wpAny (model PySem.Challenge.rw_tk0030_01.row.prog w) (ktrTop dp un gd cn cs L a ccd cl outer) (call (.ref 106) [.ref pa]) Q E s := by
  k_with_none
  w_top off
  k_with "L:ktn_open" => ((case kA => exact rfl); (case kF => exact rfl); (case kK => first | exact rfl | assumption); (case k1 => k_asm); (case k2 => k_asm); (case k3 => k_asm); (case k4 => k_asm); (case k5 => k_asm); (case k6 => k_is); (case k7 => k_is); (case k8 => ktr_room); (case k9 => exact BindsTo.of_eq rfl); (case c5 => decide); (case kB => exact locs rfl); (case c2 => exact rfl); (case c3 => exact rfl); (case c4 => exact rfl); k_whole)
  k_with "L:exec For Name Call cons nil" => (k_here; (rename Fr _ _ _ _ => lF'); (with_unfolding_all refine' For_invVF lF' ?k1 ?k2 ?_; (case k1 => exact rfl); (case k2 => exact rfl); k_whole))
  k_with "L:pyIter ref" => (k_here; k_extra "pyIter ref")
  k_with "L:RetOf" => (k_dflt (refine' retOf_mk ?rF ?rN ?_; (case rF => k_asm); (case rN => k_asm)); (try dsimp only))
  k_with "L:subscriptTail" => (k_here; (first | ((with_reducible show wpAny _ _ (subscriptTail _ _ (Value.ref _) (Value.int 0 _)) _ _ _); k_dflt (refine' rat_item0 ?hR ?hs ?F ?X ?N ?_ ?he; (case hR => assumption); (case F => k_asm); (case X => k_asm); (case N => k_asm); (case hs => kqd_sub); (case he => with_unfolding_all rfl))) | ((with_reducible show wpAny _ _ (subscriptTail _ _ (Value.ref _) (Value.int 1 _)) _ _ _); k_dflt (refine' rat_item1 ?hR ?hs ?F ?X ?N ?_ ?he; (case hR => assumption); (case F => k_asm); (case X => k_asm); (case N => k_asm); (case hs => kqd_sub); (case he => with_unfolding_all rfl)))); intro t9; (try dsimp only))
  k_with "L:subscriptTail" => (k_here; (with_reducible show wpAny _ _ (subscriptTail _ _ (Value.ref _) (Value.int _ _)) _ _ _); k_dflt (refine' ser_item ?hR ?hs ?F ?N ?h0 ?hk ?hl ?_ ?he; (case hR => assumption); (case F => k_asm); (case N => k_asm); (case hs => kqd_sub); (case h0 => omega); (case hk => omega); (case hl => omega); (case he => with_unfolding_all rfl)); intro b9 hb9; (try dsimp only))
  k_with "L:call builtin:len" => (k_here; (with_reducible show wpAny _ _ (call (Value.builtin "len") [Value.ref _]) _ _ _); k_dflt (refine' ser_len ?hR ?hs ?F ?N ?hl ?_; (case hR => assumption); (case F => k_asm); (case N => k_asm); (case hs => kqd_sub); (case hl => omega)); (try dsimp only))
  k_with "L:compareOp NotEq ref ref" => (k_here; (with_reducible show wpAny _ _ (compareOp CmpOp.NotEq (Value.ref _) (Value.ref _)) _ _ _); k_dflt (refine' rat_ne ?hR ?hs ?hR2 ?hs2 ?F ?X ?N ?hu ?_; (case hR => first | assumption | exact RatAt.zero (led := []) | exact RatAt.one (led := [])); (case hR2 => first | assumption | exact RatAt.zero (led := []) | exact RatAt.one (led := [])); (case F => k_asm); (case X => k_asm); (case N => k_asm); (case hs => kqd_sub); (case hs2 => kqd_sub); (case hu => ktr_units)); (try dsimp only))
  k_with "L:call ref" => (k_here; (with_reducible show wpAny _ _ (call (Value.ref 41) _) _ _ _); k_dflt (refine' gcd_use  ?k1 ?k2 ?k3 ?k4 ?k5 ?kK ?kd ?ku ?_; (case k1 => k_asm); (case k2 => k_asm); (case k3 => k_asm); (case k4 => k_asm); (case k5 => k_asm); (case kK => first | exact rfl | assumption);  (case kd => ktr_room); (case ku => ktr_units); k_whole); intro r9 tl9 h9 tk9 F9 N9 hA9 hO9; (obtain ⟨t9, e9⟩ := hO9; subst e9); (try dsimp only); (try k_fold))
  k_with "L:call ref" => (k_here; (with_reducible show wpAny _ _ (call (Value.ref 57) _) _ _ _); k_dflt (refine' rat_use ?p0 ?p1 ?k1 ?k2 ?k3 ?k4 ?k5 ?kK ?kd ?ku ?_; (case k1 => k_asm); (case k2 => k_asm); (case k3 => k_asm); (case k4 => k_asm); (case k5 => k_asm); (case kK => first | exact rfl | assumption); (case p0 => omega); (case p1 => omega); (case kd => ktr_room); (case ku => ktr_units); k_whole); intro r9 tl9 h9 tk9 F9 N9 hA9 hO9; skip; (try dsimp only); (try k_fold))
  k_with "L:call ref" => (k_here; (with_reducible show wpAny _ _ (call (Value.ref 85) _) _ _ _); k_dflt (refine' is_vast_use ?p0 ?p1 ?p2 ?p3 ?p4 ?k1 ?k2 ?k3 ?k4 ?k5 ?kK ?kd ?ku ?_; (case k1 => k_asm); (case k2 => k_asm); (case k3 => k_asm); (case k4 => k_asm); (case k5 => k_asm); (case kK => first | exact rfl | assumption); (case p0 => assumption); (case p1 => kqd_sub); (case p2 => assumption); (case p3 => assumption); (case p4 => assumption); (case kd => ktr_room); (case ku => ktr_units); k_whole); intro r9 tl9 h9 tk9 F9 N9 hA9 hO9; subst hO9; (try dsimp only); (try k_fold))
  revert X; k_fill; intro X
  k_dflt (refine' enterP (fun tl r => r = .ref pa) ?k1 ?k2 ?k3 ?k4 ?k5 ?kA ?kF ?kK ?k6 ?k7 ?k8 ?k9 ?kB hret ?_ ?c2 ?c3 ?c4 ?c5; ktn_open)
  intro g' L' h' tk' hg' F' N' B' X' T'
  clear hret
  have hp' : RatAt g' [] (.ref pa) p := (hp.mono hps).to F N hg'
  clear hp hps
  (try dsimp only); (try k_fold)
  k_steps
  all_goals (first | exact rfl | (exfalso; simp_all; done) | trace_state)
set_option maxHeartbeats 4000000 in
theorem need_begin_use {pa : Addr} {ps : List (Int × Int)} {n₁ : List (Addr × Obj)} (hp : SerAt h₀ n₁ (.ref pa) ps) (hps : ∀ z ∈ n₁, z ∈ news) (hl : ps.length ≤ 100) (b0 : (red (ps.getD (Int.toNat 0) (0, 1))).1 = 0) (B : Below A₀ base outer h₀) (F : Fr h₀ L s.heap m) (X : (hd.heap_39 w.params).In h₀) (N : News h₀ L s.heap news) (T : Top hd.view_39 (looseW hd.view_39 []) mean mg mb h₀) (hk : cs.kind = .function)
    (hdp : dp + 3 < recursionLimit) (hun : un + 24 + 64 < cLine)
    (hret : ∀ r tl h' tk', Fr h₀ L h' m → News h₀ L h' (news ++ tl) → Apart news tl → r = .none → Q r { s with heap := h', toks := tk' }) :
    wpAny (model PySem.Challenge.rw_tk0030_01.row.prog w) (ktrTop dp un gd cn cs L a ccd cl outer) (call (.ref 145) [.ref pa, .ref 49]) Q E s := by
  k_with_none
  w_top off
  k_with "L:ktn_open" => ((case kA => exact rfl); (case kF => exact rfl); (case kK => first | exact rfl | assumption); (case k1 => k_asm); (case k2 => k_asm); (case k3 => k_asm); (case k4 => k_asm); (case k5 => k_asm); (case k6 => k_is); (case k7 => k_is); (case k8 => ktr_room); (case k9 => exact BindsTo.of_eq rfl); (case c5 => decide); (case kB => exact locs rfl); (case c2 => exact rfl); (case c3 => exact rfl); (case c4 => exact rfl); k_whole)
  k_with "L:exec For Name Call cons nil" => (k_here; (rename Fr _ _ _ _ => lF'); (with_unfolding_all refine' For_invVF lF' ?k1 ?k2 ?_; (case k1 => exact rfl); (case k2 => exact rfl); k_whole))
  k_with "L:pyIter ref" => (k_here; k_extra "pyIter ref")
  k_with "L:RetOf" => (k_dflt (refine' retOf_mk ?rF ?rN ?_; (case rF => k_asm); (case rN => k_asm)); (try dsimp only))
  k_with "L:subscriptTail" => (k_here; (first | ((with_reducible show wpAny _ _ (subscriptTail _ _ (Value.ref _) (Value.int 0 _)) _ _ _); k_dflt (refine' rat_item0 ?hR ?hs ?F ?X ?N ?_ ?he; (case hR => assumption); (case F => k_asm); (case X => k_asm); (case N => k_asm); (case hs => kqd_sub); (case he => with_unfolding_all rfl))) | ((with_reducible show wpAny _ _ (subscriptTail _ _ (Value.ref _) (Value.int 1 _)) _ _ _); k_dflt (refine' rat_item1 ?hR ?hs ?F ?X ?N ?_ ?he; (case hR => assumption); (case F => k_asm); (case X => k_asm); (case N => k_asm); (case hs => kqd_sub); (case he => with_unfolding_all rfl)))); intro t9; (try dsimp only))
  k_with "L:subscriptTail" => (k_here; (with_reducible show wpAny _ _ (subscriptTail _ _ (Value.ref _) (Value.int _ _)) _ _ _); k_dflt (refine' ser_item ?hR ?hs ?F ?N ?h0 ?hk ?hl ?_ ?he; (case hR => assumption); (case F => k_asm); (case N => k_asm); (case hs => kqd_sub); (case h0 => omega); (case hk => omega); (case hl => omega); (case he => with_unfolding_all rfl)); intro b9 hb9; (try dsimp only))
  k_with "L:call builtin:len" => (k_here; (with_reducible show wpAny _ _ (call (Value.builtin "len") [Value.ref _]) _ _ _); k_dflt (refine' ser_len ?hR ?hs ?F ?N ?hl ?_; (case hR => assumption); (case F => k_asm); (case N => k_asm); (case hs => kqd_sub); (case hl => omega)); (try dsimp only))
  k_with "L:compareOp NotEq ref ref" => (k_here; (with_reducible show wpAny _ _ (compareOp CmpOp.NotEq (Value.ref _) (Value.ref _)) _ _ _); k_dflt (refine' rat_ne ?hR ?hs ?hR2 ?hs2 ?F ?X ?N ?hu ?_; (case hR => first | assumption | exact RatAt.zero (led := []) | exact RatAt.one (led := [])); (case hR2 => first | assumption | exact RatAt.zero (led := []) | exact RatAt.one (led := [])); (case F => k_asm); (case X => k_asm); (case N => k_asm); (case hs => kqd_sub); (case hs2 => kqd_sub); (case hu => ktr_units)); (try dsimp only))
  k_with "L:call ref" => (k_here; (with_reducible show wpAny _ _ (call (Value.ref 41) _) _ _ _); k_dflt (refine' gcd_use  ?k1 ?k2 ?k3 ?k4 ?k5 ?kK ?kd ?ku ?_; (case k1 => k_asm); (case k2 => k_asm); (case k3 => k_asm); (case k4 => k_asm); (case k5 => k_asm); (case kK => first | exact rfl | assumption);  (case kd => ktr_room); (case ku => ktr_units); k_whole); intro r9 tl9 h9 tk9 F9 N9 hA9 hO9; (obtain ⟨t9, e9⟩ := hO9; subst e9); (try dsimp only); (try k_fold))
  k_with "L:call ref" => (k_here; (with_reducible show wpAny _ _ (call (Value.ref 57) _) _ _ _); k_dflt (refine' rat_use ?p0 ?p1 ?k1 ?k2 ?k3 ?k4 ?k5 ?kK ?kd ?ku ?_; (case k1 => k_asm); (case k2 => k_asm); (case k3 => k_asm); (case k4 => k_asm); (case k5 => k_asm); (case kK => first | exact rfl | assumption); (case p0 => omega); (case p1 => omega); (case kd => ktr_room); (case ku => ktr_units); k_whole); intro r9 tl9 h9 tk9 F9 N9 hA9 hO9; skip; (try dsimp only); (try k_fold))
  k_with "L:call ref" => (k_here; (with_reducible show wpAny _ _ (call (Value.ref 85) _) _ _ _); k_dflt (refine' is_vast_use ?p0 ?p1 ?p2 ?p3 ?p4 ?k1 ?k2 ?k3 ?k4 ?k5 ?kK ?kd ?ku ?_; (case k1 => k_asm); (case k2 => k_asm); (case k3 => k_asm); (case k4 => k_asm); (case k5 => k_asm); (case kK => first | exact rfl | assumption); (case p0 => assumption); (case p1 => kqd_sub); (case p2 => assumption); (case p3 => assumption); (case p4 => assumption); (case kd => ktr_room); (case ku => ktr_units); k_whole); intro r9 tl9 h9 tk9 F9 N9 hA9 hO9; subst hO9; (try dsimp only); (try k_fold))
  k_with "L:call ref" => (k_here; (with_reducible show wpAny _ _ (call (Value.ref 92) _) _ _ _); k_dflt (refine' rcompare_use ?p0 ?p1 ?p2 ?p3 ?p4 ?p5 ?k1 ?k2 ?k3 ?k4 ?k5 ?kK ?kd ?ku ?_; (case k1 => k_asm); (case k2 => k_asm); (case k3 => k_asm); (case k4 => k_asm); (case k5 => k_asm); (case kK => first | exact rfl | assumption); (case p0 => assumption); (case p1 => kqd_sub); (case p2 => first | assumption | exact RatAt.zero (led := [])); (case p3 => kqd_sub); (case p4 => first | rfl | assumption); (case p5 => first | rfl | assumption); (case kd => ktr_room); (case ku => ktr_units); k_whole); intro r9 tl9 h9 tk9 F9 N9 hA9 hO9; (obtain ⟨t9, e9⟩ := hO9; subst e9); (try dsimp only); (try k_fold))
  revert X; k_fill; intro X
  k_dflt (refine' enterP (fun tl r => r = .none) ?k1 ?k2 ?k3 ?k4 ?k5 ?kA ?kF ?kK ?k6 ?k7 ?k8 ?k9 ?kB hret ?_ ?c2 ?c3 ?c4 ?c5; ktn_open)
  intro g' L' h' tk' hg' F' N' B' X' T'
  clear hret
  have hp' : SerAt g' [] (.ref pa) ps := (hp.mono hps).to F N hg'
  clear hp hps
  (try dsimp only); (try k_fold)
  k_steps
  all_goals (first | exact rfl | (exfalso; simp_all; done) | trace_state)
end
end Mine

namespace Mine
open PySem.Calls PySem.Spec

section
variable {x y z u : Int} {p q : Int × Int}
theorem gcd_dvd_fdiv_left (_hy : 0 < y) : x.fdiv (Int.gcd x y) * (Int.gcd x y : Int) = x := by
  have h := Int.gcd_dvd_left x y
  rw [Int.fdiv_eq_ediv_of_nonneg _ (by lia)]
  exact Int.ediv_mul_cancel h
theorem gcd_dvd_fdiv_right (_hy : 0 < y) : y.fdiv (Int.gcd x y) * (Int.gcd x y : Int) = y := by
  have h := Int.gcd_dvd_right x y
  rw [Int.fdiv_eq_ediv_of_nonneg _ (by lia)]
  exact Int.ediv_mul_cancel h
theorem red_pos (hp : 0 < p.2) : 0 < (red p).2 := by
  have h1 := gcd_pos (x := p.1) hp
  have h2 := gcd_dvd_fdiv_right (x := p.1) hp
  show 0 < p.2.fdiv (Int.gcd p.1 p.2)
  rcases Int.lt_trichotomy (p.2.fdiv (Int.gcd p.1 p.2)) 0 with h | h | h
  · have := Int.mul_neg_of_neg_of_pos h h1; lia
  · rw [h] at h2; lia
  · exact h
theorem red_le (hp : 0 < p.2) : (red p).2 ≤ p.2 := by
  have h1 := gcd_pos (x := p.1) hp
  have h2 := gcd_dvd_fdiv_right (x := p.1) hp
  have h3 := red_pos hp
  show p.2.fdiv (Int.gcd p.1 p.2) ≤ p.2
  have h4 : 0 < p.2.fdiv (Int.gcd p.1 p.2) := h3
  have h5 : p.2.fdiv (Int.gcd p.1 p.2) * 1 ≤ p.2.fdiv (Int.gcd p.1 p.2) * (Int.gcd p.1 p.2 : Int) := Int.mul_le_mul_of_nonneg_left (by lia) (by lia)
  lia
theorem red_top (hp : 0 < p.2) (b : Int) (h1 : -b < p.1) (h2 : p.1 < b) : -b < (red p).1 ∧ (red p).1 < b := by
  have g1 := gcd_pos (x := p.1) hp
  have g2 := gcd_dvd_fdiv_left (x := p.1) hp
  show -b < p.1.fdiv (Int.gcd p.1 p.2) ∧ p.1.fdiv (Int.gcd p.1 p.2) < b
  generalize p.1.fdiv (Int.gcd p.1 p.2) = k at *
  generalize (Int.gcd p.1 p.2 : Int) = g at *
  rcases Int.lt_or_le k 0 with h | h
  · have : k * g ≤ k * 1 := Int.mul_le_mul_of_nonpos_left (by lia) (by lia)
    constructor <;> lia
  · have : k * 1 ≤ k * g := Int.mul_le_mul_of_nonneg_left (by lia) (by lia)
    constructor <;> lia
theorem red_cross (hp : 0 < p.2) : (red p).1 * p.2 = p.1 * (red p).2 := by
  have g2 := gcd_dvd_fdiv_left (x := p.1) hp
  have g3 := gcd_dvd_fdiv_right (x := p.1) hp
  show p.1.fdiv (Int.gcd p.1 p.2) * p.2 = p.1 * p.2.fdiv (Int.gcd p.1 p.2)
  generalize p.1.fdiv (Int.gcd p.1 p.2) = k at *
  generalize p.2.fdiv (Int.gcd p.1 p.2) = l at *
  rw [← g3, ← g2]
  generalize (Int.gcd (k * _) (l * _) : Int) = g at *
  grind
theorem red_of_cross (hp : 0 < p.2) (hq : 0 < q.2) (h : p.1 * q.2 = q.1 * p.2) : red p = red q := by
  obtain ⟨a, b⟩ := p
  obtain ⟨c, d⟩ := q
  simp only at hp hq h
  have e1 : ((Int.gcd a b : Nat) : Int) * d = (Int.gcd c d : Nat) * b := by
    have h1 : Int.gcd (a * d) (b * d) = Int.gcd a b * d.natAbs := Int.gcd_mul_right ..
    have h2 : Int.gcd (c * b) (d * b) = Int.gcd c d * b.natAbs := Int.gcd_mul_right ..
    rw [h, Int.mul_comm b d, h2] at h1
    have h3 : ((Int.gcd c d * b.natAbs : Nat) : Int) = ((Int.gcd a b * d.natAbs : Nat) : Int) := by rw [h1]
    rw [Int.natCast_mul, Int.natCast_mul] at h3
    have h4 : (b.natAbs : Int) = b := by lia
    have h5 : (d.natAbs : Int) = d := by lia
    rw [h4, h5] at h3
    exact h3.symm
  have ga := gcd_pos (x := a) hp
  have gc := gcd_pos (x := c) hq
  have a1 := gcd_dvd_fdiv_left (x := a) hp
  have a2 := gcd_dvd_fdiv_right (x := a) hp
  have c1 := gcd_dvd_fdiv_left (x := c) hq
  have c2 := gcd_dvd_fdiv_right (x := c) hq
  show (a.fdiv (Int.gcd a b), b.fdiv (Int.gcd a b)) = (c.fdiv (Int.gcd c d), d.fdiv (Int.gcd c d))
  generalize a.fdiv (Int.gcd a b) = a' at *
  generalize b.fdiv (Int.gcd a b) = b' at *
  generalize c.fdiv (Int.gcd c d) = c' at *
  generalize d.fdiv (Int.gcd c d) = d' at *
  generalize ((Int.gcd a b : Nat) : Int) = g at *
  generalize ((Int.gcd c d : Nat) : Int) = k at *
  subst a1 a2 c1 c2
  have hb : b' = d' := by
    have : g * k * (b' - d') = 0 := by grind
    rcases Int.mul_eq_zero.mp this with h0 | h0
    · rcases Int.mul_eq_zero.mp h0 with h0 | h0 <;> lia
    · lia
  subst hb
  have hb' : b' ≠ 0 := by intro e; subst e; simp at hp
  have ha : a' = c' := by
    have : g * k * b' * (a' - c') = 0 := by grind
    rcases Int.mul_eq_zero.mp this with h0 | h0
    · rcases Int.mul_eq_zero.mp h0 with h0 | h0
      · rcases Int.mul_eq_zero.mp h0 with h0 | h0 <;> lia
      · exact absurd h0 hb'
    · lia
  rw [ha]
theorem cross_of_red (hp : 0 < p.2) (hq : 0 < q.2) (h : red p = red q) : p.1 * q.2 = q.1 * p.2 := by
  have h1 := red_cross hp
  have h2 := red_cross hq
  have h3 := red_pos hp
  rw [← h] at h2
  generalize (red p).1 = a at *
  generalize (red p).2 = b at *
  have : b * (p.1 * q.2 - q.1 * p.2) = 0 := by grind
  rcases Int.mul_eq_zero.mp this with h0 | h0 <;> lia
theorem red_iff (hp : 0 < p.2) (hq : 0 < q.2) : red p = red q ↔ p.1 * q.2 = q.1 * p.2 := ⟨cross_of_red hp hq, red_of_cross hp hq⟩
theorem red_zero : red (0, 1) = (0, 1) := by decide
theorem red_one : red (1, 1) = (1, 1) := by decide
theorem red_int (x : Int) : red (x, 1) = (x, 1) := by
  show (x.fdiv (Int.gcd x 1), (1 : Int).fdiv (Int.gcd x 1)) = (x, 1)
  rw [Int.gcd_one]
  simp
theorem red_eq_zero (hp : 0 < p.2) : red p = (0, 1) ↔ p.1 = 0 := by
  rw [← red_zero, red_iff hp (by decide)]
  simp
theorem red_mul (hp : 0 < p.2) (hq : 0 < q.2) : red ((red p).1 * (red q).1, (red p).2 * (red q).2) = red (p.1 * q.1, p.2 * q.2) := by
  have h1 := red_cross hp
  have h2 := red_cross hq
  have h3 := red_pos hp
  have h4 := red_pos hq
  refine red_of_cross (Int.mul_pos h3 h4) (Int.mul_pos hp hq) ?_
  simp only
  grind
theorem red_add (hp : 0 < p.2) (hq : 0 < q.2) : red ((red p).1 * (red q).2 + (red q).1 * (red p).2, (red p).2 * (red q).2) = red (p.1 * q.2 + q.1 * p.2, p.2 * q.2) := by
  have h1 := red_cross hp
  have h2 := red_cross hq
  have h3 := red_pos hp
  have h4 := red_pos hq
  refine red_of_cross (Int.mul_pos h3 h4) (Int.mul_pos hp hq) ?_
  simp only
  grind
theorem red_top_pos (hp : 0 < p.2) (h : 0 < p.1) : 0 < (red p).1 := by
  have h1 := red_cross hp
  have h3 := red_pos hp
  rcases Int.lt_trichotomy (red p).1 0 with h0 | h0 | h0
  · have := Int.mul_neg_of_neg_of_pos h0 hp
    have := Int.mul_pos h h3
    lia
  · have := Int.mul_pos h h3
    rw [h0] at h1; lia
  · exact h0
theorem red_div (hp : 0 < p.2) (hq : 0 < q.2) (hq1 : 0 < q.1) : red ((red p).1 * (red q).2, (red p).2 * (red q).1) = red (p.1 * q.2, p.2 * q.1) := by
  have h1 := red_cross hp
  have h2 := red_cross hq
  have h3 := red_pos hp
  have h4 := red_pos hq
  have h5 := red_top_pos hq hq1
  refine red_of_cross (Int.mul_pos h3 h5) (Int.mul_pos hp hq1) ?_
  simp only
  grind
theorem red_again (hp : 0 < p.2) : red (red p) = red p := red_of_cross (red_pos hp) hp (red_cross hp)
theorem red_bound (hp : 0 < p.2) (hq : 0 < q.2) : (red p).2 * (red q).2 ≤ p.2 * q.2 := by
  have h1 := red_le hp
  have h2 := red_le hq
  have h3 := red_pos hp
  have h4 := red_pos hq
  exact Int.mul_le_mul h1 h2 (by lia) (by lia)
end
end Mine

namespace Mine
open PySem.Calls PySem.Spec
/-- a number that may be a factor -/
def Bd (x : Int) : Prop := -2^62 < x ∧ x < 2^62
section
variable {w : World} {mean : ExcName → Option Value} {mg mb : Str → Option Value} {dp un : Nat} {gd : Option (List Code)} {cn : Str} {cs : Scope} {a : Addr} {ccd : Value} {cl : List (Str × Addr)} {outer : List Env} {A₀ : Around} {base h₀ : Heap} {L : Addr} {m : Str → Option Value} {news : List (Addr × Obj)} {s : Shared} {Q E : Value → Shared → Prop}
theorem rmulq_use {pa qa : Addr} {p q : Int × Int} {n₁ n₂ : List (Addr × Obj)} (hp : RatAt h₀ n₁ (.ref pa) (red p)) (hps : ∀ z ∈ n₁, z ∈ news) (hq : RatAt h₀ n₂ (.ref qa) (red q)) (hqs : ∀ z ∈ n₂, z ∈ news) (b0 : 0 < p.2) (b1 : 0 < q.2) (b2 : p.2 * q.2 < 1073741824) (b3 : Bd p.1) (B : Below A₀ base outer h₀) (F : Fr h₀ L s.heap m) (X : (hd.heap_39 w.params).In h₀) (N : News h₀ L s.heap news) (T : Top hd.view_39 (looseW hd.view_39 []) mean mg mb h₀) (hk : cs.kind = .function)
    (hdp : dp + 3 < recursionLimit) (hun : un + 24 + 64 < cLine)
    (hret : ∀ r tl h' tk', Fr h₀ L h' m → News h₀ L h' (news ++ tl) → Apart news tl → RatOut tl r (red (p.1 * q.1, p.2 * q.2)) → Q r { s with heap := h', toks := tk' }) :
    wpAny (model PySem.Challenge.rw_tk0030_01.row.prog w) (ktrTop dp un gd cn cs L a ccd cl outer) (call (.ref 71) [.ref pa, .ref qa]) Q E s :=
  rmul_use hp hps hq hqs (red_pos b0) (red_pos b1) (red_top b0 _ b3.1 b3.2).2 (red_top b0 _ b3.1 b3.2).1 (by have := red_le b0; have := red_pos b1; have := red_bound b0 b1; have h5 := red_pos b0; have h6 : p.2 * 1 ≤ p.2 * q.2 := Int.mul_le_mul_of_nonneg_left (by lia) (by lia); lia) (Int.lt_of_le_of_lt (red_bound b0 b1) b2) (Int.mul_pos (red_pos b0) (red_pos b1)) B F X N T hk hdp hun fun r tl h' tk' F' N' hA hO => hret r tl h' tk' F' N' hA (red_mul b0 b1 ▸ hO)
theorem raddq_use {pa qa : Addr} {p q : Int × Int} {n₁ n₂ : List (Addr × Obj)} (hp : RatAt h₀ n₁ (.ref pa) (red p)) (hps : ∀ z ∈ n₁, z ∈ news) (hq : RatAt h₀ n₂ (.ref qa) (red q)) (hqs : ∀ z ∈ n₂, z ∈ news) (b0 : 0 < p.2) (b1 : 0 < q.2) (b2 : p.2 * q.2 < 1073741824) (B : Below A₀ base outer h₀) (F : Fr h₀ L s.heap m) (X : (hd.heap_39 w.params).In h₀) (N : News h₀ L s.heap news) (T : Top hd.view_39 (looseW hd.view_39 []) mean mg mb h₀) (hk : cs.kind = .function)
    (hdp : dp + 3 < recursionLimit) (hun : un + 24 + 64 < cLine)
    (hret : ∀ r tl h' tk', Fr h₀ L h' m → News h₀ L h' (news ++ tl) → Apart news tl → RatOut tl r (red (p.1 * q.2 + q.1 * p.2, p.2 * q.2)) → Q r { s with heap := h', toks := tk' }) :
    wpAny (model PySem.Challenge.rw_tk0030_01.row.prog w) (ktrTop dp un gd cn cs L a ccd cl outer) (call (.ref 64) [.ref pa, .ref qa]) Q E s :=
  radd_use hp hps hq hqs (red_pos b0) (red_pos b1) (by have := red_le b0; have h6 : p.2 * 1 ≤ p.2 * q.2 := Int.mul_le_mul_of_nonneg_left (by lia) (by lia); lia) (by have := red_le b1; have h6 : 1 * q.2 ≤ p.2 * q.2 := Int.mul_le_mul_of_nonneg_right (by lia) (by lia); lia) (Int.lt_of_le_of_lt (red_bound b0 b1) b2) (Int.mul_pos (red_pos b0) (red_pos b1)) B F X N T hk hdp hun fun r tl h' tk' F' N' hA hO => hret r tl h' tk' F' N' hA (red_add b0 b1 ▸ hO)
end
theorem RatOut.ref {tl : List (Addr × Obj)} {v : Value} {x : Int × Int} (h : RatOut tl v x) : ∃ a, v = .ref a := (h default tl fun _ h => h).ref
theorem RatOut.at {h₀ h : Heap} {L : Addr} {m : Str → Option Value} {tl : List (Addr × Obj)} {v : Value} {x : Int × Int} (h9 : RatOut tl v x) (_F : Fr h₀ L h m) : RatAt h₀ tl v x := h9 _ _ fun _ h => h
theorem RatOut.mono {tl led : List (Addr × Obj)} {v : Value} {x : Int × Int} (h9 : RatOut tl v x) (hs : ∀ p ∈ tl, p ∈ led) : RatOut led v x := fun g l h => h9 g l fun p hp => h p (hs p hp)
theorem out_zero {tl : List (Addr × Obj)} {p : Int × Int} (h0 : 0 < p.2) (h1 : p.1 = 0) : RatOut tl (.ref 49) (red p) := fun g l _ => by rw [(red_eq_zero h0).mpr h1]; exact .zero
/-- a loop over a range whose one name holds a ratio -/
def RJ (x y : Str) (m₀ : Str → Option Value) (p : Int × Int) (m : Str → Option Value) (nx : List (Addr × Obj)) : Prop :=
  (∃ v, m y = some (.ref v) ∧ RatOut nx (.ref v) (red p)) ∧ ∀ z, z ≠ x → z ≠ y → m z = m₀ z
section
variable {prog : Program} {w : World} {A : Around} {E : Value → Shared → Prop} {s : Shared} {env : Env} {h₀ : Heap} {x : Str} {body : List Stmt} {Q : Flow → Shared → Prop}
theorem range_inv {r : Addr} {a₀ b₀ : Int} {t₀ u₀ v₀ : Tok} {n : Nat} {m₀ : Str → Option Value} {news : List (Addr × Obj)} (J : Nat → (Str → Option Value) → List (Addr × Obj) → Prop)
    (hh : A.handled = none) (hr : IsRange s.heap r a₀ b₀ 1 t₀ u₀ v₀) (hsmall : Builtin.Range.small a₀ b₀ 1 = true) (hsz : Builtin.Range.rangeSize a₀ b₀ 1 = (n : Int)) (F : Fr h₀ env.locals s.heap m₀) (N : News h₀ env.locals s.heap news) (hj : J 0 m₀ news)
    (turn : ∀ i t m₁ nx h tk own, i < n → OwnOff own (nx.map (·.1)) → J i m₁ nx → Fr h₀ env.locals h (fun z => if z = x then some (.int (a₀ + (i : Int)) t) else m₁ z) → News h₀ env.locals h (nx ++ own) →
      wpAny (model prog w) A (execs body env) (InvPostG h₀ env.locals (J (i + 1)) own { s with heap := h, toks := tk } Q) E { s with heap := h, toks := tk })
    (done : ∀ m₁ nx h tk, J n m₁ nx → Fr h₀ env.locals h m₁ → News h₀ env.locals h nx → Q .next { s with heap := h, toks := tk }) :
    wpAny (model prog w) A (pyIter (.ref r)) (fun it s₂ => LoopAtV prog w A h₀ env x body Q E it s₂) E s := by
  refine wpAny_pyIter_range hr hsmall ?_
  have W := (Walks.range (prog := prog) (w := w) hh s.heap.objs.size a₀ 1 n).bound
  refine kdr_loop J W (fun _ h => h) (fun _ h => h) ?_ ?_ ?_ ?_ (by show IsRangeIter _ _ _ _ _; rw [hsz]; simpa using Heap.get?_push_size _ rfl) (F.push _) (fun p hp => ⟨Heap.get?_push_of_some _ (N p hp).1, (N p hp).2⟩) hj ?_ (fun m₁ nx h tk hJ F' N' => done m₁ nx h tk hJ F' N')
  · intro i h hi b hb
    rw [List.mem_singleton.mp hb]
    exact ⟨_, hi⟩
  · intro hm
    exact absurd F.ns.lt ((List.mem_singleton.mp hm) ▸ Nat.lt_irrefl _)
  · intro b hb
    rw [List.mem_singleton.mp hb]
    exact next_is_new F
  · intro p hp hI
    exact absurd (Heap.lt_size (N p hp).1) ((List.mem_singleton.mp hI) ▸ Nat.lt_irrefl _)
  · rintro i v m₁ nx h tk own hi ⟨_, t, rfl⟩ hoff hJ F₁ N₁
    rw [Int.mul_one] at F₁
    exact turn i t m₁ nx h tk own hi hoff hJ F₁ N₁
theorem range_rat {r : Addr} {a₀ b₀ : Int} {t₀ u₀ v₀ : Tok} {n : Nat} {m₀ : Str → Option Value} {news : List (Addr × Obj)} {y : Str} {v : Addr} (f : Nat → Int × Int)
    (hh : A.handled = none) (hr : IsRange s.heap r a₀ b₀ 1 t₀ u₀ v₀) (hsmall : Builtin.Range.small a₀ b₀ 1 = true) (hsz : Builtin.Range.rangeSize a₀ b₀ 1 = (n : Int)) (F : Fr h₀ env.locals s.heap m₀) (N : News h₀ env.locals s.heap news)
    (hv : m₀ y = some (.ref v)) (hR : RatOut news (.ref v) (red (f 0)))
    (turn : ∀ (i : Nat) t v nx h tk own, i < n → OwnOff own (nx.map (·.1)) → RatOut nx (.ref v) (red (f i)) → Fr h₀ env.locals h (fun z => if z = x then some (.int (a₀ + (i : Int)) t) else if z = y then some (.ref v) else m₀ z) → News h₀ env.locals h (nx ++ own) →
      wpAny (model prog w) A (execs body env) (InvPostG h₀ env.locals (RJ x y m₀ (f (i + 1))) own { s with heap := h, toks := tk } Q) E { s with heap := h, toks := tk })
    (done : ∀ v (u : Str → Option Value) nx h tk, RatOut nx (.ref v) (red (f n)) → Fr h₀ env.locals h (fun z => if z = x then u z else if z = y then some (.ref v) else m₀ z) → News h₀ env.locals h nx → Q .next { s with heap := h, toks := tk }) :
    wpAny (model prog w) A (pyIter (.ref r)) (fun it s₂ => LoopAtV prog w A h₀ env x body Q E it s₂) E s := by
  refine range_inv (fun i => RJ x y m₀ (f i)) hh hr hsmall hsz F N ⟨⟨v, hv, hR⟩, fun _ _ _ => rfl⟩ ?_ ?_
  · rintro i t m₁ nx h tk own hi hoff ⟨⟨v', hv', hR'⟩, hm⟩ F₁ N₁
    refine turn i t v' nx h tk own hi hoff hR' ?_ N₁
    have e : (fun z => if z = x then some (Value.int (a₀ + (i : Int)) t) else if z = y then some (.ref v') else m₀ z) = fun z => if z = x then some (Value.int (a₀ + (i : Int)) t) else m₁ z := by
      funext z
      by_cases h1 : z = x
      · simp [h1]
      · simp only [if_neg h1]
        by_cases h2 : z = y
        · subst h2; simp [hv']
        · simp only [if_neg h2]; exact (hm z h1 h2).symm
    rw [e]; exact F₁
  · rintro m₁ nx h tk ⟨⟨v', hv', hR'⟩, hm⟩ F₁ N₁
    refine done v' m₁ nx h tk hR' ?_ N₁
    have e : (fun z => if z = x then m₁ z else if z = y then some (.ref v') else m₀ z) = m₁ := by
      funext z
      by_cases h1 : z = x
      · simp [h1]
      · simp only [if_neg h1]
        by_cases h2 : z = y
        · subst h2; simp [hv']
        · simp only [if_neg h2]; exact (hm z h1 h2).symm
    rw [e]; exact F₁
theorem ownOff_apart {own news tl : List (Addr × Obj)} (ha : Apart news tl) (ho : ∀ p ∈ own, p ∈ news) : OwnOff own (tl.map (·.1)) := by
  intro p hp b hb
  obtain ⟨q, hq, rfl⟩ := List.mem_map.mp hb
  exact ha p (ho p hp) q hq
theorem rj_end {y : Str} {v : Addr} {p q : Int × Int} {m₀ m' : Str → Option Value} {own nx news' : List (Addr × Obj)} {s₁ : Shared} {h' : Heap} {tk : Nat} {L : Addr} (F : Fr h₀ L h' m') (N : News h₀ L h' news') (hv : m' y = some (.ref v)) (hR : RatOut nx (.ref v) q) (hn : ∀ p ∈ nx, p ∈ news') (ho : ∀ p ∈ own, p ∈ news') (ha : OwnOff own (nx.map (·.1)))
    (hm : ∀ z, z ≠ x → z ≠ y → m' z = m₀ z) (hq : Leaf (q = red p)) : InvEndG h₀ L (RJ x y m₀ p) own s₁ { s₁ with heap := h', toks := tk } :=
  InvEndG.intro F N ⟨⟨v, hv, (show q = red p from hq) ▸ hR⟩, hm⟩ ha hn ho
end
/-- the product's number at k: its first n summands -/
def conv (ys zs : List Int) (k : Int) : Nat → Int
  | 0 => 0
  | i + 1 => conv ys zs k i + ys.getD (0 + (i : Int)).toNat 0 * zs.getD (k - (0 + (i : Int))).toNat 0
/-- numbers over one bottom -/
def ov (d : Int) (ys : List Int) : List (Int × Int) := ys.map fun y => (y, d)
theorem ov_length (d : Int) (ys : List Int) : (ov d ys).length = ys.length := List.length_map ..
theorem ov_get {d : Int} {ys : List Int} {k : Nat} (h : k < ys.length) : (ov d ys).getD k (0, 1) = (ys.getD k 0, d) := by
  simp [ov, List.getD_eq_getElem?_getD, h]
section
variable {prog : Program} {w : World} {A : Around} {E : Value → Shared → Prop} {s : Shared} {h₀ : Heap} {L : Addr} {m : Str → Option Value} {n₁ news : List (Addr × Obj)} {a : Addr} {d : Int} {ys : List Int} {Q : Value → Shared → Prop}
theorem ov_item {value slice : PySem.Expr} {u : Tok} {k : Int} (hS : SerAt h₀ n₁ (.ref a) (ov d ys)) (hs : ∀ p ∈ n₁, p ∈ news) (F : Fr h₀ L s.heap m) (N : News h₀ L s.heap news) (h0 : 0 ≤ k) (hk : k < ys.length) (hl : ys.length ≤ 100)
    (h : ∀ b, RatAt h₀ n₁ (.ref b) (red (ys.getD k.toNat 0, d)) → Q (.ref b) s)
    (he : subscripted slice false (.ref a) (.int k u) = operate [.ref a, .int k u] (getItem (.ref a) (.int k u))) :
    wpAny (model prog w) A (subscriptTail value slice (.ref a) (.int k u)) Q E s :=
  ser_item hS hs F N h0 (by rw [ov_length]; exact hk) (by rw [ov_length]; exact hl) (fun b hb => h b (by rw [ov_get (by lia)] at hb; exact hb)) he
theorem ov_len (hS : SerAt h₀ n₁ (.ref a) (ov d ys)) (hs : ∀ p ∈ n₁, p ∈ news) (F : Fr h₀ L s.heap m) (N : News h₀ L s.heap news) (hl : ys.length ≤ 100) (h : Q (.int (ys.length : Int) (s.toks + 1)) { s with toks := s.toks + 1 + 1 }) :
    wpAny (model prog w) A (call (.builtin "len") [.ref a]) Q E s := by
  refine ser_len hS hs F N (by rw [ov_length]; exact hl) ?_
  rw [ov_length]; exact h
end
end Mine

namespace Mine
open PySem.Calls PySem.Spec
theorem mixed_skip {d : Int} {e : Int} {ys zs : List Int} {k : Int} {i : Nat} (h : ys.getD (0 + (i : Int)).toNat 0 = 0 ∨ zs.getD (k - (0 + (i : Int))).toNat 0 = 0) : (conv ys zs k (i + 1), d * e) = (conv ys zs k i, d * e) := by
  rw [conv]
  rcases h with h | h <;> rw [h] <;> simp
theorem mixed_add {c u : Int} {x y z : Int} (hu : 0 < u) (h : c = x + y * z) : red (x * u + y * z * u, u * u) = red (c, u) := by
  subst h
  refine red_of_cross (Int.mul_pos hu hu) hu ?_
  simp only
  grind
section
variable {w : World} {mean : ExcName → Option Value} {mg mb : Str → Option Value} {dp un : Nat} {gd : Option (List Code)} {cn : Str} {cs : Scope} {a : Addr} {ccd : Value} {cl : List (Str × Addr)} {outer : List Env} {A₀ : Around} {base h₀ : Heap} {L : Addr} {m : Str → Option Value} {news : List (Addr × Obj)} {s : Shared} {Q E : Value → Shared → Prop}
set_option maxHeartbeats 4000000 in
theorem mixed_use {pa pb : Addr} {ys zs : List Int} {d e k : Int} {t₀ : Tok} {n₁ n₂ : List (Addr × Obj)} (hp : SerAt h₀ n₁ (.ref pa) (ov d ys)) (hps : ∀ z ∈ n₁, z ∈ news) (hq : SerAt h₀ n₂ (.ref pb) (ov e zs)) (hqs : ∀ z ∈ n₂, z ∈ news) (hl : ys.length ≤ 100) (hl₂ : zs.length ≤ 100) (k0 : 0 ≤ k) (k1 : k < ys.length) (k2 : k < zs.length) (d0 : 0 < d) (e0 : 0 < e) (de : d * e ≤ 32000) (hy : ∀ i, Bd (ys.getD i 0)) (B : Below A₀ base outer h₀) (F : Fr h₀ L s.heap m) (X : (hd.heap_39 w.params).In h₀) (N : News h₀ L s.heap news) (T : Top hd.view_39 (looseW hd.view_39 []) mean mg mb h₀) (hk : cs.kind = .function)
    (hdp : dp + 4 < recursionLimit) (hun : un + 32 + 64 < cLine)
    (hret : ∀ r tl h' tk', Fr h₀ L h' m → News h₀ L h' (news ++ tl) → Apart news tl → RatOut tl r (red (conv ys zs k (k + 1).toNat, d * e)) → Q r { s with heap := h', toks := tk' }) :
    wpAny (model PySem.Challenge.rw_tk0030_01.row.prog w) (ktrTop dp un gd cn cs L a ccd cl outer) (call (.ref 123) [.ref pa, .ref pb, .int k t₀]) Q E s := by
  k_with_none
  w_top off
  k_with "L:ktn_open" => ((case kA => exact rfl); (case kF => exact rfl); (case kK => first | exact rfl | assumption); (case k1 => k_asm); (case k2 => k_asm); (case k3 => k_asm); (case k4 => k_asm); (case k5 => k_asm); (case k6 => k_is); (case k7 => k_is); (case k8 => ktr_room); (case k9 => exact BindsTo.of_eq rfl); (case c5 => decide); (case kB => exact locs rfl); (case c2 => exact rfl); (case c3 => exact rfl); (case c4 => exact rfl); k_whole)
  k_with "L:exec For Name Call cons nil" => (k_here; (rename Fr _ _ _ _ => lF'); (with_unfolding_all refine' For_invVF lF' ?k1 ?k2 ?_; (case k1 => exact rfl); (case k2 => exact rfl); k_whole))
  k_with "L:pyIter ref" => (k_here; k_extra "pyIter ref")
  k_with "L:RetOf" => (k_dflt (refine' retOf_mk ?rF ?rN ?_; (case rF => k_asm); (case rN => k_asm)); (try dsimp only))
  k_with "L:subscriptTail" => (k_here; (first | ((with_reducible show wpAny _ _ (subscriptTail _ _ (Value.ref _) (Value.int 0 _)) _ _ _); k_dflt (refine' rat_item0 ?hR ?hs ?F ?X ?N ?_ ?he; (case hR => assumption); (case F => k_asm); (case X => k_asm); (case N => k_asm); (case hs => kcf_all); (case he => with_unfolding_all rfl))) | ((with_reducible show wpAny _ _ (subscriptTail _ _ (Value.ref _) (Value.int 1 _)) _ _ _); k_dflt (refine' rat_item1 ?hR ?hs ?F ?X ?N ?_ ?he; (case hR => assumption); (case F => k_asm); (case X => k_asm); (case N => k_asm); (case hs => kcf_all); (case he => with_unfolding_all rfl)))); intro t9; (try dsimp only))
  k_with "L:subscriptTail" => (k_here; (with_reducible show wpAny _ _ (subscriptTail _ _ (Value.ref _) (Value.int _ _)) _ _ _); k_dflt (refine' ser_item ?hR ?hs ?F ?N ?h0 ?hk ?hl ?_ ?he; (case hR => assumption); (case F => k_asm); (case N => k_asm); (case hs => kcf_all); (case h0 => omega); (case hk => omega); (case hl => omega); (case he => with_unfolding_all rfl)); intro b9 hb9; (try dsimp only))
  k_with "L:call builtin:len" => (k_here; (with_reducible show wpAny _ _ (call (Value.builtin "len") [Value.ref _]) _ _ _); k_dflt (refine' ser_len ?hR ?hs ?F ?N ?hl ?_; (case hR => assumption); (case F => k_asm); (case N => k_asm); (case hs => kcf_all); (case hl => omega)); (try dsimp only))
  k_with "L:compareOp NotEq ref ref" => (k_here; (with_reducible show wpAny _ _ (compareOp CmpOp.NotEq (Value.ref _) (Value.ref _)) _ _ _); k_dflt (refine' rat_ne ?hR ?hs ?hR2 ?hs2 ?F ?X ?N ?hu ?_; (case hR => first | assumption | exact RatAt.zero (led := []) | exact RatAt.one (led := [])); (case hR2 => first | assumption | exact RatAt.zero (led := []) | exact RatAt.one (led := [])); (case F => k_asm); (case X => k_asm); (case N => k_asm); (case hs => kcf_all); (case hs2 => kcf_all); (case hu => ktr_units)); (try dsimp only))
  k_with "L:subscriptTail" => (k_here; (with_reducible show wpAny _ _ (subscriptTail _ _ (Value.ref _) (Value.int _ _)) _ _ _); k_dflt (refine' ov_item ?hR ?hs ?F ?N ?h0 ?hk ?hl ?_ ?he; (case hR => assumption); (case F => k_asm); (case N => k_asm); (case hs => kcf_all); (case h0 => omega); (case hk => omega); (case hl => omega); (case he => with_unfolding_all rfl)); intro b9 hb9; (try dsimp only))
  k_with "L:call builtin:len" => (k_here; (with_reducible show wpAny _ _ (call (Value.builtin "len") [Value.ref _]) _ _ _); k_dflt (refine' ov_len ?hR ?hs ?F ?N ?hl ?_; (case hR => assumption); (case F => k_asm); (case N => k_asm); (case hs => kcf_all); (case hl => omega)); (try dsimp only))
  k_with "L:InvEndG" => (k_dflt (refine' rj_end ?F ?N ?hv ?hO ?hn ?ho ?ha ?hm ?_; (case F => k_asm); (case N => k_asm); (case hv => exact rfl); (case hO => assumption); (case hn => kcf_all); (case ho => kcf_all); (case ha => first | assumption | exact ownOff_apart (by assumption) (by kcf_all)); (case hm => (intro z h1 h2; simp only [if_neg h1, if_neg h2]))))
  k_with "L:call ref" => (k_here; (with_reducible show wpAny _ _ (call (Value.ref 71) _) _ _ _); k_dflt (refine' rmulq_use ?p0 ?p1 ?p2 ?p3 ?p4 ?p5 ?p6 ?p7 ?k1 ?k2 ?k3 ?k4 ?k5 ?kK ?kd ?ku ?_; (case k1 => k_asm); (case k2 => k_asm); (case k3 => k_asm); (case k4 => k_asm); (case k5 => k_asm); (case kK => first | exact rfl | assumption); (case p0 => assumption); (case p1 => kcf_all); (case p2 => assumption); (case p3 => kcf_all); (case p4 => first | assumption | ((try dsimp only); first | assumption | omega)); (case p5 => first | assumption | ((try dsimp only); first | assumption | omega)); (case p6 => first | assumption | ((try dsimp only); first | assumption | omega)); (case p7 => first | assumption | solve_by_elim); (case kd => ktr_room); (case ku => ktr_units); k_whole); intro r9 tl9 h9 tk9 F9 N9 hA9 hO9; (obtain ⟨b8, e8⟩ := RatOut.ref hO9; subst e8; have hR9 := RatOut.at hO9 F9; (try dsimp only at hO9 hR9)); (try dsimp only); (try k_fold))
  k_with "L:call ref" => (k_here; (with_reducible show wpAny _ _ (call (Value.ref 64) _) _ _ _); k_dflt (refine' raddq_use ?p0 ?p1 ?p2 ?p3 ?p4 ?p5 ?p6 ?k1 ?k2 ?k3 ?k4 ?k5 ?kK ?kd ?ku ?_; (case k1 => k_asm); (case k2 => k_asm); (case k3 => k_asm); (case k4 => k_asm); (case k5 => k_asm); (case kK => first | exact rfl | assumption); (case p0 => assumption); (case p1 => kcf_all); (case p2 => assumption); (case p3 => kcf_all); (case p4 => first | assumption | ((try dsimp only); first | assumption | omega)); (case p5 => first | assumption | ((try dsimp only); first | assumption | omega)); (case p6 => first | assumption | ((try dsimp only); first | assumption | omega)); (case kd => ktr_room); (case ku => ktr_units); k_whole); intro r9 tl9 h9 tk9 F9 N9 hA9 hO9; (obtain ⟨b8, e8⟩ := RatOut.ref hO9; subst e8; have hR9 := RatOut.at hO9 F9; (try dsimp only at hO9 hR9)); (try dsimp only); (try k_fold))
  revert X; k_fill; intro X
  k_dflt (refine' enterP (fun tl r => RatOut tl r (red (conv ys zs k (k + 1).toNat, d * e))) ?k1 ?k2 ?k3 ?k4 ?k5 ?kA ?kF ?kK ?k6 ?k7 ?k8 ?k9 ?kB hret ?_ ?c2 ?c3 ?c4 ?c5; ktn_open)
  intro g' L' h' tk' hg' F' N' B' X' T'
  clear hret
  have hp' : SerAt g' [] (.ref pa) (ov d ys) := (hp.mono hps).to F N hg'
  have hq' : SerAt g' [] (.ref pb) (ov e zs) := (hq.mono hqs).to F N hg'
  clear hp hps hq hqs
  have de0 : 0 < d * e := Int.mul_pos d0 e0
  have de2 : d * e * (d * e) < 1073741824 := by
    have := Int.mul_le_mul de de (by omega) (by omega)
    omega
  (try dsimp only); (try k_fold)
  k_with "pyIter ref" => ((rename Fr _ _ _ _ => lF'); (rename News _ _ _ _ => lN'); k_dflt (refine' range_rat (y := Str.ofString "found") (fun i => (conv ys zs k i, d * e)) ?r1 ?r2 ?r3 ?r4 lF' lN' ?r5 ?r6 (fun i' t' v' nx' h' tk' own' hi' hoff' hO' F' N' => ?_) (fun v' u' nx' h' tk' hO' F' N' => ?_); (case r1 => rfl); (case r2 => assumption); (case r3 => exact small_one (by omega) (by omega) (by omega) (by omega)); (case r4 => exact rangeSize_nat _ _); (case r5 => rfl); (case r6 => exact out_zero (Int.mul_pos d0 e0) rfl)); (all_goals (try clear lF' lN')); (all_goals have hR' := RatOut.at hO' F'); (all_goals (try k_fold)))
  k_steps
  all_goals (first
    | exact mixed_add de0 rfl
    | exact (congrArg red (mixed_skip (Or.inl ((red_eq_zero (p := (_, d)) d0).mp (Classical.not_not.mp (by assumption)))))).symm
    | exact (congrArg red (mixed_skip (Or.inr ((red_eq_zero (p := (_, e)) e0).mp (Classical.not_not.mp (by assumption)))))).symm
    | (rw [Int.sub_zero] at hO'; exact hO')
    | trace_state)

end
end Mine

namespace Mine
open PySem.Calls PySem.Spec
def RatsOut (tl : List (Addr × Obj)) (vs : List Value) (ps : List (Int × Int)) : Prop := ∀ (g : Heap) (led : List (Addr × Obj)), (∀ p ∈ tl, p ∈ led) → RatsAt g led vs ps
theorem RatsOut.mono {tl led : List (Addr × Obj)} {vs : List Value} {ps : List (Int × Int)} (h9 : RatsOut tl vs ps) (hs : ∀ p ∈ tl, p ∈ led) : RatsOut led vs ps := fun g l h => h9 g l fun p hp => h p (hs p hp)
theorem RatsOut.length {tl : List (Addr × Obj)} {vs : List Value} {ps : List (Int × Int)} (h : RatsOut tl vs ps) : vs.length = ps.length := (h default tl fun _ h => h).length
theorem rats_zero {tl : List (Addr × Obj)} {vs : List Value} {ps : List (Int × Int)} (h : RatsOut tl vs ps) : RatsOut tl ([Value.ref 49] ++ vs) ((0, 1) :: ps) := fun g l hs => .cons (by rw [red_zero]; exact .zero) (h g l hs)
theorem RatsOut.snoc {tl tl' : List (Addr × Obj)} {vs : List Value} {v : Value} {ps : List (Int × Int)} {p : Int × Int} (h : RatsOut tl vs ps) (k : RatOut tl' v (red p)) : RatsOut (tl ++ tl') (vs ++ [v]) (ps ++ [p]) := fun g l hs =>
  (h g l fun q hq => hs q (List.mem_append.mpr (.inl hq))).append (.cons (k g l fun q hq => hs q (List.mem_append.mpr (.inr hq))) .nil)
theorem SerOut.ref {tl : List (Addr × Obj)} {v : Value} {ps : List (Int × Int)} (h : SerOut tl v ps) : ∃ a, v = .ref a := (h default tl fun _ h => h).ref
theorem SerOut.at {h₀ h : Heap} {L : Addr} {m : Str → Option Value} {tl : List (Addr × Obj)} {v : Value} {ps : List (Int × Int)} (h9 : SerOut tl v ps) (_F : Fr h₀ L h m) : SerAt h₀ tl v ps := h9 _ _ fun _ h => h
theorem SerOut.mono {tl led : List (Addr × Obj)} {v : Value} {ps : List (Int × Int)} (h9 : SerOut tl v ps) (hs : ∀ p ∈ tl, p ∈ led) : SerOut led v ps := fun g l h => h9 g l fun p hp => h p (hs p hp)
theorem SerOut.lst {tl led : List (Addr × Obj)} {a : Addr} {n : Nat} {vs : List Value} {ps : List (Int × Int)} (h : RatsOut tl vs ps) (hs : ∀ p ∈ tl, p ∈ led) (hm : (a, listOf vs.toArray n) ∈ led) : SerOut led (.ref a) ps :=
  fun g l hl => .made (hl _ hm) (h g l fun p hp => hl p (hs p hp))
/-- the end of an element that is a ratio -/
def CompOut (h₀ : Heap) (L : Addr) (m : Str → Option Value) (s₁ : Shared) (b3 : List (Addr × Obj)) (p : Int × Int) (y : Value) (s₂ : Shared) : Prop :=
  ∃ h' tk tl', s₂ = { s₁ with heap := h', toks := tk } ∧ Fr h₀ L h' m ∧ News h₀ L h' (b3 ++ tl') ∧ Apart b3 tl' ∧ RatOut tl' y (red p)
section
variable {h₀ : Heap} {L : Addr} {m : Str → Option Value}
theorem compOut_mk {s₁ : Shared} {b3 X tl' all : List (Addr × Obj)} {p q : Int × Int} {y : Value} {h' : Heap} {tk : Nat} (F : Fr h₀ L h' m) (N : News h₀ L h' all) (hO : RatOut tl' y q) (hA : Apart X tl') (hs : ∀ r ∈ b3, r ∈ X) (hn : ∀ r ∈ b3, r ∈ all) (ht : ∀ r ∈ tl', r ∈ all) (hq : Leaf (q = red p)) :
    CompOut h₀ L m s₁ b3 p y { s₁ with heap := h', toks := tk } :=
  ⟨h', tk, tl', rfl, F, fun r hr => (List.mem_append.mp hr).elim (fun h => N r (hn r h)) fun h => N r (ht r h), fun a ha b hb => hA a (hs a ha) b hb, (show q = red p from hq) ▸ hO⟩
variable {prog : Program} {w : World} {A : Around} {env : Env} {elt : Expr} {x : Str} {scope : Scope} {cl : List (Str × Addr)} {s : Shared} {S : List (Addr × Obj) → Prop} {P : Nat → Value → Prop} {Fin : List Value → List (Addr × Obj) → Prop} {news : List (Addr × Obj)}
theorem comp_rats {n : Nat} (f : Nat → Int × Int) (hS : ∀ nw, S nw)
    (turn : ∀ i v I oI C oC D m₂ ys h tk tl (E' : Value → Shared → Prop), i < n → P i v → LCg.NsObj oC m₂ → m₂ x = some v → Fr h₀ L h m → News h₀ L h ((I, oI) :: (C, oC) :: (D, LCg.lst ys) :: (news ++ tl)) →
      wpAny (model prog w) A (eval elt (compEnvC scope cl C env)) (CompOut h₀ L m { s with heap := h, toks := tk } ((I, oI) :: (C, oC) :: (D, LCg.lst ys) :: (news ++ tl)) (f i)) E' { s with heap := h, toks := tk })
    (fin : ∀ ys tl, RatsOut tl ys ((List.range n).map f) → Fin ys (news ++ tl)) : LCg.CompRest prog w A h₀ L m env elt x scope cl s S P Fin n 0 [] news := by
  have key : ∀ (j i : Nat) (ys : List Value) (tl : List (Addr × Obj)), i + j = n → RatsOut tl ys ((List.range i).map f) → LCg.CompRest prog w A h₀ L m env elt x scope cl s S P Fin j i ys (news ++ tl) := by
    intro j
    induction j with
    | zero =>
      intro i ys tl hi hy
      have e : i = n := by lia
      subst e
      exact LCg.CompRest.zero (fin ys tl hy)
    | succ j ih =>
      intro i ys tl hi hy
      refine LCg.CompRest.succ ?_
      intro v I oI C oC D m₂ h tk E' hv hC hx F N off ne
      refine wpAny_mono (turn i v I oI C oC D m₂ ys h tk tl E' (by lia) hv hC hx F N) (fun y s₂ hq => ?_) fun _ _ e => e
      obtain ⟨h', tk', tl', e, F', N', hA, hO⟩ := hq
      have hsub : ∀ q ∈ (I, oI) :: (C, oC) :: (D, LCg.lst ys) :: (news ++ (tl ++ tl')), q ∈ ((I, oI) :: (C, oC) :: (D, LCg.lst ys) :: (news ++ tl)) ++ tl' := by
        intro q hq
        simp only [List.mem_cons, List.mem_append, List.cons_append] at hq ⊢
        rcases hq with h | h | h | h | h | h <;> simp only [h, true_or, or_true]
      refine ⟨h', tk', news ++ (tl ++ tl'), e, F', fun q hq => N' q (hsub q hq), LCg.Off3.of fun q hq => ?_, hS _, ?_⟩
      · have hoff := off.mem
        rcases List.mem_append.mp hq with h1 | h1
        · exact hoff q (List.mem_append.mpr (.inl h1))
        · rcases List.mem_append.mp h1 with h1 | h1
          · exact hoff q (List.mem_append.mpr (.inr h1))
          · exact ⟨fun e => hA _ (List.Mem.head _) q h1 e.symm, fun e => hA _ (List.Mem.tail _ (List.Mem.head _)) q h1 e.symm, fun e => hA _ (List.Mem.tail _ (List.Mem.tail _ (List.Mem.head _))) q h1 e.symm⟩
      · refine ih (i + 1) (ys ++ [y]) (tl ++ tl') (by lia) ?_
        rw [List.range_succ, List.map_append]
        exact hy.snoc hO
  have := key n 0 [] [] (by lia) (fun _ _ _ => by exact .nil)
  rwa [List.append_nil] at this
end
end Mine

namespace Mine
open PySem.Calls PySem.Spec
def smulS (ys zs : List Int) : List Int := (List.range (min ys.length zs.length)).map fun (i : Nat) => conv ys zs (0 + (i : Int)) (0 + (i : Int) + 1).toNat
theorem min_len (a b : Nat) : ((if (b : Int) < (a : Int) then (b : Int) else (a : Int)) - 0).toNat = min a b := by split <;> lia
theorem smul_items (d e : Int) (ys zs : List Int) : (List.range ((if (zs.length : Int) < (ys.length : Int) then (zs.length : Int) else (ys.length : Int)) - 0).toNat).map (fun (i : Nat) => (conv ys zs (0 + (i : Int)) (0 + (i : Int) + 1).toNat, d * e)) = ov (d * e) (smulS ys zs) := by
  rw [min_len, ov, smulS, List.map_map]; rfl
theorem smulS_length (ys zs : List Int) : (smulS ys zs).length = min ys.length zs.length := by rw [smulS, List.length_map, List.length_range]
section
variable {w : World} {mean : ExcName → Option Value} {mg mb : Str → Option Value} {dp un : Nat} {gd : Option (List Code)} {cn : Str} {cs : Scope} {a : Addr} {ccd : Value} {cl : List (Str × Addr)} {outer : List Env} {A₀ : Around} {base h₀ : Heap} {L : Addr} {m : Str → Option Value} {news : List (Addr × Obj)} {s : Shared} {Q E : Value → Shared → Prop}
theorem letq_use {pa : Addr} {p : Int × Int} {n₁ : List (Addr × Obj)} (hp : RatAt h₀ n₁ (.ref pa) (red p)) (hps : ∀ z ∈ n₁, z ∈ news) (b0 : 0 < p.2) (b1 : p.2 < 2^62) (b3 : Bd p.1) (B : Below A₀ base outer h₀) (F : Fr h₀ L s.heap m) (X : (hd.heap_39 w.params).In h₀) (N : News h₀ L s.heap news) (T : Top hd.view_39 (looseW hd.view_39 []) mean mg mb h₀) (hk : cs.kind = .function)
    (hdp : dp + 3 < recursionLimit) (hun : un + 24 + 64 < cLine)
    (hret : ∀ r tl h' tk', Fr h₀ L h' m → News h₀ L h' (news ++ tl) → Apart news tl → r = .ref pa → Q r { s with heap := h', toks := tk' }) :
    wpAny (model PySem.Challenge.rw_tk0030_01.row.prog w) (ktrTop dp un gd cn cs L a ccd cl outer) (call (.ref 106) [.ref pa]) Q E s :=
  let_use hp hps (Int.lt_of_le_of_lt (red_le b0) b1) (red_top b0 _ b3.1 b3.2).2 (red_top b0 _ b3.1 b3.2).1 B F X N T hk hdp hun hret
set_option maxHeartbeats 4000000 in
theorem smul_use {pa pb : Addr} {ys zs : List Int} {d e : Int} {n₁ n₂ : List (Addr × Obj)} (hp : SerAt h₀ n₁ (.ref pa) (ov d ys)) (hps : ∀ z ∈ n₁, z ∈ news) (hq : SerAt h₀ n₂ (.ref pb) (ov e zs)) (hqs : ∀ z ∈ n₂, z ∈ news) (hl : ys.length ≤ 100) (hl₂ : zs.length ≤ 100) (d0 : 0 < d) (e0 : 0 < e) (de : d * e ≤ 32000) (hy : ∀ i, Bd (ys.getD i 0)) (hc : ∀ k n, Bd (conv ys zs k n)) (B : Below A₀ base outer h₀) (F : Fr h₀ L s.heap m) (X : (hd.heap_39 w.params).In h₀) (N : News h₀ L s.heap news) (T : Top hd.view_39 (looseW hd.view_39 []) mean mg mb h₀) (hk : cs.kind = .function)
    (hdp : dp + 5 < recursionLimit) (hun : un + 40 + 64 < cLine)
    (hret : ∀ r tl h' tk', Fr h₀ L h' m → News h₀ L h' (news ++ tl) → Apart news tl → SerOut tl r (ov (d * e) (smulS ys zs)) → Q r { s with heap := h', toks := tk' }) :
    wpAny (model PySem.Challenge.rw_tk0030_01.row.prog w) (ktrTop dp un gd cn cs L a ccd cl outer) (call (.ref 128) [.ref pa, .ref pb]) Q E s := by
  k_with_none
  w_top off
  k_with "L:ktn_open" => ((case kA => exact rfl); (case kF => exact rfl); (case kK => first | exact rfl | assumption); (case k1 => k_asm); (case k2 => k_asm); (case k3 => k_asm); (case k4 => k_asm); (case k5 => k_asm); (case k6 => k_is); (case k7 => k_is); (case k8 => ktr_room); (case k9 => exact BindsTo.of_eq rfl); (case c5 => decide); (case kB => exact locs rfl); (case c2 => exact rfl); (case c3 => exact rfl); (case c4 => exact rfl); k_whole)
  k_with "L:exec For Name Call cons nil" => (k_here; (rename Fr _ _ _ _ => lF'); (with_unfolding_all refine' For_invVF lF' ?k1 ?k2 ?_; (case k1 => exact rfl); (case k2 => exact rfl); k_whole))
  k_with "L:pyIter ref" => (k_here; k_extra "pyIter ref")
  k_with "L:RetOf" => (k_dflt (refine' retOf_mk ?rF ?rN ?_; (case rF => k_asm); (case rN => k_asm)); (try dsimp only))
  k_with "L:subscriptTail" => (k_here; (first | ((with_reducible show wpAny _ _ (subscriptTail _ _ (Value.ref _) (Value.int 0 _)) _ _ _); k_dflt (refine' rat_item0 ?hR ?hs ?F ?X ?N ?_ ?he; (case hR => assumption); (case F => k_asm); (case X => k_asm); (case N => k_asm); (case hs => kcf_all); (case he => with_unfolding_all rfl))) | ((with_reducible show wpAny _ _ (subscriptTail _ _ (Value.ref _) (Value.int 1 _)) _ _ _); k_dflt (refine' rat_item1 ?hR ?hs ?F ?X ?N ?_ ?he; (case hR => assumption); (case F => k_asm); (case X => k_asm); (case N => k_asm); (case hs => kcf_all); (case he => with_unfolding_all rfl)))); intro t9; (try dsimp only))
  k_with "L:subscriptTail" => (k_here; (with_reducible show wpAny _ _ (subscriptTail _ _ (Value.ref _) (Value.int _ _)) _ _ _); k_dflt (refine' ser_item ?hR ?hs ?F ?N ?h0 ?hk ?hl ?_ ?he; (case hR => assumption); (case F => k_asm); (case N => k_asm); (case hs => kcf_all); (case h0 => omega); (case hk => omega); (case hl => omega); (case he => with_unfolding_all rfl)); intro b9 hb9; (try dsimp only))
  k_with "L:call builtin:len" => (k_here; (with_reducible show wpAny _ _ (call (Value.builtin "len") [Value.ref _]) _ _ _); k_dflt (refine' ser_len ?hR ?hs ?F ?N ?hl ?_; (case hR => assumption); (case F => k_asm); (case N => k_asm); (case hs => kcf_all); (case hl => omega)); (try dsimp only))
  k_with "L:compareOp NotEq ref ref" => (k_here; (with_reducible show wpAny _ _ (compareOp CmpOp.NotEq (Value.ref _) (Value.ref _)) _ _ _); k_dflt (refine' rat_ne ?hR ?hs ?hR2 ?hs2 ?F ?X ?N ?hu ?_; (case hR => first | assumption | exact RatAt.zero (led := []) | exact RatAt.one (led := [])); (case hR2 => first | assumption | exact RatAt.zero (led := []) | exact RatAt.one (led := [])); (case F => k_asm); (case X => k_asm); (case N => k_asm); (case hs => kcf_all); (case hs2 => kcf_all); (case hu => ktr_units)); (try dsimp only))
  k_with "L:subscriptTail" => (k_here; (with_reducible show wpAny _ _ (subscriptTail _ _ (Value.ref _) (Value.int _ _)) _ _ _); k_dflt (refine' ov_item ?hR ?hs ?F ?N ?h0 ?hk ?hl ?_ ?he; (case hR => assumption); (case F => k_asm); (case N => k_asm); (case hs => kcf_all); (case h0 => omega); (case hk => omega); (case hl => omega); (case he => with_unfolding_all rfl)); intro b9 hb9; (try dsimp only))
  k_with "L:call builtin:len" => (k_here; (with_reducible show wpAny _ _ (call (Value.builtin "len") [Value.ref _]) _ _ _); k_dflt (refine' ov_len ?hR ?hs ?F ?N ?hl ?_; (case hR => assumption); (case F => k_asm); (case N => k_asm); (case hs => kcf_all); (case hl => omega)); (try dsimp only))
  k_with "L:ktr_unf" => ((case kA => exact rfl); (case kF => exact rfl); (case kK => first | exact rfl | assumption); (case k1 => k_asm); (case k2 => k_asm); (case k3 => k_asm); (case k4 => k_asm); (case k5 => k_asm); (case k6 => k_is); (case k7 => k_is); (case k8 => ktr_room); (case k9 => exact BindsTo.of_eq rfl); (case kB => exact rfl); (case kD => decide +kernel); (case c2 => exact rfl); (case c3 => exact rfl); (case c4 => exact rfl); k_whole)
  k_with "L:CompSrc" => (k_here; k_extra "CompSrc")
  k_with "L:eval ListComp" => (k_here; k_dflt (refine LCg.ListComp_U (F₀ := by k_asm) (by with_unfolding_all rfl) (by decide) (by rfl) (by decide) (by rfl) ?_))
  k_with "L:CompOut" => (k_dflt (refine' compOut_mk ?F ?N ?hO ?hA ?hs ?hn ?ht ?_; (case F => k_asm); (case N => k_asm); (case hO => assumption); (case hA => assumption); (case hs => kcf_all); (case hn => kcf_all); (case ht => kcf_all)))
  k_with "L:call ref" => (k_here; (with_reducible show wpAny _ _ (call (Value.ref 123) _) _ _ _); k_dflt (refine' mixed_use ?p0 ?p1 ?p2 ?p3 ?p4 ?p5 ?p6 ?p7 ?p8 ?p9 ?p10 ?p11 ?p12 ?k1 ?k2 ?k3 ?k4 ?k5 ?kK ?kd ?ku ?_; (case k1 => k_asm); (case k2 => k_asm); (case k3 => k_asm); (case k4 => k_asm); (case k5 => k_asm); (case kK => first | exact rfl | assumption); (case p0 => assumption); (case p1 => kcf_all); (case p2 => assumption); (case p3 => kcf_all); (case p4 => first | assumption | ((try dsimp only); first | assumption | omega) | solve_by_elim); (case p5 => first | assumption | ((try dsimp only); first | assumption | omega) | solve_by_elim); (case p6 => omega); (case p7 => omega); (case p8 => omega); (case p9 => first | assumption | ((try dsimp only); first | assumption | omega) | solve_by_elim); (case p10 => first | assumption | ((try dsimp only); first | assumption | omega) | solve_by_elim); (case p11 => first | assumption | ((try dsimp only); first | assumption | omega) | solve_by_elim); (case p12 => first | assumption | ((try dsimp only); first | assumption | omega) | solve_by_elim); (case kd => ktr_room); (case ku => ktr_units); k_whole); intro r9 tl9 h9 tk9 F9 N9 hA9 hO9; (obtain ⟨b8, e8⟩ := RatOut.ref hO9; subst e8; have hR9 := RatOut.at hO9 F9; (try dsimp only at hO9 hR9)); (try dsimp only); (try k_fold))
  k_with "L:call ref" => (k_here; (with_reducible show wpAny _ _ (call (Value.ref 106) _) _ _ _); k_dflt (refine' letq_use ?p0 ?p1 ?p2 ?p3 ?p4 ?k1 ?k2 ?k3 ?k4 ?k5 ?kK ?kd ?ku ?_; (case k1 => k_asm); (case k2 => k_asm); (case k3 => k_asm); (case k4 => k_asm); (case k5 => k_asm); (case kK => first | exact rfl | assumption); (case p0 => assumption); (case p1 => kcf_all); (case p2 => first | assumption | ((try dsimp only); first | assumption | omega) | solve_by_elim); (case p3 => first | assumption | ((try dsimp only); first | assumption | omega) | solve_by_elim); (case p4 => first | assumption | ((try dsimp only); first | assumption | omega) | solve_by_elim); (case kd => ktr_room); (case ku => ktr_units); k_whole); intro r9 tl9 h9 tk9 F9 N9 hA9 hO9; subst hO9; (try dsimp only); (try k_fold))
  revert X; k_fill; intro X
  k_dflt (refine' enterC (fun tl r => SerOut tl r (ov (d * e) (smulS ys zs))) ?k1 ?k2 ?k3 ?k4 ?k5 ?kA ?kF ?kK ?k6 ?k7 ?k8 ?k9 ?kB ?kD hret ?_ ?c2 ?c3 ?c4; ktr_unf)
  intro g' L' h' tk' cells' hg' F' N' Y' B' X' T'
  clear hret
  k_cells Y'
  (try simp only [List.cons_append, List.nil_append, List.append_nil] at N')
  have hp' : SerAt g' [] (.ref pa) (ov d ys) := (hp.mono hps).to F N hg'
  have hq' : SerAt g' [] (.ref pb) (ov e zs) := (hq.mono hqs).to F N hg'
  clear hp hps hq hqs
  have de0 : 0 < d * e := Int.mul_pos d0 e0
  (try dsimp only); (try k_fold)
  k_with "CompSrc" => (k_dflt (refine' LCg.CompSrc.range ?s1 ?s2 ?s3 ?s4 ?s5 ?s6 ?s7 ?_; (case s1 => rfl); (case s2 => k_asm); (case s3 => k_asm); (case s4 => assumption); (case s5 => exact small_one (by omega) (by omega) (by omega) (by omega)); (case s6 => exact rangeSize_nat _ _); (case s7 => (rw [PySem.sizeLine_eq]; omega))); intro g9; (k_dflt (refine' comp_rats (fun (i : Nat) => (conv ys zs (0 + (i : Int)) (0 + (i : Int) + 1).toNat, d * e)) (fun _ => True.intro) (fun i' v' I' oI' C' oC' D' m' ys' h' tk' tl' E' hi' hP' hC' hx' F' N' => ?cturn) (fun ys' tl' hO' => ?cfin))); (case' cturn => (obtain ⟨t', hv'⟩ := hP'; subst hv')); (case' cfin => (have hl9 := RatsOut.length hO'; simp only [List.length_map, List.length_range] at hl9)); (all_goals (try k_fold)))
  k_steps
  all_goals (first
    | exact rfl
    | (show SerOut _ _ _; rw [← smul_items]; exact SerOut.lst hO' (by kcf_all) (by k_mem))
    | trace_state)

end
end Mine

namespace Mine
open PySem.Calls PySem.Spec
def addS (ys zs : List Int) : List Int := (List.range (min ys.length zs.length)).map fun (i : Nat) => ys.getD (0 + (i : Int)).toNat 0 + zs.getD (0 + (i : Int)).toNat 0
theorem add_items (d : Int) (ys zs : List Int) : (List.range ((if (zs.length : Int) < (ys.length : Int) then (zs.length : Int) else (ys.length : Int)) - 0).toNat).map (fun (i : Nat) => (ys.getD (0 + (i : Int)).toNat 0 + zs.getD (0 + (i : Int)).toNat 0, d)) = ov d (addS ys zs) := by
  rw [min_len, ov, addS, List.map_map]; rfl
theorem add_leaf {x y d : Int} (d0 : 0 < d) : red (x * d + y * d, d * d) = red (x + y, d) := by
  refine red_of_cross (Int.mul_pos d0 d0) d0 ?_
  simp only
  grind
def derP (ps : List (Int × Int)) : List (Int × Int) := (List.range (ps.length - 1)).map fun (i : Nat) => ((1 + (i : Int)) * (ps.getD (1 + (i : Int)).toNat (0, 1)).1, 1 * (ps.getD (1 + (i : Int)).toNat (0, 1)).2)
theorem der_items (ps : List (Int × Int)) : (List.range ((ps.length : Int) - 1).toNat).map (fun (i : Nat) => ((1 + (i : Int)) * (ps.getD (1 + (i : Int)).toNat (0, 1)).1, 1 * (ps.getD (1 + (i : Int)).toNat (0, 1)).2)) = derP ps := by
  rw [derP]; congr 2; omega
def intP (ps : List (Int × Int)) : List (Int × Int) := (0, 1) :: (List.range ps.length).map fun (i : Nat) => ((ps.getD (0 + (i : Int)).toNat (0, 1)).1 * 1, (ps.getD (0 + (i : Int)).toNat (0, 1)).2 * (0 + (i : Int) + 1))
theorem ratAt_int {g : Heap} {led : List (Addr × Obj)} {v : Value} {x : Int} (h : RatAt g led v (x, 1)) : RatAt g led v (red (x, 1)) := by rw [red_int]; exact h
theorem made_of {h₀ h : Heap} {L : Addr} {led : List (Addr × Obj)} {a : Addr} {x y : Int} {t u : Tok} (_N : News h₀ L h led) (hm : (a, tupOf x y t u) ∈ led) : RatAt h₀ led (.ref a) (x, y) := .made hm
section
variable {w : World} {mean : ExcName → Option Value} {mg mb : Str → Option Value} {dp un : Nat} {gd : Option (List Code)} {cn : Str} {cs : Scope} {a : Addr} {ccd : Value} {cl : List (Str × Addr)} {outer : List Env} {A₀ : Around} {base h₀ : Heap} {L : Addr} {m : Str → Option Value} {news : List (Addr × Obj)} {s : Shared} {Q E : Value → Shared → Prop}
set_option maxHeartbeats 4000000 in
theorem sadd_use {pa pb : Addr} {ys zs : List Int} {d : Int} {n₁ n₂ : List (Addr × Obj)} (hp : SerAt h₀ n₁ (.ref pa) (ov d ys)) (hps : ∀ z ∈ n₁, z ∈ news) (hq : SerAt h₀ n₂ (.ref pb) (ov d zs)) (hqs : ∀ z ∈ n₂, z ∈ news) (hl : ys.length ≤ 100) (hl₂ : zs.length ≤ 100) (d0 : 0 < d) (d1 : d ≤ 32000) (B : Below A₀ base outer h₀) (F : Fr h₀ L s.heap m) (X : (hd.heap_39 w.params).In h₀) (N : News h₀ L s.heap news) (T : Top hd.view_39 (looseW hd.view_39 []) mean mg mb h₀) (hk : cs.kind = .function)
    (hdp : dp + 4 < recursionLimit) (hun : un + 32 + 64 < cLine)
    (hret : ∀ r tl h' tk', Fr h₀ L h' m → News h₀ L h' (news ++ tl) → Apart news tl → SerOut tl r (ov d (addS ys zs)) → Q r { s with heap := h', toks := tk' }) :
    wpAny (model PySem.Challenge.rw_tk0030_01.row.prog w) (ktrTop dp un gd cn cs L a ccd cl outer) (call (.ref 111) [.ref pa, .ref pb]) Q E s := by
  k_with_none
  w_top off
  k_with "L:ktn_open" => ((case kA => exact rfl); (case kF => exact rfl); (case kK => first | exact rfl | assumption); (case k1 => k_asm); (case k2 => k_asm); (case k3 => k_asm); (case k4 => k_asm); (case k5 => k_asm); (case k6 => k_is); (case k7 => k_is); (case k8 => ktr_room); (case k9 => exact BindsTo.of_eq rfl); (case c5 => decide); (case kB => exact locs rfl); (case c2 => exact rfl); (case c3 => exact rfl); (case c4 => exact rfl); k_whole)
  k_with "L:exec For Name Call cons nil" => (k_here; (rename Fr _ _ _ _ => lF'); (with_unfolding_all refine' For_invVF lF' ?k1 ?k2 ?_; (case k1 => exact rfl); (case k2 => exact rfl); k_whole))
  k_with "L:pyIter ref" => (k_here; k_extra "pyIter ref")
  k_with "L:RetOf" => (k_dflt (refine' retOf_mk ?rF ?rN ?_; (case rF => k_asm); (case rN => k_asm)); (try dsimp only))
  k_with "L:subscriptTail" => (k_here; (first | ((with_reducible show wpAny _ _ (subscriptTail _ _ (Value.ref _) (Value.int 0 _)) _ _ _); k_dflt (refine' rat_item0 ?hR ?hs ?F ?X ?N ?_ ?he; (case hR => assumption); (case F => k_asm); (case X => k_asm); (case N => k_asm); (case hs => kcf_all); (case he => with_unfolding_all rfl))) | ((with_reducible show wpAny _ _ (subscriptTail _ _ (Value.ref _) (Value.int 1 _)) _ _ _); k_dflt (refine' rat_item1 ?hR ?hs ?F ?X ?N ?_ ?he; (case hR => assumption); (case F => k_asm); (case X => k_asm); (case N => k_asm); (case hs => kcf_all); (case he => with_unfolding_all rfl)))); intro t9; (try dsimp only))
  k_with "L:subscriptTail" => (k_here; (with_reducible show wpAny _ _ (subscriptTail _ _ (Value.ref _) (Value.int _ _)) _ _ _); k_dflt (refine' ser_item ?hR ?hs ?F ?N ?h0 ?hk ?hl ?_ ?he; (case hR => assumption); (case F => k_asm); (case N => k_asm); (case hs => kcf_all); (case h0 => omega); (case hk => omega); (case hl => omega); (case he => with_unfolding_all rfl)); intro b9 hb9; (try dsimp only))
  k_with "L:call builtin:len" => (k_here; (with_reducible show wpAny _ _ (call (Value.builtin "len") [Value.ref _]) _ _ _); k_dflt (refine' ser_len ?hR ?hs ?F ?N ?hl ?_; (case hR => assumption); (case F => k_asm); (case N => k_asm); (case hs => kcf_all); (case hl => omega)); (try dsimp only))
  k_with "L:compareOp NotEq ref ref" => (k_here; (with_reducible show wpAny _ _ (compareOp CmpOp.NotEq (Value.ref _) (Value.ref _)) _ _ _); k_dflt (refine' rat_ne ?hR ?hs ?hR2 ?hs2 ?F ?X ?N ?hu ?_; (case hR => first | assumption | exact RatAt.zero (led := []) | exact RatAt.one (led := [])); (case hR2 => first | assumption | exact RatAt.zero (led := []) | exact RatAt.one (led := [])); (case F => k_asm); (case X => k_asm); (case N => k_asm); (case hs => kcf_all); (case hs2 => kcf_all); (case hu => ktr_units)); (try dsimp only))
  k_with "L:subscriptTail" => (k_here; (with_reducible show wpAny _ _ (subscriptTail _ _ (Value.ref _) (Value.int _ _)) _ _ _); k_dflt (refine' ov_item ?hR ?hs ?F ?N ?h0 ?hk ?hl ?_ ?he; (case hR => assumption); (case F => k_asm); (case N => k_asm); (case hs => kcf_all); (case h0 => omega); (case hk => omega); (case hl => omega); (case he => with_unfolding_all rfl)); intro b9 hb9; (try dsimp only))
  k_with "L:call builtin:len" => (k_here; (with_reducible show wpAny _ _ (call (Value.builtin "len") [Value.ref _]) _ _ _); k_dflt (refine' ov_len ?hR ?hs ?F ?N ?hl ?_; (case hR => assumption); (case F => k_asm); (case N => k_asm); (case hs => kcf_all); (case hl => omega)); (try dsimp only))
  k_with "L:ktr_unf" => ((case kA => exact rfl); (case kF => exact rfl); (case kK => first | exact rfl | assumption); (case k1 => k_asm); (case k2 => k_asm); (case k3 => k_asm); (case k4 => k_asm); (case k5 => k_asm); (case k6 => k_is); (case k7 => k_is); (case k8 => ktr_room); (case k9 => exact BindsTo.of_eq rfl); (case kB => exact rfl); (case kD => decide +kernel); (case c2 => exact rfl); (case c3 => exact rfl); (case c4 => exact rfl); k_whole)
  k_with "L:CompSrc" => (k_here; k_extra "CompSrc")
  k_with "L:eval ListComp" => (k_here; k_dflt (refine LCg.ListComp_U (F₀ := by k_asm) (by with_unfolding_all rfl) (by decide) (by rfl) (by decide) (by rfl) ?_))
  k_with "L:CompOut" => (k_dflt (refine' compOut_mk ?F ?N ?hO ?hA ?hs ?hn ?ht ?_; (case F => k_asm); (case N => k_asm); (case hO => assumption); (case hA => assumption); (case hs => kcf_all); (case hn => kcf_all); (case ht => kcf_all)))
  k_with "L:call ref" => (k_here; (with_reducible show wpAny _ _ (call (Value.ref 64) _) _ _ _); k_dflt (refine' raddq_use ?p0 ?p1 ?p2 ?p3 ?p4 ?p5 ?p6 ?k1 ?k2 ?k3 ?k4 ?k5 ?kK ?kd ?ku ?_; (case k1 => k_asm); (case k2 => k_asm); (case k3 => k_asm); (case k4 => k_asm); (case k5 => k_asm); (case kK => first | exact rfl | assumption); (case p0 => assumption); (case p1 => kcf_all); (case p2 => assumption); (case p3 => kcf_all); (case p4 => first | omega | (dsimp only; omega) | with_reducible assumption | (dsimp only; with_reducible assumption) | solve_by_elim | (dsimp only; solve_by_elim)); (case p5 => first | omega | (dsimp only; omega) | with_reducible assumption | (dsimp only; with_reducible assumption) | solve_by_elim | (dsimp only; solve_by_elim)); (case p6 => first | omega | (dsimp only; omega) | with_reducible assumption | (dsimp only; with_reducible assumption) | solve_by_elim | (dsimp only; solve_by_elim)); (case kd => ktr_room); (case ku => ktr_units); k_whole); intro r9 tl9 h9 tk9 F9 N9 hA9 hO9; (obtain ⟨b8, e8⟩ := RatOut.ref hO9; subst e8; have hR9 := RatOut.at hO9 F9; (try dsimp only at hO9 hR9)); (try dsimp only); (try k_fold))
  revert X; k_fill; intro X
  k_dflt (refine' enterC (fun tl r => SerOut tl r (ov d (addS ys zs))) ?k1 ?k2 ?k3 ?k4 ?k5 ?kA ?kF ?kK ?k6 ?k7 ?k8 ?k9 ?kB ?kD hret ?_ ?c2 ?c3 ?c4; ktr_unf)
  intro g' L' h' tk' cells' hg' F' N' Y' B' X' T'
  clear hret
  k_cells Y'
  (try simp only [List.cons_append, List.nil_append, List.append_nil] at N')
  have hp' : SerAt g' [] (.ref pa) (ov d ys) := (hp.mono hps).to F N hg'
  have hq' : SerAt g' [] (.ref pb) (ov d zs) := (hq.mono hqs).to F N hg'
  clear hp hps hq hqs
  have dd : d * d < 1073741824 := by
    have := Int.mul_le_mul d1 d1 (by omega) (by omega)
    omega
  (try dsimp only); (try k_fold)
  k_with "CompSrc" => (k_dflt (refine' LCg.CompSrc.range ?s1 ?s2 ?s3 ?s4 ?s5 ?s6 ?s7 ?_; (case s1 => rfl); (case s2 => k_asm); (case s3 => k_asm); (case s4 => assumption); (case s5 => exact small_one (by omega) (by omega) (by omega) (by omega)); (case s6 => exact rangeSize_nat _ _); (case s7 => (rw [PySem.sizeLine_eq]; omega))); intro g9; (k_dflt (refine' comp_rats (fun (i : Nat) => (ys.getD (0 + (i : Int)).toNat 0 + zs.getD (0 + (i : Int)).toNat 0, d)) (fun _ => True.intro) (fun i' v' I' oI' C' oC' D' m' ys' h' tk' tl' E' hi' hP' hC' hx' F' N' => ?cturn) (fun ys' tl' hO' => ?cfin))); (case' cturn => (obtain ⟨t', hv'⟩ := hP'; subst hv')); (case' cfin => (have hl9 := RatsOut.length hO'; simp only [List.length_map, List.length_range] at hl9)); (all_goals (try k_fold)))
  k_steps
  all_goals (first
    | exact add_leaf d0
    | (show SerOut _ _ _; rw [← add_items]; exact SerOut.lst hO' (by kcf_all) (by k_mem))
    | trace_state)

set_option maxHeartbeats 4000000 in
theorem sderive_use {pa : Addr} {ps : List (Int × Int)} {n₁ : List (Addr × Obj)} (hp : SerAt h₀ n₁ (.ref pa) ps) (hps : ∀ z ∈ n₁, z ∈ news) (hl : ps.length ≤ 100) (hl1 : 1 ≤ ps.length) (hq0 : ∀ i, 0 < (ps.getD i (0, 1)).2) (hq1 : ∀ i, 1 * (ps.getD i (0, 1)).2 < 1073741824) (B : Below A₀ base outer h₀) (F : Fr h₀ L s.heap m) (X : (hd.heap_39 w.params).In h₀) (N : News h₀ L s.heap news) (T : Top hd.view_39 (looseW hd.view_39 []) mean mg mb h₀) (hk : cs.kind = .function)
    (hdp : dp + 4 < recursionLimit) (hun : un + 32 + 64 < cLine)
    (hret : ∀ r tl h' tk', Fr h₀ L h' m → News h₀ L h' (news ++ tl) → Apart news tl → SerOut tl r (derP ps) → Q r { s with heap := h', toks := tk' }) :
    wpAny (model PySem.Challenge.rw_tk0030_01.row.prog w) (ktrTop dp un gd cn cs L a ccd cl outer) (call (.ref 133) [.ref pa]) Q E s := by
  k_with_none
  w_top off
  k_with "L:ktn_open" => ((case kA => exact rfl); (case kF => exact rfl); (case kK => first | exact rfl | assumption); (case k1 => k_asm); (case k2 => k_asm); (case k3 => k_asm); (case k4 => k_asm); (case k5 => k_asm); (case k6 => k_is); (case k7 => k_is); (case k8 => ktr_room); (case k9 => exact BindsTo.of_eq rfl); (case c5 => decide); (case kB => exact locs rfl); (case c2 => exact rfl); (case c3 => exact rfl); (case c4 => exact rfl); k_whole)
  k_with "L:exec For Name Call cons nil" => (k_here; (rename Fr _ _ _ _ => lF'); (with_unfolding_all refine' For_invVF lF' ?k1 ?k2 ?_; (case k1 => exact rfl); (case k2 => exact rfl); k_whole))
  k_with "L:pyIter ref" => (k_here; k_extra "pyIter ref")
  k_with "L:RetOf" => (k_dflt (refine' retOf_mk ?rF ?rN ?_; (case rF => k_asm); (case rN => k_asm)); (try dsimp only))
  k_with "L:subscriptTail" => (k_here; (first | ((with_reducible show wpAny _ _ (subscriptTail _ _ (Value.ref _) (Value.int 0 _)) _ _ _); k_dflt (refine' rat_item0 ?hR ?hs ?F ?X ?N ?_ ?he; (case hR => assumption); (case F => k_asm); (case X => k_asm); (case N => k_asm); (case hs => kcf_all); (case he => with_unfolding_all rfl))) | ((with_reducible show wpAny _ _ (subscriptTail _ _ (Value.ref _) (Value.int 1 _)) _ _ _); k_dflt (refine' rat_item1 ?hR ?hs ?F ?X ?N ?_ ?he; (case hR => assumption); (case F => k_asm); (case X => k_asm); (case N => k_asm); (case hs => kcf_all); (case he => with_unfolding_all rfl)))); intro t9; (try dsimp only))
  k_with "L:subscriptTail" => (k_here; (with_reducible show wpAny _ _ (subscriptTail _ _ (Value.ref _) (Value.int _ _)) _ _ _); k_dflt (refine' ser_item ?hR ?hs ?F ?N ?h0 ?hk ?hl ?_ ?he; (case hR => assumption); (case F => k_asm); (case N => k_asm); (case hs => kcf_all); (case h0 => omega); (case hk => omega); (case hl => omega); (case he => with_unfolding_all rfl)); intro b9 hb9; (try dsimp only))
  k_with "L:call builtin:len" => (k_here; (with_reducible show wpAny _ _ (call (Value.builtin "len") [Value.ref _]) _ _ _); k_dflt (refine' ser_len ?hR ?hs ?F ?N ?hl ?_; (case hR => assumption); (case F => k_asm); (case N => k_asm); (case hs => kcf_all); (case hl => omega)); (try dsimp only))
  k_with "L:compareOp NotEq ref ref" => (k_here; (with_reducible show wpAny _ _ (compareOp CmpOp.NotEq (Value.ref _) (Value.ref _)) _ _ _); k_dflt (refine' rat_ne ?hR ?hs ?hR2 ?hs2 ?F ?X ?N ?hu ?_; (case hR => first | assumption | exact RatAt.zero (led := []) | exact RatAt.one (led := [])); (case hR2 => first | assumption | exact RatAt.zero (led := []) | exact RatAt.one (led := [])); (case F => k_asm); (case X => k_asm); (case N => k_asm); (case hs => kcf_all); (case hs2 => kcf_all); (case hu => ktr_units)); (try dsimp only))
  k_with "L:subscriptTail" => (k_here; (with_reducible show wpAny _ _ (subscriptTail _ _ (Value.ref _) (Value.int _ _)) _ _ _); k_dflt (refine' ov_item ?hR ?hs ?F ?N ?h0 ?hk ?hl ?_ ?he; (case hR => assumption); (case F => k_asm); (case N => k_asm); (case hs => kcf_all); (case h0 => omega); (case hk => omega); (case hl => omega); (case he => with_unfolding_all rfl)); intro b9 hb9; (try dsimp only))
  k_with "L:call builtin:len" => (k_here; (with_reducible show wpAny _ _ (call (Value.builtin "len") [Value.ref _]) _ _ _); k_dflt (refine' ov_len ?hR ?hs ?F ?N ?hl ?_; (case hR => assumption); (case F => k_asm); (case N => k_asm); (case hs => kcf_all); (case hl => omega)); (try dsimp only))
  k_with "L:ktr_unf" => ((case kA => exact rfl); (case kF => exact rfl); (case kK => first | exact rfl | assumption); (case k1 => k_asm); (case k2 => k_asm); (case k3 => k_asm); (case k4 => k_asm); (case k5 => k_asm); (case k6 => k_is); (case k7 => k_is); (case k8 => ktr_room); (case k9 => exact BindsTo.of_eq rfl); (case kB => exact rfl); (case kD => decide +kernel); (case c2 => exact rfl); (case c3 => exact rfl); (case c4 => exact rfl); k_whole)
  k_with "L:CompSrc" => (k_here; k_extra "CompSrc")
  k_with "L:eval ListComp" => (k_here; k_dflt (refine LCg.ListComp_U (F₀ := by k_asm) (by with_unfolding_all rfl) (by decide) (by rfl) (by decide) (by rfl) ?_))
  k_with "L:CompOut" => (k_dflt (refine' compOut_mk ?F ?N ?hO ?hA ?hs ?hn ?ht ?_; (case F => k_asm); (case N => k_asm); (case hO => assumption); (case hA => assumption); (case hs => kcf_all); (case hn => kcf_all); (case ht => kcf_all)))
  k_with "L:call ref" => (k_here; (with_reducible show wpAny _ _ (call (Value.ref 64) _) _ _ _); k_dflt (refine' raddq_use ?p0 ?p1 ?p2 ?p3 ?p4 ?p5 ?p6 ?k1 ?k2 ?k3 ?k4 ?k5 ?kK ?kd ?ku ?_; (case k1 => k_asm); (case k2 => k_asm); (case k3 => k_asm); (case k4 => k_asm); (case k5 => k_asm); (case kK => first | exact rfl | assumption); (case p0 => assumption); (case p1 => kcf_all); (case p2 => assumption); (case p3 => kcf_all); (case p4 => first | omega | (dsimp only; omega) | with_reducible assumption | (dsimp only; with_reducible assumption) | solve_by_elim | (dsimp only; solve_by_elim)); (case p5 => first | omega | (dsimp only; omega) | with_reducible assumption | (dsimp only; with_reducible assumption) | solve_by_elim | (dsimp only; solve_by_elim)); (case p6 => first | omega | (dsimp only; omega) | with_reducible assumption | (dsimp only; with_reducible assumption) | solve_by_elim | (dsimp only; solve_by_elim)); (case kd => ktr_room); (case ku => ktr_units); k_whole); intro r9 tl9 h9 tk9 F9 N9 hA9 hO9; (obtain ⟨b8, e8⟩ := RatOut.ref hO9; subst e8; have hR9 := RatOut.at hO9 F9; (try dsimp only at hO9 hR9)); (try dsimp only); (try k_fold))
  k_with "L:call ref" => (k_here; (with_reducible show wpAny _ _ (call (Value.ref 71) _) _ _ _); k_dflt (refine' rmulq_use ?p0 ?p1 ?p2 ?p3 ?p4 ?p5 ?p6 ?p7 ?k1 ?k2 ?k3 ?k4 ?k5 ?kK ?kd ?ku ?_; (case k1 => k_asm); (case k2 => k_asm); (case k3 => k_asm); (case k4 => k_asm); (case k5 => k_asm); (case kK => first | exact rfl | assumption); (case p0 => first | assumption | exact ratAt_int (made_of (by assumption) (by k_mem))); (case p1 => kcf_all); (case p2 => assumption); (case p3 => kcf_all); (case p4 => first | omega | (dsimp only; omega) | with_reducible assumption | (dsimp only; with_reducible assumption) | solve_by_elim | (dsimp only; solve_by_elim)); (case p5 => first | omega | (dsimp only; omega) | with_reducible assumption | (dsimp only; with_reducible assumption) | solve_by_elim | (dsimp only; solve_by_elim)); (case p6 => first | omega | (dsimp only; omega) | with_reducible assumption | (dsimp only; with_reducible assumption) | solve_by_elim | (dsimp only; solve_by_elim)); (case p7 => first | with_reducible assumption | exact ⟨by dsimp only; omega, by dsimp only; omega⟩ | solve_by_elim); (case kd => ktr_room); (case ku => ktr_units); k_whole); intro r9 tl9 h9 tk9 F9 N9 hA9 hO9; (obtain ⟨b8, e8⟩ := RatOut.ref hO9; subst e8; have hR9 := RatOut.at hO9 F9; (try dsimp only at hO9 hR9)); (try dsimp only); (try k_fold))
  revert X; k_fill; intro X
  k_dflt (refine' enterC (fun tl r => SerOut tl r (derP ps)) ?k1 ?k2 ?k3 ?k4 ?k5 ?kA ?kF ?kK ?k6 ?k7 ?k8 ?k9 ?kB ?kD hret ?_ ?c2 ?c3 ?c4; ktr_unf)
  intro g' L' h' tk' cells' hg' F' N' Y' B' X' T'
  clear hret
  k_cells Y'
  (try simp only [List.cons_append, List.nil_append, List.append_nil] at N')
  have hp' : SerAt g' [] (.ref pa) ps := (hp.mono hps).to F N hg'
  clear hp hps
  (try dsimp only); (try k_fold)
  k_with "CompSrc" => (k_dflt (refine' LCg.CompSrc.range ?s1 ?s2 ?s3 ?s4 ?s5 ?s6 ?s7 ?_; (case s1 => rfl); (case s2 => k_asm); (case s3 => k_asm); (case s4 => assumption); (case s5 => exact small_one (by omega) (by omega) (by omega) (by omega)); (case s6 => exact rangeSize_nat _ _); (case s7 => (rw [PySem.sizeLine_eq]; omega))); intro g9; (k_dflt (refine' comp_rats (fun (i : Nat) => ((1 + (i : Int)) * (ps.getD (1 + (i : Int)).toNat (0, 1)).1, 1 * (ps.getD (1 + (i : Int)).toNat (0, 1)).2)) (fun _ => True.intro) (fun i' v' I' oI' C' oC' D' m' ys' h' tk' tl' E' hi' hP' hC' hx' F' N' => ?cturn) (fun ys' tl' hO' => ?cfin))); (case' cturn => (obtain ⟨t', hv'⟩ := hP'; subst hv')); (case' cfin => (have hl9 := RatsOut.length hO'; simp only [List.length_map, List.length_range] at hl9)); (all_goals (try k_fold)))
  k_steps
  all_goals (first
    | exact rfl
    | (show SerOut _ _ _; rw [← der_items]; exact SerOut.lst hO' (by kcf_all) (by k_mem))
    | trace_state)

end
end Mine

namespace Mine
open PySem.Calls PySem.Spec
def scaS (c : Int) (ys : List Int) : List Int := (List.range ys.length).map fun (i : Nat) => c * ys.getD i 0
theorem sca_items (c d : Int) (ys : List Int) : (List.range ys.length).map (fun (i : Nat) => (c * ys.getD i 0, 1 * d)) = ov d (scaS c ys) := by
  rw [ov, scaS, List.map_map, Int.one_mul]; rfl
theorem int_items (ps : List (Int × Int)) : (0, 1) :: (List.range ((ps.length : Int) - 0).toNat).map (fun (i : Nat) => ((ps.getD (0 + (i : Int)).toNat (0, 1)).1 * 1, (ps.getD (0 + (i : Int)).toNat (0, 1)).2 * (0 + (i : Int) + 1))) = intP ps := by
  have e : ((ps.length : Int) - 0).toNat = ps.length := by lia
  rw [intP, e]
theorem SerAt.nil_base {g : Heap} {a : Addr} {ps : List (Int × Int)} (h : SerAt g [] (.ref a) ps) : ∃ vs n, g.get? a = some (listOf vs.toArray n) ∧ RatsAt g [] vs ps := by
  cases h with
  | base h r => exact ⟨_, _, h, r⟩
  | made h _ => exact nomatch h
theorem ov_rats {g : Heap} {led : List (Addr × Obj)} {vs : List Value} {d : Int} {ys : List Int} {i : Nat} {v : Value} (h : RatsAt g led vs (ov d ys)) (hv : vs.toArray[i]? = some v) : ∃ a, v = .ref a ∧ RatAt g led (.ref a) (red (ys.getD i 0, d)) := by
  have hl := h.length
  have hv' : vs[i]? = some v := by simpa using hv
  have hi : i < (ov d ys).length := by
    rw [← hl]
    exact (List.getElem?_eq_some_iff.mp hv').1
  obtain ⟨a, ha, hR⟩ := h.get hi
  rw [hv'] at ha
  rw [ov_get (by rwa [ov_length] at hi)] at hR
  exact ⟨a, Option.some.inj ha, hR⟩
section
variable {w : World} {mean : ExcName → Option Value} {mg mb : Str → Option Value} {dp un : Nat} {gd : Option (List Code)} {cn : Str} {cs : Scope} {a : Addr} {ccd : Value} {cl : List (Str × Addr)} {outer : List Env} {A₀ : Around} {base h₀ : Heap} {L : Addr} {m : Str → Option Value} {news : List (Addr × Obj)} {s : Shared} {Q E : Value → Shared → Prop}
theorem rdivq_use {pa qa : Addr} {p q : Int × Int} {n₁ n₂ : List (Addr × Obj)} (hp : RatAt h₀ n₁ (.ref pa) (red p)) (hps : ∀ z ∈ n₁, z ∈ news) (hq : RatAt h₀ n₂ (.ref qa) (red q)) (hqs : ∀ z ∈ n₂, z ∈ news) (b0 : 0 < p.2) (b1 : 0 < q.2) (b6 : 0 < q.1) (b2 : p.2 * q.1 < 1073741824) (b3 : Bd p.1) (B : Below A₀ base outer h₀) (F : Fr h₀ L s.heap m) (X : (hd.heap_39 w.params).In h₀) (N : News h₀ L s.heap news) (T : Top hd.view_39 (looseW hd.view_39 []) mean mg mb h₀) (hk : cs.kind = .function)
    (hdp : dp + 3 < recursionLimit) (hun : un + 24 + 64 < cLine)
    (hret : ∀ r tl h' tk', Fr h₀ L h' m → News h₀ L h' (news ++ tl) → Apart news tl → RatOut tl r (red (p.1 * q.2, p.2 * q.1)) → Q r { s with heap := h', toks := tk' }) :
    wpAny (model PySem.Challenge.rw_tk0030_01.row.prog w) (ktrTop dp un gd cn cs L a ccd cl outer) (call (.ref 78) [.ref pa, .ref qa]) Q E s := by
  have h1 := red_pos b0
  have h2 := red_le b0
  have h3 := red_top_pos b1 b6
  have h4 : (red q).1 ≤ q.1 := by have := (red_top b1 (q.1 + 1) (by lia) (by lia)).2; lia
  have h5 : (red p).2 * (red q).1 ≤ p.2 * q.1 := Int.mul_le_mul h2 h4 (by lia) (by lia)
  have h6 : (red p).2 * 1 ≤ (red p).2 * (red q).1 := Int.mul_le_mul_of_nonneg_left (by lia) (by lia)
  exact rdiv_use hp hps hq hqs h3 (red_top b0 _ b3.1 b3.2).2 (red_top b0 _ b3.1 b3.2).1 h1 (by lia) (by lia) (Int.mul_pos h1 h3) B F X N T hk hdp hun fun r tl h' tk' F' N' hA hO => hret r tl h' tk' F' N' hA (red_div b0 b1 b6 ▸ hO)
set_option maxHeartbeats 4000000 in
theorem sscale_use {pa pb : Addr} {c d : Int} {ys : List Int} {n₁ n₂ : List (Addr × Obj)} (hp : RatAt h₀ n₁ (.ref pa) (c, 1)) (hps : ∀ z ∈ n₁, z ∈ news) (hq : SerAt h₀ n₂ (.ref pb) (ov d ys)) (hqs : ∀ z ∈ n₂, z ∈ news) (hl : ys.length ≤ 100) (hc : Bd c) (d0 : 0 < d) (d1 : 1 * d < 1073741824) (B : Below A₀ base outer h₀) (F : Fr h₀ L s.heap m) (X : (hd.heap_39 w.params).In h₀) (N : News h₀ L s.heap news) (T : Top hd.view_39 (looseW hd.view_39 []) mean mg mb h₀) (hk : cs.kind = .function)
    (hdp : dp + 4 < recursionLimit) (hun : un + 32 + 64 < cLine)
    (hret : ∀ r tl h' tk', Fr h₀ L h' m → News h₀ L h' (news ++ tl) → Apart news tl → SerOut tl r (ov d (scaS c ys)) → Q r { s with heap := h', toks := tk' }) :
    wpAny (model PySem.Challenge.rw_tk0030_01.row.prog w) (ktrTop dp un gd cn cs L a ccd cl outer) (call (.ref 116) [.ref pa, .ref pb]) Q E s := by
  k_with_none
  w_top off
  k_with "L:ktn_open" => ((case kA => exact rfl); (case kF => exact rfl); (case kK => first | exact rfl | assumption); (case k1 => k_asm); (case k2 => k_asm); (case k3 => k_asm); (case k4 => k_asm); (case k5 => k_asm); (case k6 => k_is); (case k7 => k_is); (case k8 => ktr_room); (case k9 => exact BindsTo.of_eq rfl); (case c5 => decide); (case kB => exact locs rfl); (case c2 => exact rfl); (case c3 => exact rfl); (case c4 => exact rfl); k_whole)
  k_with "L:exec For Name Call cons nil" => (k_here; (rename Fr _ _ _ _ => lF'); (with_unfolding_all refine' For_invVF lF' ?k1 ?k2 ?_; (case k1 => exact rfl); (case k2 => exact rfl); k_whole))
  k_with "L:pyIter ref" => (k_here; k_extra "pyIter ref")
  k_with "L:RetOf" => (k_dflt (refine' retOf_mk ?rF ?rN ?_; (case rF => k_asm); (case rN => k_asm)); (try dsimp only))
  k_with "L:subscriptTail" => (k_here; (first | ((with_reducible show wpAny _ _ (subscriptTail _ _ (Value.ref _) (Value.int 0 _)) _ _ _); k_dflt (refine' rat_item0 ?hR ?hs ?F ?X ?N ?_ ?he; (case hR => assumption); (case F => k_asm); (case X => k_asm); (case N => k_asm); (case hs => kcf_all); (case he => with_unfolding_all rfl))) | ((with_reducible show wpAny _ _ (subscriptTail _ _ (Value.ref _) (Value.int 1 _)) _ _ _); k_dflt (refine' rat_item1 ?hR ?hs ?F ?X ?N ?_ ?he; (case hR => assumption); (case F => k_asm); (case X => k_asm); (case N => k_asm); (case hs => kcf_all); (case he => with_unfolding_all rfl)))); intro t9; (try dsimp only))
  k_with "L:subscriptTail" => (k_here; (with_reducible show wpAny _ _ (subscriptTail _ _ (Value.ref _) (Value.int _ _)) _ _ _); k_dflt (refine' ser_item ?hR ?hs ?F ?N ?h0 ?hk ?hl ?_ ?he; (case hR => assumption); (case F => k_asm); (case N => k_asm); (case hs => kcf_all); (case h0 => omega); (case hk => omega); (case hl => omega); (case he => with_unfolding_all rfl)); intro b9 hb9; (try dsimp only))
  k_with "L:call builtin:len" => (k_here; (with_reducible show wpAny _ _ (call (Value.builtin "len") [Value.ref _]) _ _ _); k_dflt (refine' ser_len ?hR ?hs ?F ?N ?hl ?_; (case hR => assumption); (case F => k_asm); (case N => k_asm); (case hs => kcf_all); (case hl => omega)); (try dsimp only))
  k_with "L:compareOp NotEq ref ref" => (k_here; (with_reducible show wpAny _ _ (compareOp CmpOp.NotEq (Value.ref _) (Value.ref _)) _ _ _); k_dflt (refine' rat_ne ?hR ?hs ?hR2 ?hs2 ?F ?X ?N ?hu ?_; (case hR => first | assumption | exact RatAt.zero (led := []) | exact RatAt.one (led := [])); (case hR2 => first | assumption | exact RatAt.zero (led := []) | exact RatAt.one (led := [])); (case F => k_asm); (case X => k_asm); (case N => k_asm); (case hs => kcf_all); (case hs2 => kcf_all); (case hu => ktr_units)); (try dsimp only))
  k_with "L:subscriptTail" => (k_here; (with_reducible show wpAny _ _ (subscriptTail _ _ (Value.ref _) (Value.int _ _)) _ _ _); k_dflt (refine' ov_item ?hR ?hs ?F ?N ?h0 ?hk ?hl ?_ ?he; (case hR => assumption); (case F => k_asm); (case N => k_asm); (case hs => kcf_all); (case h0 => omega); (case hk => omega); (case hl => omega); (case he => with_unfolding_all rfl)); intro b9 hb9; (try dsimp only))
  k_with "L:call builtin:len" => (k_here; (with_reducible show wpAny _ _ (call (Value.builtin "len") [Value.ref _]) _ _ _); k_dflt (refine' ov_len ?hR ?hs ?F ?N ?hl ?_; (case hR => assumption); (case F => k_asm); (case N => k_asm); (case hs => kcf_all); (case hl => omega)); (try dsimp only))
  k_with "L:ktr_unf" => ((case kA => exact rfl); (case kF => exact rfl); (case kK => first | exact rfl | assumption); (case k1 => k_asm); (case k2 => k_asm); (case k3 => k_asm); (case k4 => k_asm); (case k5 => k_asm); (case k6 => k_is); (case k7 => k_is); (case k8 => ktr_room); (case k9 => exact BindsTo.of_eq rfl); (case kB => exact rfl); (case kD => decide +kernel); (case c2 => exact rfl); (case c3 => exact rfl); (case c4 => exact rfl); k_whole)
  k_with "L:CompSrc" => (k_here; k_extra "CompSrc")
  k_with "L:eval ListComp" => (k_here; k_dflt (refine LCg.ListComp_U (F₀ := by k_asm) (by with_unfolding_all rfl) (by decide) (by rfl) (by decide) (by rfl) ?_))
  k_with "L:CompOut" => (k_dflt (refine' compOut_mk ?F ?N ?hO ?hA ?hs ?hn ?ht ?_; (case F => k_asm); (case N => k_asm); (case hO => assumption); (case hA => assumption); (case hs => kcf_all); (case hn => kcf_all); (case ht => kcf_all)))
  k_with "L:binaryOp Add ref ref" => (k_here; (with_reducible show wpAny _ _ (binaryOp Operator.Add (Value.ref _) (Value.ref _)) _ _ _); k_dflt (refine' add_lists ?F ?N ?a ?b ?_ ?z; (case F => k_asm); (case N => k_asm); (case a => exact News.isList (by k_asm) (by k_mem)); (case b => exact News.isList (by k_asm) (by k_mem)); (case z => (rw [PySem.sizeLine_eq]; (try simp only [List.length_cons, List.length_nil]); omega))); intro h' F' N'; (try dsimp only))
  k_with "L:call ref" => (k_here; (with_reducible show wpAny _ _ (call (Value.ref 71) _) _ _ _); k_dflt (refine' rmulq_use ?p0 ?p1 ?p2 ?p3 ?p4 ?p5 ?p6 ?p7 ?k1 ?k2 ?k3 ?k4 ?k5 ?kK ?kd ?ku ?_; (case k1 => k_asm); (case k2 => k_asm); (case k3 => k_asm); (case k4 => k_asm); (case k5 => k_asm); (case kK => first | exact rfl | assumption); (case p0 => first | assumption | exact ratAt_int (by assumption) | exact ratAt_int (made_of (by assumption) (by k_mem))); (case p1 => kcf_all); (case p2 => assumption); (case p3 => kcf_all); (case p4 => first | omega | (dsimp only; omega) | with_reducible assumption | (dsimp only; with_reducible assumption) | solve_by_elim | (dsimp only; solve_by_elim)); (case p5 => first | omega | (dsimp only; omega) | with_reducible assumption | (dsimp only; with_reducible assumption) | solve_by_elim | (dsimp only; solve_by_elim)); (case p6 => first | omega | (dsimp only; omega) | with_reducible assumption | (dsimp only; with_reducible assumption) | solve_by_elim | (dsimp only; solve_by_elim)); (case p7 => first | with_reducible assumption | exact ⟨by dsimp only; omega, by dsimp only; omega⟩ | solve_by_elim | (dsimp only; solve_by_elim)); (case kd => ktr_room); (case ku => ktr_units); k_whole); intro r9 tl9 h9 tk9 F9 N9 hA9 hO9; (obtain ⟨b8, e8⟩ := RatOut.ref hO9; subst e8; have hR9 := RatOut.at hO9 F9; (try dsimp only at hO9 hR9)); (try dsimp only); (try k_fold))
  k_with "L:call ref" => (k_here; (with_reducible show wpAny _ _ (call (Value.ref 78) _) _ _ _); k_dflt (refine' rdivq_use ?p0 ?p1 ?p2 ?p3 ?p4 ?p5 ?p6 ?p7 ?p8 ?k1 ?k2 ?k3 ?k4 ?k5 ?kK ?kd ?ku ?_; (case k1 => k_asm); (case k2 => k_asm); (case k3 => k_asm); (case k4 => k_asm); (case k5 => k_asm); (case kK => first | exact rfl | assumption); (case p0 => assumption); (case p1 => kcf_all); (case p2 => first | assumption | exact ratAt_int (by assumption) | exact ratAt_int (made_of (by assumption) (by k_mem))); (case p3 => kcf_all); (case p4 => first | omega | (dsimp only; omega) | with_reducible assumption | (dsimp only; with_reducible assumption) | solve_by_elim | (dsimp only; solve_by_elim)); (case p5 => first | omega | (dsimp only; omega) | with_reducible assumption | (dsimp only; with_reducible assumption) | solve_by_elim | (dsimp only; solve_by_elim)); (case p6 => first | omega | (dsimp only; omega) | with_reducible assumption | (dsimp only; with_reducible assumption) | solve_by_elim | (dsimp only; solve_by_elim)); (case p7 => first | omega | (dsimp only; omega) | with_reducible assumption | (dsimp only; with_reducible assumption) | solve_by_elim | (dsimp only; solve_by_elim)); (case p8 => first | with_reducible assumption | exact ⟨by dsimp only; omega, by dsimp only; omega⟩ | solve_by_elim | (dsimp only; solve_by_elim)); (case kd => ktr_room); (case ku => ktr_units); k_whole); intro r9 tl9 h9 tk9 F9 N9 hA9 hO9; (obtain ⟨b8, e8⟩ := RatOut.ref hO9; subst e8; have hR9 := RatOut.at hO9 F9; (try dsimp only at hO9 hR9)); (try dsimp only); (try k_fold))
  revert X; k_fill; intro X
  k_dflt (refine' enterC (fun tl r => SerOut tl r (ov d (scaS c ys))) ?k1 ?k2 ?k3 ?k4 ?k5 ?kA ?kF ?kK ?k6 ?k7 ?k8 ?k9 ?kB ?kD hret ?_ ?c2 ?c3 ?c4; ktr_unf)
  intro g' L' h' tk' cells' hg' F' N' Y' B' X' T'
  clear hret
  k_cells Y'
  (try simp only [List.cons_append, List.nil_append, List.append_nil] at N')
  have hp' : RatAt g' [] (.ref pa) (red (c, 1)) := ratAt_int ((hp.mono hps).to F N hg')
  have hq' : SerAt g' [] (.ref pb) (ov d ys) := (hq.mono hqs).to F N hg'
  clear hp hps hq hqs
  obtain ⟨vs, nn, hb, hrs⟩ := hq'.nil_base
  have hsz := hrs.length
  rw [ov_length] at hsz
  have hL : g'.IsList pb vs.toArray := ⟨_, hb, rfl, _, rfl⟩
  (try dsimp only); (try k_fold)
  k_with "CompSrc" => (k_dflt (refine' LCg.CompSrc.base ?s1 ?s2 ?s3 ?s4 ?s5 ?_; (case s1 => rfl); (case s2 => k_asm); (case s3 => k_asm); (case s4 => exact hL); (case s5 => (rw [PySem.sizeLine_eq, List.size_toArray]; omega))); intro g9; (k_dflt (refine' comp_rats (fun (i : Nat) => (c * ys.getD i 0, 1 * d)) (fun _ => Or.inl hL) (fun i' v' I' oI' C' oC' D' m' ys' h' tk' tl' E' hi' hP' hC' hx' F' N' => ?cturn) (fun ys' tl' hO' => ?cfin))); (case' cturn => (obtain ⟨b', hv', hb'⟩ := ov_rats hrs hP'; subst hv')); (all_goals (try k_fold)))
  k_steps
  all_goals (first
    | exact rfl
    | (show SerOut _ _ _; rw [← sca_items, ← hsz]; exact SerOut.lst hO' (by kcf_all) (by k_mem))
    | trace_state)

set_option maxHeartbeats 4000000 in
theorem sintegrate_use {pa : Addr} {ps : List (Int × Int)} {n₁ : List (Addr × Obj)} (hp : SerAt h₀ n₁ (.ref pa) ps) (hps : ∀ z ∈ n₁, z ∈ news) (hl : ps.length ≤ 100) (hq0 : ∀ i, 0 < (ps.getD i (0, 1)).2) (hq1 : ∀ i : Nat, i < ((ps.length : Int) - 0).toNat → (ps.getD (0 + (i : Int)).toNat (0, 1)).2 * (0 + (i : Int) + 1) < 1073741824) (hq2 : ∀ i, Bd (ps.getD i (0, 1)).1) (B : Below A₀ base outer h₀) (F : Fr h₀ L s.heap m) (X : (hd.heap_39 w.params).In h₀) (N : News h₀ L s.heap news) (T : Top hd.view_39 (looseW hd.view_39 []) mean mg mb h₀) (hk : cs.kind = .function)
    (hdp : dp + 4 < recursionLimit) (hun : un + 32 + 64 < cLine)
    (hret : ∀ r tl h' tk', Fr h₀ L h' m → News h₀ L h' (news ++ tl) → Apart news tl → SerOut tl r (intP ps) → Q r { s with heap := h', toks := tk' }) :
    wpAny (model PySem.Challenge.rw_tk0030_01.row.prog w) (ktrTop dp un gd cn cs L a ccd cl outer) (call (.ref 138) [.ref pa]) Q E s := by
  k_with_none
  w_top off
  k_with "L:ktn_open" => ((case kA => exact rfl); (case kF => exact rfl); (case kK => first | exact rfl | assumption); (case k1 => k_asm); (case k2 => k_asm); (case k3 => k_asm); (case k4 => k_asm); (case k5 => k_asm); (case k6 => k_is); (case k7 => k_is); (case k8 => ktr_room); (case k9 => exact BindsTo.of_eq rfl); (case c5 => decide); (case kB => exact locs rfl); (case c2 => exact rfl); (case c3 => exact rfl); (case c4 => exact rfl); k_whole)
  k_with "L:exec For Name Call cons nil" => (k_here; (rename Fr _ _ _ _ => lF'); (with_unfolding_all refine' For_invVF lF' ?k1 ?k2 ?_; (case k1 => exact rfl); (case k2 => exact rfl); k_whole))
  k_with "L:pyIter ref" => (k_here; k_extra "pyIter ref")
  k_with "L:RetOf" => (k_dflt (refine' retOf_mk ?rF ?rN ?_; (case rF => k_asm); (case rN => k_asm)); (try dsimp only))
  k_with "L:subscriptTail" => (k_here; (first | ((with_reducible show wpAny _ _ (subscriptTail _ _ (Value.ref _) (Value.int 0 _)) _ _ _); k_dflt (refine' rat_item0 ?hR ?hs ?F ?X ?N ?_ ?he; (case hR => assumption); (case F => k_asm); (case X => k_asm); (case N => k_asm); (case hs => kcf_all); (case he => with_unfolding_all rfl))) | ((with_reducible show wpAny _ _ (subscriptTail _ _ (Value.ref _) (Value.int 1 _)) _ _ _); k_dflt (refine' rat_item1 ?hR ?hs ?F ?X ?N ?_ ?he; (case hR => assumption); (case F => k_asm); (case X => k_asm); (case N => k_asm); (case hs => kcf_all); (case he => with_unfolding_all rfl)))); intro t9; (try dsimp only))
  k_with "L:subscriptTail" => (k_here; (with_reducible show wpAny _ _ (subscriptTail _ _ (Value.ref _) (Value.int _ _)) _ _ _); k_dflt (refine' ser_item ?hR ?hs ?F ?N ?h0 ?hk ?hl ?_ ?he; (case hR => assumption); (case F => k_asm); (case N => k_asm); (case hs => kcf_all); (case h0 => omega); (case hk => omega); (case hl => omega); (case he => with_unfolding_all rfl)); intro b9 hb9; (try dsimp only))
  k_with "L:call builtin:len" => (k_here; (with_reducible show wpAny _ _ (call (Value.builtin "len") [Value.ref _]) _ _ _); k_dflt (refine' ser_len ?hR ?hs ?F ?N ?hl ?_; (case hR => assumption); (case F => k_asm); (case N => k_asm); (case hs => kcf_all); (case hl => omega)); (try dsimp only))
  k_with "L:compareOp NotEq ref ref" => (k_here; (with_reducible show wpAny _ _ (compareOp CmpOp.NotEq (Value.ref _) (Value.ref _)) _ _ _); k_dflt (refine' rat_ne ?hR ?hs ?hR2 ?hs2 ?F ?X ?N ?hu ?_; (case hR => first | assumption | exact RatAt.zero (led := []) | exact RatAt.one (led := [])); (case hR2 => first | assumption | exact RatAt.zero (led := []) | exact RatAt.one (led := [])); (case F => k_asm); (case X => k_asm); (case N => k_asm); (case hs => kcf_all); (case hs2 => kcf_all); (case hu => ktr_units)); (try dsimp only))
  k_with "L:subscriptTail" => (k_here; (with_reducible show wpAny _ _ (subscriptTail _ _ (Value.ref _) (Value.int _ _)) _ _ _); k_dflt (refine' ov_item ?hR ?hs ?F ?N ?h0 ?hk ?hl ?_ ?he; (case hR => assumption); (case F => k_asm); (case N => k_asm); (case hs => kcf_all); (case h0 => omega); (case hk => omega); (case hl => omega); (case he => with_unfolding_all rfl)); intro b9 hb9; (try dsimp only))
  k_with "L:call builtin:len" => (k_here; (with_reducible show wpAny _ _ (call (Value.builtin "len") [Value.ref _]) _ _ _); k_dflt (refine' ov_len ?hR ?hs ?F ?N ?hl ?_; (case hR => assumption); (case F => k_asm); (case N => k_asm); (case hs => kcf_all); (case hl => omega)); (try dsimp only))
  k_with "L:ktr_unf" => ((case kA => exact rfl); (case kF => exact rfl); (case kK => first | exact rfl | assumption); (case k1 => k_asm); (case k2 => k_asm); (case k3 => k_asm); (case k4 => k_asm); (case k5 => k_asm); (case k6 => k_is); (case k7 => k_is); (case k8 => ktr_room); (case k9 => exact BindsTo.of_eq rfl); (case kB => exact rfl); (case kD => decide +kernel); (case c2 => exact rfl); (case c3 => exact rfl); (case c4 => exact rfl); k_whole)
  k_with "L:CompSrc" => (k_here; k_extra "CompSrc")
  k_with "L:eval ListComp" => (k_here; k_dflt (refine LCg.ListComp_U (F₀ := by k_asm) (by with_unfolding_all rfl) (by decide) (by rfl) (by decide) (by rfl) ?_))
  k_with "L:CompOut" => (k_dflt (refine' compOut_mk ?F ?N ?hO ?hA ?hs ?hn ?ht ?_; (case F => k_asm); (case N => k_asm); (case hO => assumption); (case hA => assumption); (case hs => kcf_all); (case hn => kcf_all); (case ht => kcf_all)))
  k_with "L:binaryOp Add ref ref" => (k_here; (with_reducible show wpAny _ _ (binaryOp Operator.Add (Value.ref _) (Value.ref _)) _ _ _); k_dflt (refine' add_lists ?F ?N ?a ?b ?_ ?z; (case F => k_asm); (case N => k_asm); (case a => exact News.isList (by k_asm) (by k_mem)); (case b => exact News.isList (by k_asm) (by k_mem)); (case z => (rw [PySem.sizeLine_eq]; (try simp only [List.length_cons, List.length_nil]); omega))); intro h' F' N'; (try dsimp only))
  k_with "L:call ref" => (k_here; (with_reducible show wpAny _ _ (call (Value.ref 71) _) _ _ _); k_dflt (refine' rmulq_use ?p0 ?p1 ?p2 ?p3 ?p4 ?p5 ?p6 ?p7 ?k1 ?k2 ?k3 ?k4 ?k5 ?kK ?kd ?ku ?_; (case k1 => k_asm); (case k2 => k_asm); (case k3 => k_asm); (case k4 => k_asm); (case k5 => k_asm); (case kK => first | exact rfl | assumption); (case p0 => first | assumption | exact ratAt_int (by assumption) | exact ratAt_int (made_of (by assumption) (by k_mem))); (case p1 => kcf_all); (case p2 => assumption); (case p3 => kcf_all); (case p4 => first | omega | (dsimp only; omega) | with_reducible assumption | (dsimp only; with_reducible assumption) | solve_by_elim | (dsimp only; solve_by_elim)); (case p5 => first | omega | (dsimp only; omega) | with_reducible assumption | (dsimp only; with_reducible assumption) | solve_by_elim | (dsimp only; solve_by_elim)); (case p6 => first | omega | (dsimp only; omega) | with_reducible assumption | (dsimp only; with_reducible assumption) | solve_by_elim | (dsimp only; solve_by_elim)); (case p7 => first | with_reducible assumption | exact ⟨by dsimp only; omega, by dsimp only; omega⟩ | solve_by_elim | (dsimp only; solve_by_elim)); (case kd => ktr_room); (case ku => ktr_units); k_whole); intro r9 tl9 h9 tk9 F9 N9 hA9 hO9; (obtain ⟨b8, e8⟩ := RatOut.ref hO9; subst e8; have hR9 := RatOut.at hO9 F9; (try dsimp only at hO9 hR9)); (try dsimp only); (try k_fold))
  k_with "L:call ref" => (k_here; (with_reducible show wpAny _ _ (call (Value.ref 78) _) _ _ _); k_dflt (refine' rdivq_use ?p0 ?p1 ?p2 ?p3 ?p4 ?p5 ?p6 ?p7 ?p8 ?k1 ?k2 ?k3 ?k4 ?k5 ?kK ?kd ?ku ?_; (case k1 => k_asm); (case k2 => k_asm); (case k3 => k_asm); (case k4 => k_asm); (case k5 => k_asm); (case kK => first | exact rfl | assumption); (case p0 => assumption); (case p1 => kcf_all); (case p2 => first | assumption | exact ratAt_int (by assumption) | exact ratAt_int (made_of (by assumption) (by k_mem))); (case p3 => kcf_all); (case p4 => first | omega | (dsimp only; omega) | with_reducible assumption | (dsimp only; with_reducible assumption) | solve_by_elim | (dsimp only; solve_by_elim)); (case p5 => first | omega | (dsimp only; omega) | with_reducible assumption | (dsimp only; with_reducible assumption) | solve_by_elim | (dsimp only; solve_by_elim)); (case p6 => first | omega | (dsimp only; omega) | with_reducible assumption | (dsimp only; with_reducible assumption) | solve_by_elim | (dsimp only; solve_by_elim)); (case p7 => first | omega | (dsimp only; omega) | with_reducible assumption | (dsimp only; with_reducible assumption) | solve_by_elim | (dsimp only; solve_by_elim)); (case p8 => first | with_reducible assumption | exact ⟨by dsimp only; omega, by dsimp only; omega⟩ | solve_by_elim | (dsimp only; solve_by_elim)); (case kd => ktr_room); (case ku => ktr_units); k_whole); intro r9 tl9 h9 tk9 F9 N9 hA9 hO9; (obtain ⟨b8, e8⟩ := RatOut.ref hO9; subst e8; have hR9 := RatOut.at hO9 F9; (try dsimp only at hO9 hR9)); (try dsimp only); (try k_fold))
  revert X; k_fill; intro X
  k_dflt (refine' enterC (fun tl r => SerOut tl r (intP ps)) ?k1 ?k2 ?k3 ?k4 ?k5 ?kA ?kF ?kK ?k6 ?k7 ?k8 ?k9 ?kB ?kD hret ?_ ?c2 ?c3 ?c4; ktr_unf)
  intro g' L' h' tk' cells' hg' F' N' Y' B' X' T'
  clear hret
  k_cells Y'
  (try simp only [List.cons_append, List.nil_append, List.append_nil] at N')
  have hp' : SerAt g' [] (.ref pa) ps := (hp.mono hps).to F N hg'
  clear hp hps
  (try dsimp only); (try k_fold)
  k_with "CompSrc" => (k_dflt (refine' LCg.CompSrc.range ?s1 ?s2 ?s3 ?s4 ?s5 ?s6 ?s7 ?_; (case s1 => rfl); (case s2 => k_asm); (case s3 => k_asm); (case s4 => assumption); (case s5 => exact small_one (by omega) (by omega) (by omega) (by omega)); (case s6 => exact rangeSize_nat _ _); (case s7 => (rw [PySem.sizeLine_eq]; omega))); intro g9; (k_dflt (refine' comp_rats (fun (i : Nat) => ((ps.getD (0 + (i : Int)).toNat (0, 1)).1 * 1, (ps.getD (0 + (i : Int)).toNat (0, 1)).2 * (0 + (i : Int) + 1))) (fun _ => True.intro) (fun i' v' I' oI' C' oC' D' m' ys' h' tk' tl' E' hi' hP' hC' hx' F' N' => ?cturn) (fun ys' tl' hO' => ?cfin))); (case' cturn => (obtain ⟨t', hv'⟩ := hP'; subst hv')); (case' cfin => (have hl9 := RatsOut.length hO'; simp only [List.length_map, List.length_range] at hl9)); (all_goals (try k_fold)))
  k_steps
  all_goals (first
    | exact rfl
    | (show SerOut _ _ _; rw [← int_items]; exact SerOut.lst (rats_zero hO') (by kcf_all) (by k_mem))
    | trace_state)

end
end Mine

namespace Mine
open PySem.Calls PySem.Spec
theorem base_len {prog : Program} {w : World} {A : Around} {E : Value → Shared → Prop} {s : Shared} {h₀ : Heap} {L : Addr} {m : Str → Option Value} {a : Addr} {vs : List Value} {Q : Value → Shared → Prop} (hL : h₀.IsList a vs.toArray) (F : Fr h₀ L s.heap m) (hl : vs.length ≤ 1000) (h : Q (.int (vs.length : Int) (s.toks + 1)) { s with toks := s.toks + 1 + 1 }) :
    wpAny (model prog w) A (call (.builtin "len") [.ref a]) Q E s := by
  refine len_list (hL.at fun o e => F.keep a o e) (by rw [List.size_toArray]; omega) ?_
  rw [List.size_toArray]
  exact h
theorem pick_all {vs : List Value} {k : Int} (h : (vs.length : Int) ≤ k) : slicePick vs.toArray none (some k) none = vs.toArray := by
  obtain ⟨b, rfl⟩ := Int.eq_ofNat_of_zero_le (show 0 ≤ k by omega)
  rw [slicePick_upto']
  congr 1
  exact List.take_of_length_le (by simpa using h)
theorem flat_one (n : Nat) (v : Value) : (List.replicate n [v]).flatten = List.replicate n v := by simp

section
variable {w : World} {mean : ExcName → Option Value} {mg mb : Str → Option Value} {dp un : Nat} {gd : Option (List Code)} {cn : Str} {cs : Scope} {a : Addr} {ccd : Value} {cl : List (Str × Addr)} {outer : List Env} {A₀ : Around} {base h₀ : Heap} {L : Addr} {m : Str → Option Value} {news : List (Addr × Obj)} {s : Shared} {Q E : Value → Shared → Prop}
set_option maxHeartbeats 4000000 in
theorem cut0_use {pa : Addr} {vs : List Value} {nn : Nat} {k : Int} {t₀ : Tok} (hb : s.heap.get? pa = some (listOf vs.toArray nn)) (hl : (vs.length : Int) ≤ k) (hk : k ≤ 100) (B : Below A₀ base outer h₀) (F : Fr h₀ L s.heap m) (X : (hd.heap_39 w.params).In h₀) (N : News h₀ L s.heap news) (T : Top hd.view_39 (looseW hd.view_39 []) mean mg mb h₀) (hk : cs.kind = .function)
    (hdp : dp + 4 < recursionLimit) (hun : un + 32 + 64 < cLine)
    (hret : ∀ r tl h' tk', Fr h₀ L h' m → News h₀ L h' (news ++ tl) → Apart news tl → (∃ D n, r = .ref D ∧ (D, listOf (vs ++ List.replicate (k - (vs.length : Int)).toNat (Value.ref 49)).toArray n) ∈ tl) → Q r { s with heap := h', toks := tk' }) :
    wpAny (model PySem.Challenge.rw_tk0030_01.row.prog w) (ktrTop dp un gd cn cs L a ccd cl outer) (call (.ref 99) [.ref pa, .int k t₀]) Q E s := by
  k_with_none
  w_top off
  k_with "L:call type:list" => (k_here; k_extra "call type:list")
  k_with "L:binaryOp Mult ref int" => (k_here; (with_reducible show wpAny _ _ (binaryOp Operator.Mult (Value.ref _) (Value.int _ _)) _ _ _); k_dflt (refine' KMa.mul ?F ?N ?l ?lo ?hi ?z ?e ?_; (case F => k_asm); (case N => k_asm); (case l => exact News.isList (by k_asm) (by k_mem)); (case e => exact flat_one _ _); (case lo => omega); (case hi => omega); (case z => (simp only [List.length_cons, List.length_nil]; omega)); k_whole); intro D' h' F' N' l1; (try dsimp only))
  k_with "L:ktn_open" => ((case kA => exact rfl); (case kF => exact rfl); (case kK => first | exact rfl | assumption); (case k1 => k_asm); (case k2 => k_asm); (case k3 => k_asm); (case k4 => k_asm); (case k5 => k_asm); (case k6 => k_is); (case k7 => k_is); (case k8 => ktr_room); (case k9 => exact BindsTo.of_eq rfl); (case c5 => decide); (case kB => exact locs rfl); (case c2 => exact rfl); (case c3 => exact rfl); (case c4 => exact rfl); k_whole)
  k_with "L:exec For Name Call cons nil" => (k_here; (rename Fr _ _ _ _ => lF'); (with_unfolding_all refine' For_invVF lF' ?k1 ?k2 ?_; (case k1 => exact rfl); (case k2 => exact rfl); k_whole))
  k_with "L:pyIter ref" => (k_here; k_extra "pyIter ref")
  k_with "L:RetOf" => (k_dflt (refine' retOf_mk ?rF ?rN ?_; (case rF => k_asm); (case rN => k_asm)); (try dsimp only))
  k_with "L:subscriptTail" => (k_here; (first | ((with_reducible show wpAny _ _ (subscriptTail _ _ (Value.ref _) (Value.int 0 _)) _ _ _); k_dflt (refine' rat_item0 ?hR ?hs ?F ?X ?N ?_ ?he; (case hR => assumption); (case F => k_asm); (case X => k_asm); (case N => k_asm); (case hs => kcf_all); (case he => with_unfolding_all rfl))) | ((with_reducible show wpAny _ _ (subscriptTail _ _ (Value.ref _) (Value.int 1 _)) _ _ _); k_dflt (refine' rat_item1 ?hR ?hs ?F ?X ?N ?_ ?he; (case hR => assumption); (case F => k_asm); (case X => k_asm); (case N => k_asm); (case hs => kcf_all); (case he => with_unfolding_all rfl)))); intro t9; (try dsimp only))
  k_with "L:subscriptTail" => (k_here; (with_reducible show wpAny _ _ (subscriptTail _ _ (Value.ref _) (Value.int _ _)) _ _ _); k_dflt (refine' ser_item ?hR ?hs ?F ?N ?h0 ?hk ?hl ?_ ?he; (case hR => assumption); (case F => k_asm); (case N => k_asm); (case hs => kcf_all); (case h0 => omega); (case hk => omega); (case hl => omega); (case he => with_unfolding_all rfl)); intro b9 hb9; (try dsimp only))
  k_with "L:call builtin:len" => (k_here; (with_reducible show wpAny _ _ (call (Value.builtin "len") [Value.ref _]) _ _ _); k_dflt (refine' ser_len ?hR ?hs ?F ?N ?hl ?_; (case hR => assumption); (case F => k_asm); (case N => k_asm); (case hs => kcf_all); (case hl => omega)); (try dsimp only))
  k_with "L:compareOp NotEq ref ref" => (k_here; (with_reducible show wpAny _ _ (compareOp CmpOp.NotEq (Value.ref _) (Value.ref _)) _ _ _); k_dflt (refine' rat_ne ?hR ?hs ?hR2 ?hs2 ?F ?X ?N ?hu ?_; (case hR => first | assumption | exact RatAt.zero (led := []) | exact RatAt.one (led := [])); (case hR2 => first | assumption | exact RatAt.zero (led := []) | exact RatAt.one (led := [])); (case F => k_asm); (case X => k_asm); (case N => k_asm); (case hs => kcf_all); (case hs2 => kcf_all); (case hu => ktr_units)); (try dsimp only))
  k_with "L:binaryOp Add ref ref" => (k_here; (with_reducible show wpAny _ _ (binaryOp Operator.Add (Value.ref _) (Value.ref _)) _ _ _); k_dflt (refine' add_lists ?F ?N ?a ?b ?_ ?z; (case F => k_asm); (case N => k_asm); (case a => exact News.isList (by k_asm) (by k_mem)); (case b => exact News.isList (by k_asm) (by k_mem)); (case z => (rw [PySem.sizeLine_eq]; (try simp only [List.length_cons, List.length_nil, List.length_replicate]); omega))); intro h' F' N'; (try dsimp only))
  k_with "L:call builtin:len" => (k_here; k_extra "call builtin:len")
  revert X; k_fill; intro X
  k_dflt (refine' enterP (fun tl r => (∃ D n, r = .ref D ∧ (D, listOf (vs ++ List.replicate (k - (vs.length : Int)).toNat (Value.ref 49)).toArray n) ∈ tl)) ?k1 ?k2 ?k3 ?k4 ?k5 ?kA ?kF ?kK ?k6 ?k7 ?k8 ?k9 ?kB hret ?_ ?c2 ?c3 ?c4 ?c5; ktn_open)
  intro g' L' h' tk' hg' F' N' B' X' T'
  clear hret
  have hL : g'.IsList pa vs.toArray := ⟨_, hg' _ _ hb, rfl, _, rfl⟩
  clear hb
  have hpick := pick_all hl
  have hfit : (slicePick vs.toArray none (some k) none).size ≤ sizeLine := by rw [hpick, sizeLine_eq, List.size_toArray]; omega
  (try dsimp only); (try k_fold)
  k_with "call builtin:len" => (k_dflt (refine' base_len hL ?F ?l ?_; (case F => k_asm); (case l => omega)); (try dsimp only))
  k_with "call type:list" => (k_dflt (refine' list_copyK ?F ?N ?l ?_ ?z; (case F => k_asm); (case N => k_asm); (case l => exact News.isList (by k_asm) (by k_mem)); (case z => exact hfit); k_whole); intro D9 c9 h9 F9 N9 l9; rw [hpick] at N9; (try dsimp only))
  k_steps
  all_goals (first
    | exact ⟨_, _, rfl, by k_mem⟩
    | trace_state)

end
end Mine

namespace Mine
open PySem.Calls PySem.Spec
/-- a loop over a range whose one name holds a ratio; what stood ahead of it stays -/
def RJ2 (cst : List (Addr × Obj)) (x y : Str) (m₀ : Str → Option Value) (p : Int × Int) (m : Str → Option Value) (nx : List (Addr × Obj)) : Prop :=
  ∃ v tl, nx = cst ++ tl ∧ Apart cst tl ∧ m y = some (.ref v) ∧ RatOut tl (.ref v) (red p) ∧ ∀ z, z ≠ x → z ≠ y → m z = m₀ z
section
variable {prog : Program} {w : World} {A : Around} {E : Value → Shared → Prop} {s : Shared} {env : Env} {h₀ : Heap} {x : Str} {body : List Stmt} {Q : Flow → Shared → Prop}
theorem frame_back {x y : Str} {m₁ m₀ : Str → Option Value} {v k : Value} (hv : m₁ y = some v) (hm : ∀ z, z ≠ x → z ≠ y → m₁ z = m₀ z) : (fun z => if z = x then some k else m₁ z) = fun z => if z = x then some k else if z = y then some v else m₀ z := by
  funext z
  by_cases h1 : z = x
  · simp [h1]
  · simp only [if_neg h1]
    by_cases h2 : z = y
    · subst h2; simp [hv]
    · simp only [if_neg h2]; exact hm z h1 h2
theorem frame_back' {x y : Str} {m₁ m₀ : Str → Option Value} {v : Value} (hv : m₁ y = some v) (hm : ∀ z, z ≠ x → z ≠ y → m₁ z = m₀ z) : m₁ = fun z => if z = x then m₁ z else if z = y then some v else m₀ z := by
  funext z
  by_cases h1 : z = x
  · simp [h1]
  · simp only [if_neg h1]
    by_cases h2 : z = y
    · subst h2; simp [hv]
    · simp only [if_neg h2]; exact hm z h1 h2
theorem range_rat2 {r : Addr} {a₀ b₀ : Int} {t₀ u₀ v₀ : Tok} {n : Nat} {m₀ : Str → Option Value} {news : List (Addr × Obj)} {y : Str} {v : Addr} (f : Nat → Int × Int)
    (hh : A.handled = none) (hr : IsRange s.heap r a₀ b₀ 1 t₀ u₀ v₀) (hsmall : Builtin.Range.small a₀ b₀ 1 = true) (hsz : Builtin.Range.rangeSize a₀ b₀ 1 = (n : Int)) (F : Fr h₀ env.locals s.heap m₀) (N : News h₀ env.locals s.heap news)
    (hv : m₀ y = some (.ref v)) (hR : RatOut [] (.ref v) (red (f 0)))
    (turn : ∀ (i : Nat) t v tl h tk own, i < n → OwnOff own ((news ++ tl).map (·.1)) → Apart news tl → RatOut tl (.ref v) (red (f i)) → Fr h₀ env.locals h (fun z => if z = x then some (.int (a₀ + (i : Int)) t) else if z = y then some (.ref v) else m₀ z) → News h₀ env.locals h (news ++ tl ++ own) →
      wpAny (model prog w) A (execs body env) (InvPostG h₀ env.locals (RJ2 news x y m₀ (f (i + 1))) own { s with heap := h, toks := tk } Q) E { s with heap := h, toks := tk })
    (done : ∀ v (u : Str → Option Value) tl h tk, Apart news tl → RatOut tl (.ref v) (red (f n)) → Fr h₀ env.locals h (fun z => if z = x then u z else if z = y then some (.ref v) else m₀ z) → News h₀ env.locals h (news ++ tl) → Q .next { s with heap := h, toks := tk }) :
    wpAny (model prog w) A (pyIter (.ref r)) (fun it s₂ => LoopAtV prog w A h₀ env x body Q E it s₂) E s := by
  refine range_inv (fun i => RJ2 news x y m₀ (f i)) hh hr hsmall hsz F N ⟨v, [], (List.append_nil _).symm, fun _ _ _ h => (nomatch h), hv, hR, fun _ _ _ => rfl⟩ ?_ ?_
  · rintro i t m₁ nx h tk own hi hoff ⟨v', tl, rfl, hA, hv', hR', hm⟩ F₁ N₁
    exact turn i t v' tl h tk own hi hoff hA hR' (frame_back hv' hm ▸ F₁) N₁
  · rintro m₁ nx h tk ⟨v', tl, rfl, hA, hv', hR', hm⟩ F₁ N₁
    exact done v' m₁ tl h tk hA hR' (frame_back' hv' hm ▸ F₁) N₁
theorem rj2_end {y : Str} {v : Addr} {p q : Int × Int} {m₀ m' : Str → Option Value} {cst tl₀ own tl news' X : List (Addr × Obj)} {s₁ : Shared} {h' : Heap} {tk : Nat} {L : Addr} (F : Fr h₀ L h' m') (N : News h₀ L h' news') (hv : m' y = some (.ref v)) (hO : RatOut tl (.ref v) q) (hA : Apart X tl) (hoff : OwnOff own ((cst ++ tl₀).map (·.1)))
    (hX : ∀ p ∈ cst, p ∈ X) (hX' : ∀ p ∈ own, p ∈ X) (hn : ∀ p ∈ cst, p ∈ news') (ht : ∀ p ∈ tl, p ∈ news') (ho : ∀ p ∈ own, p ∈ news')
    (hm : ∀ z, z ≠ x → z ≠ y → m' z = m₀ z) (hq : Leaf (q = red p)) : InvEndG h₀ L (RJ2 cst x y m₀ p) own s₁ { s₁ with heap := h', toks := tk } := by
  refine InvEndG.intro (nx := cst ++ tl) F N ⟨v, tl, rfl, fun a ha b hb => hA a (hX a ha) b hb, hv, (show q = red p from hq) ▸ hO, hm⟩ ?_ (fun p hp => (List.mem_append.mp hp).elim (hn p) (ht p)) ho
  intro p hp b hb
  obtain ⟨r, hr, rfl⟩ := List.mem_map.mp hb
  rcases List.mem_append.mp hr with hr | hr
  · exact hoff p hp _ (List.mem_map.mpr ⟨r, List.mem_append.mpr (.inl hr), rfl⟩)
  · exact hA p (hX' p hp) r hr
end
section
variable {prog : Program} {w : World} {A : Around} {E : Value → Shared → Prop} {s : Shared} {h₀ : Heap} {L fa : Addr} {m : Str → Option Value} {led K X tlv : List (Addr × Obj)} {vs : List Value} {nn : Nat} {v : Value} {Q : Value → Shared → Prop}
theorem append_mine (F : Fr h₀ L s.heap m) (N : News h₀ L s.heap led) (hm : (fa, listOf vs.toArray nn) ∈ led) (hK : ∀ p ∈ K, p ∈ led) (hKn : ∀ p ∈ K, p.1 ≠ fa) (hl : vs.length ≤ 100)
    (h : ∀ h' n', Fr h₀ L h' m → News h₀ L h' ((fa, listOf (vs ++ [v]).toArray n') :: K) → Q .none { s with heap := h' }) : wpAny (model prog w) A (call (.builtin "list.append") [.ref fa, v]) Q E s := by
  have N' : News h₀ L s.heap ((fa, listOf vs.toArray nn) :: K) := fun p hp => by
    rcases List.mem_cons.mp hp with rfl | hp
    · exact N _ hm
    · exact N p (hK p hp)
  refine append_K F N' (Upd.head hKn) (fun h' F' N'' => ?_) (by rw [List.size_toArray, sizeLine_eq]; lia)
  rw [List.push_toArray] at N''
  exact h h' _ F' N''
end
end Mine

namespace Mine
open PySem.Calls PySem.Spec
/-- e to the c x, times 120 -/
def eS (c : Int) : Nat → Int
  | 0 => 120
  | 1 => 120 * c
  | 2 => 60 * c * c
  | 3 => 20 * c * c * c
  | 4 => 5 * c * c * c * c
  | 5 => c * c * c * c * c
  | _ => 0
def expS (c : Int) (n : Nat) : List Int := (List.range n).map (eS c)
theorem expS_length (c : Int) (n : Nat) : (expS c n).length = n := by rw [expS, List.length_map, List.length_range]
theorem expS_succ (c : Int) (n : Nat) : expS c (n + 1) = expS c n ++ [eS c n] := by rw [expS, expS, List.range_succ, List.map_append]; rfl
theorem expS_get {c : Int} {n k : Nat} (h : k < n) : (expS c n).getD k 0 = eS c k := by
  simp [expS, List.getD_eq_getElem?_getD, h]
theorem eS_step {c : Int} : ∀ {i : Nat}, 1 ≤ i → i ≤ 5 → c * eS c (i - 1) = i * eS c i
  | 1, _, _ => by simp only [eS]; grind
  | 2, _, _ => by simp only [eS]; grind
  | 3, _, _ => by simp only [eS]; grind
  | 4, _, _ => by simp only [eS]; grind
  | 5, _, _ => by simp only [eS]; grind
  | 0, h, _ => absurd h (by decide)
  | (_ + 6), _, h => absurd h (by lia)
theorem eS_bound {c : Int} (h0 : -3 ≤ c) (h1 : c ≤ 3) (i : Nat) : -2000 < eS c i ∧ eS c i < 2000 := by
  have : c = -3 ∨ c = -2 ∨ c = -1 ∨ c = 0 ∨ c = 1 ∨ c = 2 ∨ c = 3 := by lia
  match i with
  | 0 => simp [eS]
  | 1 | 2 | 3 | 4 | 5 => rcases this with h | h | h | h | h | h | h <;> subst h <;> simp [eS]
  | (_ + 6) => simp [eS]
/-- the inner loop's sum, times 120 -/
def fS (c : Int) (i k : Nat) : Int := if k = 0 then 0 else c * eS c (i - 1)
theorem fS_bound {c : Int} (h0 : -3 ≤ c) (h1 : c ≤ 3) (i k : Nat) : -6001 < fS c i k ∧ fS c i k < 6001 := by
  have h := eS_bound h0 h1 (i - 1)
  have : c = -3 ∨ c = -2 ∨ c = -1 ∨ c = 0 ∨ c = 1 ∨ c = 2 ∨ c = 3 := by lia
  unfold fS
  split
  · lia
  · rcases this with h | h | h | h | h | h | h <;> subst h <;> lia
/-- the outer loop -/
def SJ (pa : Addr) (c : Int) (i : Nat) (m : Str → Option Value) (nx : List (Addr × Obj)) : Prop :=
  ∃ fa vs nn tl, nx = (fa, listOf vs.toArray nn) :: tl ∧ (∀ p ∈ tl, p.1 ≠ fa) ∧ RatsOut tl vs (ov 120 (expS c i)) ∧ m (Str.ofString "found") = some (.ref fa) ∧ m (Str.ofString "a") = some (.ref pa)
section
variable {prog : Program} {w : World} {A : Around} {E : Value → Shared → Prop} {s : Shared} {env : Env} {h₀ : Heap} {x : Str} {body : List Stmt} {Q : Flow → Shared → Prop}
theorem frame_two {y z : Str} {m₁ : Str → Option Value} {v u : Value} (hv : m₁ y = some v) (hu : m₁ z = some u) : m₁ = fun k => if k = y then some v else if k = z then some u else m₁ k := by
  funext k
  by_cases h2 : k = y
  · subst h2; simp [hv]
  · by_cases h3 : k = z
    · subst h3; simp [hu, h2]
    · simp [h2, h3]
theorem sexp_loop {pa : Addr} {c : Int} {r fa₀ : Addr} {nn₀ : Nat} {a₀ b₀ : Int} {t₀ u₀ v₀ : Tok} {n : Nat} {m₀ : Str → Option Value} {news : List (Addr × Obj)}
    (hh : A.handled = none) (hr : IsRange s.heap r a₀ b₀ 1 t₀ u₀ v₀) (hsmall : Builtin.Range.small a₀ b₀ 1 = true) (hsz : Builtin.Range.rangeSize a₀ b₀ 1 = (n : Int)) (F : Fr h₀ env.locals s.heap m₀) (N : News h₀ env.locals s.heap news)
    (hm : (fa₀, listOf ([] : List Value).toArray nn₀) ∈ news) (hf : m₀ (Str.ofString "found") = some (.ref fa₀)) (ha : m₀ (Str.ofString "a") = some (.ref pa))
    (turn : ∀ (i : Nat) t fa vs nn tl (u : Str → Option Value) h tk own, i < n → (∀ p ∈ tl, p.1 ≠ fa) → OwnOff own (((fa, listOf vs.toArray nn) :: tl).map (·.1)) → RatsOut tl vs (ov 120 (expS c i)) →
      Fr h₀ env.locals h (fun z => if z = x then some (.int (a₀ + (i : Int)) t) else if z = Str.ofString "found" then some (.ref fa) else if z = Str.ofString "a" then some (.ref pa) else u z) → News h₀ env.locals h ((fa, listOf vs.toArray nn) :: tl ++ own) →
      wpAny (model prog w) A (execs body env) (InvPostG h₀ env.locals (SJ pa c (i + 1)) own { s with heap := h, toks := tk } Q) E { s with heap := h, toks := tk })
    (done : ∀ fa vs nn tl (u : Str → Option Value) h tk, RatsOut tl vs (ov 120 (expS c n)) → Fr h₀ env.locals h (fun z => if z = Str.ofString "found" then some (.ref fa) else if z = Str.ofString "a" then some (.ref pa) else u z) → News h₀ env.locals h ((fa, listOf vs.toArray nn) :: tl) → Q .next { s with heap := h, toks := tk }) :
    wpAny (model prog w) A (pyIter (.ref r)) (fun it s₂ => LoopAtV prog w A h₀ env x body Q E it s₂) E s := by
  refine range_inv (SJ pa c) hh hr hsmall hsz F (news := [(fa₀, listOf ([] : List Value).toArray nn₀)]) (fun p hp => by rw [List.mem_singleton.mp hp]; exact N _ hm) ⟨fa₀, [], nn₀, [], rfl, (fun _ h => (nomatch h)), (fun _ _ _ => RatsAt.nil), hf, ha⟩ ?_ ?_
  · rintro i t m₁ nx h tk own hi hoff ⟨fa, vs, nn, tl, rfl, hne, hR, h1, h2⟩ F₁ N₁
    refine turn i t fa vs nn tl m₁ h tk own hi hne hoff hR ?_ N₁
    rw [frame_two h1 h2] at F₁
    exact F₁
  · rintro m₁ nx h tk ⟨fa, vs, nn, tl, rfl, hne, hR, h1, h2⟩ F₁ N₁
    refine done fa vs nn tl m₁ h tk hR ?_ N₁
    rw [← frame_two h1 h2]
    exact F₁
theorem sj_end {pa fa L : Addr} {c : Int} {i nn : Nat} {vs : List Value} {m' : Str → Option Value} {own tl news' : List (Addr × Obj)} {s₁ : Shared} {h' : Heap} {tk : Nat} (F : Fr h₀ L h' m') (N : News h₀ L h' news') (hR : RatsOut tl vs (ov 120 (expS c (i + 1)))) (hne : ∀ p ∈ tl, p.1 ≠ fa) (hoff : OwnOff own (((fa, listOf vs.toArray nn) :: tl).map (·.1)))
    (hn : ∀ p ∈ (fa, listOf vs.toArray nn) :: tl, p ∈ news') (ho : ∀ p ∈ own, p ∈ news') (h1 : m' (Str.ofString "found") = some (.ref fa)) (h2 : m' (Str.ofString "a") = some (.ref pa)) : InvEndG h₀ L (SJ pa c (i + 1)) own s₁ { s₁ with heap := h', toks := tk } :=
  InvEndG.intro F N ⟨fa, vs, nn, tl, rfl, hne, hR, h1, h2⟩ hoff hn ho
end
section
variable {prog : Program} {w : World} {A : Around} {E : Value → Shared → Prop} {s : Shared} {h₀ : Heap} {L fa : Addr} {m : Str → Option Value} {led tl own X tlv : List (Addr × Obj)} {vs : List Value} {nn : Nat} {v : Value} {q : Int × Int} {ps : List (Int × Int)} {Q : Value → Shared → Prop}
theorem append_rat (F : Fr h₀ L s.heap m) (N : News h₀ L s.heap led) (hO : RatOut tlv v q) (hA : Apart X tlv) (hne : ∀ p ∈ tl, p.1 ≠ fa) (hoff : OwnOff own (((fa, listOf vs.toArray nn) :: tl).map (·.1))) (hR : RatsOut tl vs ps)
    (hX : (fa, listOf vs.toArray nn) ∈ X) (hXo : ∀ p ∈ own, p ∈ X) (hm : (fa, listOf vs.toArray nn) ∈ led) (ht : ∀ p ∈ tl, p ∈ led) (ho : ∀ p ∈ own, p ∈ led) (hv : ∀ p ∈ tlv, p ∈ led) (hl : vs.length ≤ 100)
    (h : ∀ h' n', Fr h₀ L h' m → News h₀ L h' ((fa, listOf (vs ++ [v]).toArray n') :: (tl ++ tlv ++ own)) → (∀ p ∈ tl ++ tlv, p.1 ≠ fa) → OwnOff own (((fa, listOf (vs ++ [v]).toArray n') :: (tl ++ tlv)).map (·.1)) → (∀ p, q = red p → RatsOut (tl ++ tlv) (vs ++ [v]) (ps ++ [p])) → Q .none { s with heap := h' }) :
    wpAny (model prog w) A (call (.builtin "list.append") [.ref fa, v]) Q E s := by
  have h1 : ∀ p ∈ tl ++ tlv, p.1 ≠ fa := fun p hp => (List.mem_append.mp hp).elim (hne p) fun hp e => hA _ hX p hp e.symm
  have hoff' : OwnOff own ((tl ++ tlv).map (·.1)) := by
    intro p hp b hb
    obtain ⟨r, hr, rfl⟩ := List.mem_map.mp hb
    rcases List.mem_append.mp hr with hr | hr
    · exact hoff p hp _ (List.mem_map.mpr ⟨r, .tail _ hr, rfl⟩)
    · exact hA p (hXo p hp) r hr
  have h2 : ∀ p ∈ own, p.1 ≠ fa := fun p hp => hoff p hp fa (.head _)
  refine append_mine (K := tl ++ tlv ++ own) F N hm (fun p hp => ?_) (fun p hp => ?_) hl (fun h' n' F' N' => h h' n' F' N' h1 (fun p hp b hb => ?_) fun p e => ?_)
  · rcases List.mem_append.mp hp with hp | hp
    · rcases List.mem_append.mp hp with hp | hp
      · exact ht p hp
      · exact hv p hp
    · exact ho p hp
  · rcases List.mem_append.mp hp with hp | hp
    · exact h1 p hp
    · exact h2 p hp
  · rcases List.mem_cons.mp hb with rfl | hb
    · exact h2 p hp
    · exact hoff' p hp b hb
  · exact hR.snoc (e ▸ hO)
end
end Mine

namespace Mine
open PySem.Calls PySem.Spec
theorem in_leaf {c : Int} {ys : List Int} (hy : ∀ i, ys.getD i 0 = if i = 1 then c else 0) {i k : Nat} (hk : k < i) :
    red (fS c i k * (1 * 1 * 120) + (1 + (k : Int)) * ys.getD (1 + (k : Int)).toNat 0 * (expS c i).getD (0 + (i : Int) - (1 + (k : Int))).toNat 0 * 120, 120 * (1 * 1 * 120)) = red (fS c i (k + 1), 120) := by
  refine red_of_cross (show (0 : Int) < 120 * (1 * 1 * 120) by decide) (show (0 : Int) < 120 by decide) ?_
  have e1 : (0 + (i : Int) - (1 + (k : Int))).toNat = i - 1 - k := by lia
  have e2 : (1 + (k : Int)).toNat = k + 1 := by lia
  rw [e1, e2, hy, expS_get (by lia)]
  simp only
  by_cases h : k = 0
  · subst h
    simp only [fS, if_true, Nat.sub_zero]
    simp
    grind
  · have h2 : ¬ (k + 1 = 1) := by lia
    simp only [fS, h, h2, if_false, Nat.succ_ne_zero]
    simp
    grind
theorem out_leaf {c : Int} {i : Nat} (h0 : ¬ (0 + (i : Int) = 0)) (h5 : i ≤ 5) : red (fS c i (0 + (i : Int) + 1 - 1).toNat * 1, 120 * (0 + (i : Int))) = red (eS c i, 120) := by
  have hi : 1 ≤ i := by lia
  have e : (0 + (i : Int) + 1 - 1).toNat = i := by lia
  have hs := eS_step (c := c) hi h5
  refine red_of_cross (show 0 < 120 * (0 + (i : Int)) by lia) (show (0 : Int) < 120 by decide) ?_
  rw [e]
  simp only [fS, if_neg (show ¬ i = 0 by lia), hs]
  grind
theorem one_leaf {c : Int} {i : Nat} (h : (0 : Int) + (i : Int) = 0) : red (1, 1) = red (eS c i, 120) := by
  have : i = 0 := by lia
  subst this
  exact red_of_cross (show (0 : Int) < 1 by decide) (show (0 : Int) < 120 by decide) rfl
/-- a fact that the walk does not look at -/
def Hide (p : Prop) : Prop := p
theorem Hide.out {p : Prop} (h : Hide p) : p := h
theorem apart_nil {X : List (Addr × Obj)} : Apart X [] := fun _ _ _ h => (nomatch h)
theorem ov_exp (c : Int) (i : Nat) : ov 120 (expS c (i + 1)) = ov 120 (expS c i) ++ [(eS c i, 120)] := by
  rw [expS_succ, ov, ov, List.map_append]; rfl
theorem fS_bd {c : Int} (h0 : -3 ≤ c) (h1 : c ≤ 3) (i : Nat) : ∀ k, Bd (fS c i k) := fun k => by
  have := fS_bound h0 h1 i k
  exact ⟨by lia, by lia⟩
theorem fS_bd1 {c : Int} (h0 : -3 ≤ c) (h1 : c ≤ 3) (i : Nat) : ∀ k, Bd (fS c i k * 1) := fun k => by rw [Int.mul_one]; exact fS_bd h0 h1 i k
theorem out_one {tl : List (Addr × Obj)} : RatOut tl (.ref 50) (red (1, 1)) := fun _ _ _ => by rw [red_one]; exact .one
theorem in_bd {c : Int} (h0 : -3 ≤ c) (h1 : c ≤ 3) {ys : List Int} (hy : ∀ i, ys.getD i 0 = if i = 1 then c else 0) {k : Int} (hk0 : 0 ≤ k) (hk : k ≤ 10) (j : Nat) : Bd (k * ys.getD j 0) := by
  rw [hy]
  split
  · have : c = -3 ∨ c = -2 ∨ c = -1 ∨ c = 0 ∨ c = 1 ∨ c = 2 ∨ c = 3 := by lia
    rcases this with h | h | h | h | h | h | h <;> subst h <;> exact ⟨by lia, by lia⟩
  · rw [Int.mul_zero]; exact ⟨by decide, by decide⟩
section
variable {w : World} {mean : ExcName → Option Value} {mg mb : Str → Option Value} {dp un : Nat} {gd : Option (List Code)} {cn : Str} {cs : Scope} {a : Addr} {ccd : Value} {cl : List (Str × Addr)} {outer : List Env} {A₀ : Around} {base h₀ : Heap} {L : Addr} {m : Str → Option Value} {news : List (Addr × Obj)} {s : Shared} {Q E : Value → Shared → Prop}
set_option maxHeartbeats 4000000 in
theorem sexp_use {pa : Addr} {ys : List Int} {c : Int} {n₁ : List (Addr × Obj)} (hp : SerAt h₀ n₁ (.ref pa) (ov 1 ys)) (hps : ∀ z ∈ n₁, z ∈ news) (hlH : Hide (ys.length ≤ 6)) (hl1 : 1 ≤ ys.length) (hy : ∀ i, ys.getD i 0 = if i = 1 then c else 0) (hc0 : -3 ≤ c) (hc1 : c ≤ 3) (B : Below A₀ base outer h₀) (F : Fr h₀ L s.heap m) (X : (hd.heap_39 w.params).In h₀) (N : News h₀ L s.heap news) (T : Top hd.view_39 (looseW hd.view_39 []) mean mg mb h₀) (hk : cs.kind = .function)
    (hdp : dp + 5 < recursionLimit) (hun : un + 40 + 64 < cLine)
    (hret : ∀ r tl h' tk', Fr h₀ L h' m → News h₀ L h' (news ++ tl) → Apart news tl → SerOut tl r (ov 120 (expS c ys.length)) → Q r { s with heap := h', toks := tk' }) :
    wpAny (model PySem.Challenge.rw_tk0030_01.row.prog w) (ktrTop dp un gd cn cs L a ccd cl outer) (call (.ref 152) [.ref pa]) Q E s := by
  k_with_none
  w_top off
  k_with "L:ktn_open" => ((case kA => exact rfl); (case kF => exact rfl); (case kK => first | exact rfl | assumption); (case k1 => k_asm); (case k2 => k_asm); (case k3 => k_asm); (case k4 => k_asm); (case k5 => k_asm); (case k6 => k_is); (case k7 => k_is); (case k8 => ktr_room); (case k9 => exact BindsTo.of_eq rfl); (case c5 => decide); (case kB => exact locs rfl); (case c2 => exact rfl); (case c3 => exact rfl); (case c4 => exact rfl); k_whole)
  k_with "L:exec For Name Call cons nil" => (k_here; (rename Fr _ _ _ _ => lF'); (with_unfolding_all refine' For_invVF lF' ?k1 ?k2 ?_; (case k1 => exact rfl); (case k2 => exact rfl); k_whole))
  k_with "L:pyIter ref" => (k_here; k_extra "pyIter ref")
  k_with "L:RetOf" => (k_dflt (refine' retOf_mk ?rF ?rN ?_; (case rF => k_asm); (case rN => k_asm)); (try dsimp only))
  k_with "L:subscriptTail" => (k_here; (first | ((with_reducible show wpAny _ _ (subscriptTail _ _ (Value.ref _) (Value.int 0 _)) _ _ _); k_dflt (refine' rat_item0 ?hR ?hs ?F ?X ?N ?_ ?he; (case hR => assumption); (case F => k_asm); (case X => k_asm); (case N => k_asm); (case hs => kcf_all); (case he => with_unfolding_all rfl))) | ((with_reducible show wpAny _ _ (subscriptTail _ _ (Value.ref _) (Value.int 1 _)) _ _ _); k_dflt (refine' rat_item1 ?hR ?hs ?F ?X ?N ?_ ?he; (case hR => assumption); (case F => k_asm); (case X => k_asm); (case N => k_asm); (case hs => kcf_all); (case he => with_unfolding_all rfl)))); intro t9; (try dsimp only))
  k_with "L:subscriptTail" => (k_here; (with_reducible show wpAny _ _ (subscriptTail _ _ (Value.ref _) (Value.int _ _)) _ _ _); k_dflt (refine' ser_item ?hR ?hs ?F ?N ?h0 ?hk ?hl ?_ ?he; (case hR => assumption); (case F => k_asm); (case N => k_asm); (case hs => kcf_all); (case h0 => omega); (case hk => omega); (case hl => omega); (case he => with_unfolding_all rfl)); intro b9 hb9; (try dsimp only))
  k_with "L:call builtin:len" => (k_here; (with_reducible show wpAny _ _ (call (Value.builtin "len") [Value.ref _]) _ _ _); k_dflt (refine' ser_len ?hR ?hs ?F ?N ?hl ?_; (case hR => assumption); (case F => k_asm); (case N => k_asm); (case hs => kcf_all); (case hl => omega)); (try dsimp only))
  k_with "L:compareOp NotEq ref ref" => (k_here; (with_reducible show wpAny _ _ (compareOp CmpOp.NotEq (Value.ref _) (Value.ref _)) _ _ _); k_dflt (refine' rat_ne ?hR ?hs ?hR2 ?hs2 ?F ?X ?N ?hu ?_; (case hR => first | assumption | exact RatAt.zero (led := []) | exact RatAt.one (led := [])); (case hR2 => first | assumption | exact RatAt.zero (led := []) | exact RatAt.one (led := [])); (case F => k_asm); (case X => k_asm); (case N => k_asm); (case hs => kcf_all); (case hs2 => kcf_all); (case hu => ktr_units)); (try dsimp only))
  k_with "L:subscriptTail" => (k_here; (with_reducible show wpAny _ _ (subscriptTail _ _ (Value.ref _) (Value.int _ _)) _ _ _); k_dflt (refine' ov_item ?hR ?hs ?F ?N ?h0 ?hk ?hl ?_ ?he; (case hR => assumption); (case F => k_asm); (case N => k_asm); (case hs => kcf_all); (case h0 => omega); (case hk => omega); (case hl => omega); (case he => with_unfolding_all rfl)); intro b9 hb9; (try dsimp only))
  k_with "L:call builtin:len" => (k_here; (with_reducible show wpAny _ _ (call (Value.builtin "len") [Value.ref _]) _ _ _); k_dflt (refine' ov_len ?hR ?hs ?F ?N ?hl ?_; (case hR => assumption); (case F => k_asm); (case N => k_asm); (case hs => kcf_all); (case hl => omega)); (try dsimp only))
  k_with "L:call ref" => (k_here; (with_reducible show wpAny _ _ (call (Value.ref 145) _) _ _ _); k_dflt (refine' need_begin_use ?p0 ?p1 ?p2 ?p3 ?k1 ?k2 ?k3 ?k4 ?k5 ?kK ?kd ?ku ?_; (case k1 => k_asm); (case k2 => k_asm); (case k3 => k_asm); (case k4 => k_asm); (case k5 => k_asm); (case kK => first | exact rfl | assumption); (case p0 => assumption); (case p1 => kcf_all); (case p2 => omega); (case p3 => assumption); (case kd => ktr_room); (case ku => ktr_units); k_whole); intro r9 tl9 h9 tk9 F9 N9 hA9 hO9; subst hO9; (try dsimp only); (try k_fold))
  k_with "L:call ref" => (k_here; (with_reducible show wpAny _ _ (call (Value.ref 71) _) _ _ _); k_dflt (refine' rmulq_use ?p0 ?p1 ?p2 ?p3 ?p4 ?p5 ?p6 ?p7 ?k1 ?k2 ?k3 ?k4 ?k5 ?kK ?kd ?ku ?_; (case k1 => k_asm); (case k2 => k_asm); (case k3 => k_asm); (case k4 => k_asm); (case k5 => k_asm); (case kK => first | exact rfl | assumption); (case p0 => first | assumption | exact ratAt_int (by assumption) | exact ratAt_int (made_of (by assumption) (by k_mem))); (case p1 => kcf_all); (case p2 => assumption); (case p3 => kcf_all); (case p4 => first | omega | (dsimp only; omega) | with_reducible assumption | (dsimp only; with_reducible assumption) | solve_by_elim | (dsimp only; solve_by_elim)); (case p5 => first | omega | (dsimp only; omega) | with_reducible assumption | (dsimp only; with_reducible assumption) | solve_by_elim | (dsimp only; solve_by_elim)); (case p6 => first | omega | (dsimp only; omega) | with_reducible assumption | (dsimp only; with_reducible assumption) | solve_by_elim | (dsimp only; solve_by_elim)); (case p7 => first | with_reducible assumption | exact ⟨by dsimp only; omega, by dsimp only; omega⟩ | solve_by_elim | (dsimp only; solve_by_elim)); (case kd => ktr_room); (case ku => ktr_units); k_whole); intro r9 tl9 h9 tk9 F9 N9 hA9 hO9; (obtain ⟨b8, e8⟩ := RatOut.ref hO9; subst e8; have hR9 := RatOut.at hO9 F9; (try dsimp only at hO9 hR9)); (try dsimp only); (try k_fold))
  k_with "L:call ref" => (k_here; (with_reducible show wpAny _ _ (call (Value.ref 64) _) _ _ _); k_dflt (refine' raddq_use ?p0 ?p1 ?p2 ?p3 ?p4 ?p5 ?p6 ?k1 ?k2 ?k3 ?k4 ?k5 ?kK ?kd ?ku ?_; (case k1 => k_asm); (case k2 => k_asm); (case k3 => k_asm); (case k4 => k_asm); (case k5 => k_asm); (case kK => first | exact rfl | assumption); (case p0 => assumption); (case p1 => kcf_all); (case p2 => assumption); (case p3 => kcf_all); (case p4 => first | omega | (dsimp only; omega) | with_reducible assumption | (dsimp only; with_reducible assumption) | solve_by_elim | (dsimp only; solve_by_elim)); (case p5 => first | omega | (dsimp only; omega) | with_reducible assumption | (dsimp only; with_reducible assumption) | solve_by_elim | (dsimp only; solve_by_elim)); (case p6 => first | omega | (dsimp only; omega) | with_reducible assumption | (dsimp only; with_reducible assumption) | solve_by_elim | (dsimp only; solve_by_elim)); (case kd => ktr_room); (case ku => ktr_units); k_whole); intro r9 tl9 h9 tk9 F9 N9 hA9 hO9; (obtain ⟨b8, e8⟩ := RatOut.ref hO9; subst e8; have hR9 := RatOut.at hO9 F9; (try dsimp only at hO9 hR9)); (try dsimp only); (try k_fold))
  k_with "L:call ref" => (k_here; (with_reducible show wpAny _ _ (call (Value.ref 78) _) _ _ _); k_dflt (refine' rdivq_use ?p0 ?p1 ?p2 ?p3 ?p4 ?p5 ?p6 ?p7 ?p8 ?k1 ?k2 ?k3 ?k4 ?k5 ?kK ?kd ?ku ?_; (case k1 => k_asm); (case k2 => k_asm); (case k3 => k_asm); (case k4 => k_asm); (case k5 => k_asm); (case kK => first | exact rfl | assumption); (case p0 => assumption); (case p1 => kcf_all); (case p2 => first | assumption | exact ratAt_int (by assumption) | exact ratAt_int (made_of (by assumption) (by k_mem))); (case p3 => kcf_all); (case p4 => first | omega | (dsimp only; omega) | with_reducible assumption | (dsimp only; with_reducible assumption) | solve_by_elim | (dsimp only; solve_by_elim)); (case p5 => first | omega | (dsimp only; omega) | with_reducible assumption | (dsimp only; with_reducible assumption) | solve_by_elim | (dsimp only; solve_by_elim)); (case p6 => first | omega | (dsimp only; omega) | with_reducible assumption | (dsimp only; with_reducible assumption) | solve_by_elim | (dsimp only; solve_by_elim)); (case p7 => first | omega | (dsimp only; omega) | with_reducible assumption | (dsimp only; with_reducible assumption) | solve_by_elim | (dsimp only; solve_by_elim)); (case p8 => first | with_reducible assumption | exact ⟨by dsimp only; omega, by dsimp only; omega⟩ | solve_by_elim | (dsimp only; solve_by_elim)); (case kd => ktr_room); (case ku => ktr_units); k_whole); intro r9 tl9 h9 tk9 F9 N9 hA9 hO9; (obtain ⟨b8, e8⟩ := RatOut.ref hO9; subst e8; have hR9 := RatOut.at hO9 F9; (try dsimp only at hO9 hR9)); (try dsimp only); (try k_fold))
  k_with "L:call ref" => (k_here; (with_reducible show wpAny _ _ (call (Value.ref 106) _) _ _ _); k_dflt (refine' letq_use ?p0 ?p1 ?p2 ?p3 ?p4 ?k1 ?k2 ?k3 ?k4 ?k5 ?kK ?kd ?ku ?_; (case k1 => k_asm); (case k2 => k_asm); (case k3 => k_asm); (case k4 => k_asm); (case k5 => k_asm); (case kK => first | exact rfl | assumption); (case p0 => assumption); (case p1 => kcf_all); (case p2 => first | omega | (dsimp only; omega) | with_reducible assumption | (dsimp only; with_reducible assumption) | solve_by_elim | (dsimp only; solve_by_elim)); (case p3 => first | omega | (dsimp only; omega) | with_reducible assumption | (dsimp only; with_reducible assumption) | solve_by_elim | (dsimp only; solve_by_elim)); (case p4 => first | with_reducible assumption | exact ⟨by dsimp only; omega, by dsimp only; omega⟩ | solve_by_elim | (dsimp only; solve_by_elim)); (case kd => ktr_room); (case ku => ktr_units); k_whole); intro r9 tl9 h9 tk9 F9 N9 hA9 hO9; subst hO9; (try dsimp only); (try k_fold))
  k_with "L:InvEndG" => (k_here; k_extra "InvEndG")
  k_with "L:call builtin:list.append" => (k_here; k_extra "call builtin:list.append")
  revert X; k_fill; intro X
  k_dflt (refine' enterP (fun tl r => SerOut tl r (ov 120 (expS c ys.length))) ?k1 ?k2 ?k3 ?k4 ?k5 ?kA ?kF ?kK ?k6 ?k7 ?k8 ?k9 ?kB hret ?_ ?c2 ?c3 ?c4 ?c5; ktn_open)
  intro g' L' h' tk' hg' F' N' B' X' T'
  clear hret
  have hp' : SerAt g' [] (.ref pa) (ov 1 ys) := (hp.mono hps).to F N hg'
  clear hp hps
  have hl : ys.length ≤ 100 := by have := hlH.out; lia
  have hl' : (ov 1 ys).length ≤ 100 := by rw [ov_length]; lia
  have hb0 : (red ((ov 1 ys).getD (Int.toNat 0) (0, 1))).1 = 0 := by
    have h0 := hy 0
    rw [ov_get (k := Int.toNat 0) (show (0 : Int).toNat < ys.length from hl1), show (Int.toNat 0) = 0 from rfl, h0]
    rfl
  (try dsimp only); (try k_fold)
  k_with "pyIter ref" => ((rename Fr _ _ _ _ => lF'); (rename News _ _ _ _ => lN'); k_dflt (refine' sexp_loop (pa := pa) (c := c) ?r1 ?r2 ?r3 ?r4 lF' lN' ?r5 ?r6 ?r7 (fun i₁ t₁ fa vs nn tl₁ u₁ h₁ tk₁ own₁ hi₁ hne₁ hoff₁ hR₁ F' N' => ?cturn) (fun fa vs nn tl₁ u₁ h₁ tk₁ hR₁ F' N' => ?cdone); (case r1 => rfl); (case r2 => assumption); (case r3 => exact small_one (by omega) (by omega) (by omega) (by omega)); (case r4 => exact rangeSize_nat _ _); (case r5 => k_mem); (case r6 => rfl); (case r7 => rfl)); (all_goals (try clear lF' lN')); (case' cturn => (have hS₁ : SerAt g' ((fa, listOf vs.toArray nn) :: tl₁) (.ref fa) (ov 120 (expS c i₁)) := SerAt.made (.head _) (hR₁ _ _ fun _ h => .tail _ h); have hL₁ := expS_length c i₁; have hn₁ := hR₁.length; rw [ov_length, hL₁] at hn₁)); (all_goals (try k_fold)))
  k_with "pyIter ref" => ((rename Fr _ _ _ _ => lF'); (rename News _ _ _ _ => lN'); k_dflt (refine' range_rat2 (y := Str.ofString "total") (fun k => (fS c i₁ k, 120)) ?r1 ?r2 ?r3 ?r4 lF' lN' ?r5 ?r6 (fun k₂ t₂ v₂ tl₂ h₂ tk₂ own₂ hk₂ hoff₂ hA₂ hO₂ F' N' => ?dturn) (fun v₂ u₂ tl₂ h₂ tk₂ hA₂ hO₂ F' N' => ?ddone); (case r1 => rfl); (case r2 => assumption); (case r3 => exact small_one (by omega) (by omega) (by omega) (by omega)); (case r4 => exact rangeSize_nat _ _); (case r5 => rfl); (case r6 => exact out_zero (show (0 : Int) < 120 by decide) rfl)); (all_goals (try clear lF' lN')); (all_goals have hR₂ := RatOut.at hO₂ F'); (all_goals have hB₁ := fS_bd hc0 hc1 i₁); (all_goals have hB₄ := fS_bd1 hc0 hc1 i₁); (case' dturn => have hB₂ := in_bd hc0 hc1 hy (show 0 ≤ 1 + (k₂ : Int) by omega) (show 1 + (k₂ : Int) ≤ 10 by have := hlH.out; omega)); (all_goals (try k_fold)))
  k_with "InvEndG" => (k_dflt (refine' rj2_end ?F ?N ?hv ?hO ?hA ?hoff ?hX ?hX' ?hn ?ht ?ho ?hm ?_; (case F => k_asm); (case N => k_asm); (case hv => exact rfl); (case hO => assumption); (case hA => assumption); (case hoff => assumption); (case hX => kcf_all); (case hX' => kcf_all); (case hn => kcf_all); (case ht => kcf_all); (case ho => kcf_all); (case hm => (intro z h1 h2; simp only [if_neg h1, if_neg h2]))))
  k_with "InvEndG" => (k_dflt (refine' sj_end (fa := fa) ?F ?N ?hR ?hne ?hoff ?hn ?ho ?h1 ?h2; (case F => k_asm); (case N => k_asm); (case hne => exact hne₃); (case hoff => exact hoff₃); (case hR => (rw [ov_exp]; refine hR₃ _ ?_; first | exact one_leaf (by assumption) | exact out_leaf (by assumption) (by have := hlH.out; omega))); (case hn => kcf_all); (case ho => kcf_all); (case h1 => exact rfl); (case h2 => exact rfl)))
  k_with "call builtin:list.append" => (k_dflt (refine' append_rat ?F ?N ?hO ?hA ?hne ?hoff ?hR ?hX ?hXo ?hm ?ht ?ho ?hv ?hl ?_; (case F => k_asm); (case N => k_asm); (case hO => first | assumption | exact out_one (tl := [])); (case hA => first | assumption | exact apart_nil (X := (fa, listOf vs.toArray nn) :: tl₁ ++ own₁)); (case hne => exact hne₁); (case hoff => exact hoff₁); (case hR => exact hR₁); (case hX => k_mem); (case hXo => kcf_all); (case hm => k_mem); (case ht => kcf_all); (case ho => kcf_all); (case hv => kcf_all); (case hl => omega)); intro h₃ n₃ F₃ N₃ hne₃ hoff₃ hR₃; (try dsimp only))
  k_steps
  all_goals (first
    | exact in_leaf hy (by lia)
    | (have e : ((ys.length : Int) - 0).toNat = ys.length := by lia
       rw [e] at hR₁; exact SerOut.lst hR₁ (by kcf_all) (by k_mem))
    | trace_state)

end
end Mine

namespace Mine
open PySem.Calls PySem.Spec
theorem low_turn {a b x y : Int} (h1 : 0 ≤ a) (h2 : 0 ≤ b) (h3 : Int.gcd a b = Int.gcd x y) (h4 : b ≠ 0) : 0 ≤ b ∧ 0 ≤ a.fmod b ∧ Int.gcd b (a.fmod b) = Int.gcd x y := gcd_turn h1 h2 h3 h4
theorem low_start {x y : Int} (hy : 0 < y) : 0 ≤ (if x < 0 then -x else x) ∧ 0 ≤ y ∧ Int.gcd (if x < 0 then -x else x) y = Int.gcd (if x < 0 then -x else x) y := by
  refine ⟨?_, by lia, rfl⟩
  split <;> lia
theorem low_end {a b x y : Int} (h3 : Int.gcd a b = Int.gcd (if x < 0 then -x else x) y) (h1 : 0 ≤ a) (hb : b = 0) : a = Int.gcd x y := by
  have e1 : Int.gcd (if x < 0 then -x else x) y = Int.gcd x y := by
    split <;> simp
  rw [hb, Int.gcd_zero_right, e1] at h3
  lia
/-- the product of the n numbers behind x -/
def stepS (x : Int) : Nat → Int
  | 0 => 1
  | k + 1 => stepS x k * (x + (1 + (k : Int)))
section
variable {w : World} {mean : ExcName → Option Value} {mg mb : Str → Option Value} {dp un : Nat} {gd : Option (List Code)} {cn : Str} {cs : Scope} {a : Addr} {ccd : Value} {cl : List (Str × Addr)} {outer : List Env} {A₀ : Around} {base h₀ : Heap} {L : Addr} {m : Str → Option Value} {news : List (Addr × Obj)} {s : Shared} {Q E : Value → Shared → Prop}
set_option maxHeartbeats 4000000 in
theorem low_use {x y : Int} {t u : Tok} (hy : 0 < y) (hy2 : y < 1073741824) (B : Below A₀ base outer h₀) (F : Fr h₀ L s.heap m) (X : (hd.heap_39 w.params).In h₀) (N : News h₀ L s.heap news) (T : Top hd.view_39 (looseW hd.view_39 []) mean mg mb h₀) (hk : cs.kind = .function)
    (hdp : dp + 1 < recursionLimit) (hun : un + 8 + 64 < cLine)
    (hret : ∀ r tl h' tk', Fr h₀ L h' m → News h₀ L h' (news ++ tl) → Apart news tl → RatOut tl r (red (x, y)) → Q r { s with heap := h', toks := tk' }) :
    wpAny (model PySem.Challenge.rw_tk0030_01.row.prog w) (ktrTop dp un gd cn cs L a ccd cl outer) (call (.ref 166) [.int x t, .int y u]) Q E s := by
  k_with_none
  w_top off
  k_with "L:ktn_open" => ((case kA => exact rfl); (case kF => exact rfl); (case kK => first | exact rfl | assumption); (case k1 => k_asm); (case k2 => k_asm); (case k3 => k_asm); (case k4 => k_asm); (case k5 => k_asm); (case k6 => k_is); (case k7 => k_is); (case k8 => ktr_room); (case k9 => exact BindsTo.of_eq rfl); (case c5 => decide); (case kB => exact locs rfl); (case c2 => exact rfl); (case c3 => exact rfl); (case c4 => exact rfl); k_whole)
  k_with "L:exec For Name Call cons nil" => (k_here; (rename Fr _ _ _ _ => lF'); (with_unfolding_all refine' For_invVF lF' ?k1 ?k2 ?_; (case k1 => exact rfl); (case k2 => exact rfl); k_whole))
  k_with "L:pyIter ref" => (k_here; k_extra "pyIter ref")
  k_with "L:RetOf" => (k_dflt (refine' retOf_mk ?rF ?rN ?_; (case rF => k_asm); (case rN => k_asm)); (try dsimp only))
  k_with "L:subscriptTail" => (k_here; (first | ((with_reducible show wpAny _ _ (subscriptTail _ _ (Value.ref _) (Value.int 0 _)) _ _ _); k_dflt (refine' rat_item0 ?hR ?hs ?F ?X ?N ?_ ?he; (case hR => assumption); (case F => k_asm); (case X => k_asm); (case N => k_asm); (case hs => kcf_all); (case he => with_unfolding_all rfl))) | ((with_reducible show wpAny _ _ (subscriptTail _ _ (Value.ref _) (Value.int 1 _)) _ _ _); k_dflt (refine' rat_item1 ?hR ?hs ?F ?X ?N ?_ ?he; (case hR => assumption); (case F => k_asm); (case X => k_asm); (case N => k_asm); (case hs => kcf_all); (case he => with_unfolding_all rfl)))); intro t9; (try dsimp only))
  k_with "L:binaryOp FloorDiv int int" => (k_here; k_extra "binaryOp FloorDiv int int")
  revert X; k_fill; intro X
  k_dflt (refine' enterP (fun tl r => RatOut tl r (red (x, y))) ?k1 ?k2 ?k3 ?k4 ?k5 ?kA ?kF ?kK ?k6 ?k7 ?k8 ?k9 ?kB hret ?_ ?c2 ?c3 ?c4 ?c5; ktn_open)
  intro g' L' h' tk' hg' F' N' B' X' T'
  clear hret
  have hg1 := gcd_pos (x := x) hy
  have hg2 := gcd_le (x := x) hy
  (try dsimp only); (try k_fold)
  k_with "exec While Compare cons nil" => k_while_given ["one!","other!"] (fun a₀ b₀ script a b => 0 ≤ a ∧ 0 ≤ b ∧ Int.gcd a b = Int.gcd a₀ b₀) (fun a₀ b₀ script a b => b.toNat) "one" "other"
  k_with "state" => first | exact low_turn (by assumption) (by assumption) (by assumption) (by assumption) | exact low_start (by assumption)
  k_with "measure" => exact gcd_less (by assumption) (by assumption)
  k_with "binaryOp FloorDiv int int" => (have e9 := low_end (by assumption) (by assumption) (by assumption); subst e9)
  k_steps
  all_goals (first | (intro g led hs; exact RatAt.made (hs _ (by k_mem))) | trace_state)
set_option maxHeartbeats 4000000 in
theorem steps1_use {x : Int} {t u : Tok} (h0 : 0 ≤ x) (h1 : x ≤ 100) (B : Below A₀ base outer h₀) (F : Fr h₀ L s.heap m) (X : (hd.heap_39 w.params).In h₀) (N : News h₀ L s.heap news) (T : Top hd.view_39 (looseW hd.view_39 []) mean mg mb h₀) (hk : cs.kind = .function)
    (hdp : dp + 1 < recursionLimit) (hun : un + 8 + 64 < cLine)
    (hret : ∀ r tl h' tk', Fr h₀ L h' m → News h₀ L h' (news ++ tl) → Apart news tl → (∃ t, r = .int (stepS x 1) t) → Q r { s with heap := h', toks := tk' }) :
    wpAny (model PySem.Challenge.rw_tk0030_01.row.prog w) (ktrTop dp un gd cn cs L a ccd cl outer) (call (.ref 173) [.int x t, .int 1 u]) Q E s := by
  k_with_none
  w_top off
  k_with "L:ktn_open" => ((case kA => exact rfl); (case kF => exact rfl); (case kK => first | exact rfl | assumption); (case k1 => k_asm); (case k2 => k_asm); (case k3 => k_asm); (case k4 => k_asm); (case k5 => k_asm); (case k6 => k_is); (case k7 => k_is); (case k8 => ktr_room); (case k9 => exact BindsTo.of_eq rfl); (case c5 => decide); (case kB => exact locs rfl); (case c2 => exact rfl); (case c3 => exact rfl); (case c4 => exact rfl); k_whole)
  k_with "L:exec For Name Call cons nil" => (k_here; (rename Fr _ _ _ _ => lF'); (with_unfolding_all refine' For_invVF lF' ?k1 ?k2 ?_; (case k1 => exact rfl); (case k2 => exact rfl); k_whole))
  k_with "L:pyIter ref" => (k_here; k_extra "pyIter ref")
  k_with "L:RetOf" => (k_dflt (refine' retOf_mk ?rF ?rN ?_; (case rF => k_asm); (case rN => k_asm)); (try dsimp only))
  k_with "L:subscriptTail" => (k_here; (first | ((with_reducible show wpAny _ _ (subscriptTail _ _ (Value.ref _) (Value.int 0 _)) _ _ _); k_dflt (refine' rat_item0 ?hR ?hs ?F ?X ?N ?_ ?he; (case hR => assumption); (case F => k_asm); (case X => k_asm); (case N => k_asm); (case hs => kcf_all); (case he => with_unfolding_all rfl))) | ((with_reducible show wpAny _ _ (subscriptTail _ _ (Value.ref _) (Value.int 1 _)) _ _ _); k_dflt (refine' rat_item1 ?hR ?hs ?F ?X ?N ?_ ?he; (case hR => assumption); (case F => k_asm); (case X => k_asm); (case N => k_asm); (case hs => kcf_all); (case he => with_unfolding_all rfl)))); intro t9; (try dsimp only))
  k_with "L:binaryOp FloorDiv int int" => (k_here; k_extra "binaryOp FloorDiv int int")
  revert X; k_fill; intro X
  k_dflt (refine' enterP (fun tl r => (∃ t, r = .int (stepS x 1) t)) ?k1 ?k2 ?k3 ?k4 ?k5 ?kA ?kF ?kK ?k6 ?k7 ?k8 ?k9 ?kB hret ?_ ?c2 ?c3 ?c4 ?c5; ktn_open)
  intro g' L' h' tk' hg' F' N' B' X' T'
  clear hret
  (try dsimp only); (try k_fold)
  k_steps
  all_goals (first | exact ⟨_, rfl⟩ | trace_state)
set_option maxHeartbeats 4000000 in
theorem steps2_use {x : Int} {t u : Tok} (h0 : 0 ≤ x) (h1 : x ≤ 100) (B : Below A₀ base outer h₀) (F : Fr h₀ L s.heap m) (X : (hd.heap_39 w.params).In h₀) (N : News h₀ L s.heap news) (T : Top hd.view_39 (looseW hd.view_39 []) mean mg mb h₀) (hk : cs.kind = .function)
    (hdp : dp + 1 < recursionLimit) (hun : un + 8 + 64 < cLine)
    (hret : ∀ r tl h' tk', Fr h₀ L h' m → News h₀ L h' (news ++ tl) → Apart news tl → (∃ t, r = .int (stepS x 2) t) → Q r { s with heap := h', toks := tk' }) :
    wpAny (model PySem.Challenge.rw_tk0030_01.row.prog w) (ktrTop dp un gd cn cs L a ccd cl outer) (call (.ref 173) [.int x t, .int 2 u]) Q E s := by
  k_with_none
  w_top off
  k_with "L:ktn_open" => ((case kA => exact rfl); (case kF => exact rfl); (case kK => first | exact rfl | assumption); (case k1 => k_asm); (case k2 => k_asm); (case k3 => k_asm); (case k4 => k_asm); (case k5 => k_asm); (case k6 => k_is); (case k7 => k_is); (case k8 => ktr_room); (case k9 => exact BindsTo.of_eq rfl); (case c5 => decide); (case kB => exact locs rfl); (case c2 => exact rfl); (case c3 => exact rfl); (case c4 => exact rfl); k_whole)
  k_with "L:exec For Name Call cons nil" => (k_here; (rename Fr _ _ _ _ => lF'); (with_unfolding_all refine' For_invVF lF' ?k1 ?k2 ?_; (case k1 => exact rfl); (case k2 => exact rfl); k_whole))
  k_with "L:pyIter ref" => (k_here; k_extra "pyIter ref")
  k_with "L:RetOf" => (k_dflt (refine' retOf_mk ?rF ?rN ?_; (case rF => k_asm); (case rN => k_asm)); (try dsimp only))
  k_with "L:subscriptTail" => (k_here; (first | ((with_reducible show wpAny _ _ (subscriptTail _ _ (Value.ref _) (Value.int 0 _)) _ _ _); k_dflt (refine' rat_item0 ?hR ?hs ?F ?X ?N ?_ ?he; (case hR => assumption); (case F => k_asm); (case X => k_asm); (case N => k_asm); (case hs => kcf_all); (case he => with_unfolding_all rfl))) | ((with_reducible show wpAny _ _ (subscriptTail _ _ (Value.ref _) (Value.int 1 _)) _ _ _); k_dflt (refine' rat_item1 ?hR ?hs ?F ?X ?N ?_ ?he; (case hR => assumption); (case F => k_asm); (case X => k_asm); (case N => k_asm); (case hs => kcf_all); (case he => with_unfolding_all rfl)))); intro t9; (try dsimp only))
  k_with "L:binaryOp FloorDiv int int" => (k_here; k_extra "binaryOp FloorDiv int int")
  revert X; k_fill; intro X
  k_dflt (refine' enterP (fun tl r => (∃ t, r = .int (stepS x 2) t)) ?k1 ?k2 ?k3 ?k4 ?k5 ?kA ?kF ?kK ?k6 ?k7 ?k8 ?k9 ?kB hret ?_ ?c2 ?c3 ?c4 ?c5; ktn_open)
  intro g' L' h' tk' hg' F' N' B' X' T'
  clear hret
  (try dsimp only); (try k_fold)
  k_steps
  all_goals (first | exact ⟨_, rfl⟩ | trace_state)
set_option maxHeartbeats 4000000 in
theorem steps3_use {x : Int} {t u : Tok} (h0 : 0 ≤ x) (h1 : x ≤ 100) (B : Below A₀ base outer h₀) (F : Fr h₀ L s.heap m) (X : (hd.heap_39 w.params).In h₀) (N : News h₀ L s.heap news) (T : Top hd.view_39 (looseW hd.view_39 []) mean mg mb h₀) (hk : cs.kind = .function)
    (hdp : dp + 1 < recursionLimit) (hun : un + 8 + 64 < cLine)
    (hret : ∀ r tl h' tk', Fr h₀ L h' m → News h₀ L h' (news ++ tl) → Apart news tl → (∃ t, r = .int (stepS x 3) t) → Q r { s with heap := h', toks := tk' }) :
    wpAny (model PySem.Challenge.rw_tk0030_01.row.prog w) (ktrTop dp un gd cn cs L a ccd cl outer) (call (.ref 173) [.int x t, .int 3 u]) Q E s := by
  k_with_none
  w_top off
  k_with "L:ktn_open" => ((case kA => exact rfl); (case kF => exact rfl); (case kK => first | exact rfl | assumption); (case k1 => k_asm); (case k2 => k_asm); (case k3 => k_asm); (case k4 => k_asm); (case k5 => k_asm); (case k6 => k_is); (case k7 => k_is); (case k8 => ktr_room); (case k9 => exact BindsTo.of_eq rfl); (case c5 => decide); (case kB => exact locs rfl); (case c2 => exact rfl); (case c3 => exact rfl); (case c4 => exact rfl); k_whole)
  k_with "L:exec For Name Call cons nil" => (k_here; (rename Fr _ _ _ _ => lF'); (with_unfolding_all refine' For_invVF lF' ?k1 ?k2 ?_; (case k1 => exact rfl); (case k2 => exact rfl); k_whole))
  k_with "L:pyIter ref" => (k_here; k_extra "pyIter ref")
  k_with "L:RetOf" => (k_dflt (refine' retOf_mk ?rF ?rN ?_; (case rF => k_asm); (case rN => k_asm)); (try dsimp only))
  k_with "L:subscriptTail" => (k_here; (first | ((with_reducible show wpAny _ _ (subscriptTail _ _ (Value.ref _) (Value.int 0 _)) _ _ _); k_dflt (refine' rat_item0 ?hR ?hs ?F ?X ?N ?_ ?he; (case hR => assumption); (case F => k_asm); (case X => k_asm); (case N => k_asm); (case hs => kcf_all); (case he => with_unfolding_all rfl))) | ((with_reducible show wpAny _ _ (subscriptTail _ _ (Value.ref _) (Value.int 1 _)) _ _ _); k_dflt (refine' rat_item1 ?hR ?hs ?F ?X ?N ?_ ?he; (case hR => assumption); (case F => k_asm); (case X => k_asm); (case N => k_asm); (case hs => kcf_all); (case he => with_unfolding_all rfl)))); intro t9; (try dsimp only))
  k_with "L:binaryOp FloorDiv int int" => (k_here; k_extra "binaryOp FloorDiv int int")
  revert X; k_fill; intro X
  k_dflt (refine' enterP (fun tl r => (∃ t, r = .int (stepS x 3) t)) ?k1 ?k2 ?k3 ?k4 ?k5 ?kA ?kF ?kK ?k6 ?k7 ?k8 ?k9 ?kB hret ?_ ?c2 ?c3 ?c4 ?c5; ktn_open)
  intro g' L' h' tk' hg' F' N' B' X' T'
  clear hret
  (try dsimp only); (try k_fold)
  k_steps
  all_goals (first | exact ⟨_, rfl⟩ | trace_state)
end
end Mine

namespace Mine
open PySem.Calls PySem.Spec
def derN (ps : List (Int × Int)) : Nat → List (Int × Int)
  | 0 => ps
  | n + 1 => derP (derN ps n)
/-- what a slope asks -/
def DerOk (ps : List (Int × Int)) : Prop := ps.length ≤ 100 ∧ 1 ≤ ps.length ∧ (∀ i, 0 < (ps.getD i (0, 1)).2) ∧ ∀ i, 1 * (ps.getD i (0, 1)).2 < 1073741824
/-- a list that holds a series and its slopes -/
def Ders (tl : List (Addr × Obj)) (pa : Addr) (ps : List (Int × Int)) (n : Nat) (vs : List Value) : Prop :=
  vs.length = n + 1 ∧ vs[0]? = some (.ref pa) ∧ ∀ j, 1 ≤ j → j ≤ n → ∃ a, vs[j]? = some (.ref a) ∧ SerOut tl (.ref a) (derN ps j)
theorem Ders.mono {tl led : List (Addr × Obj)} {pa : Addr} {ps : List (Int × Int)} {n : Nat} {vs : List Value} (h : Ders tl pa ps n vs) (hs : ∀ p ∈ tl, p ∈ led) : Ders led pa ps n vs :=
  ⟨h.1, h.2.1, fun j h1 h2 => by obtain ⟨a, e, hO⟩ := h.2.2 j h1 h2; exact ⟨a, e, hO.mono hs⟩⟩
theorem Ders.at {g : Heap} {n₁ tl : List (Addr × Obj)} {pa : Addr} {ps : List (Int × Int)} {n : Nat} {vs : List Value} (h : Ders tl pa ps n vs) (hp : SerAt g n₁ (.ref pa) ps) {j : Nat} (hj : j ≤ n) : ∃ la, vs[j]? = some (.ref la) ∧ SerAt g (n₁ ++ tl) (.ref la) (derN ps j) := by
  rcases Nat.eq_zero_or_pos j with h0 | h0
  · subst h0
    exact ⟨pa, h.2.1, hp.mono fun p hp => List.mem_append.mpr (.inl hp)⟩
  · obtain ⟨a, e, hO⟩ := h.2.2 j h0 hj
    exact ⟨a, e, hO _ _ fun p hp => List.mem_append.mpr (.inr hp)⟩
theorem Ders.snoc {tl tlv : List (Addr × Obj)} {pa : Addr} {ps : List (Int × Int)} {n : Nat} {vs : List Value} {v : Value} (h : Ders tl pa ps n vs) (hO : SerOut tlv v (derN ps (n + 1))) : Ders (tl ++ tlv) pa ps (n + 1) (vs ++ [v]) := by
  obtain ⟨h1, h2, h3⟩ := h
  refine ⟨by rw [List.length_append, h1]; rfl, by rw [List.getElem?_append_left (by lia)]; exact h2, fun j hj1 hj2 => ?_⟩
  rcases Nat.lt_or_ge n j with h | h
  · have e : j = n + 1 := by lia
    subst e
    obtain ⟨a, e⟩ := hO.ref
    subst e
    refine ⟨a, ?_, hO.mono fun p hp => List.mem_append.mpr (.inr hp)⟩
    rw [List.getElem?_append_right (by lia), h1]
    simp
  · obtain ⟨a, e, hO'⟩ := h3 j hj1 h
    refine ⟨a, ?_, hO'.mono fun p hp => List.mem_append.mpr (.inl hp)⟩
    rw [List.getElem?_append_left (by lia)]
    exact e
def DJ (pa : Addr) (ps : List (Int × Int)) (i : Nat) (m : Str → Option Value) (nx : List (Addr × Obj)) : Prop :=
  ∃ fa vs nn tl, nx = (fa, listOf vs.toArray nn) :: tl ∧ (∀ p ∈ tl, p.1 ≠ fa) ∧ Ders tl pa ps i vs ∧ m (Str.ofString "found") = some (.ref fa)
section
variable {prog : Program} {w : World} {A : Around} {E : Value → Shared → Prop} {s : Shared} {env : Env} {h₀ : Heap} {x : Str} {body : List Stmt} {Q : Flow → Shared → Prop}
theorem frame_one {y : Str} {m₁ : Str → Option Value} {v : Value} (hv : m₁ y = some v) : m₁ = fun k => if k = y then some v else m₁ k := by
  funext k
  by_cases h2 : k = y
  · subst h2; simp [hv]
  · simp [h2]
theorem der_loop {pa : Addr} {ps : List (Int × Int)} {r fa₀ : Addr} {nn₀ : Nat} {a₀ b₀ : Int} {t₀ u₀ v₀ : Tok} {n : Nat} {m₀ : Str → Option Value} {news : List (Addr × Obj)}
    (hh : A.handled = none) (hr : IsRange s.heap r a₀ b₀ 1 t₀ u₀ v₀) (hsmall : Builtin.Range.small a₀ b₀ 1 = true) (hsz : Builtin.Range.rangeSize a₀ b₀ 1 = (n : Int)) (F : Fr h₀ env.locals s.heap m₀) (N : News h₀ env.locals s.heap news)
    (hm : (fa₀, listOf ([.ref pa] : List Value).toArray nn₀) ∈ news) (hf : m₀ (Str.ofString "found") = some (.ref fa₀))
    (turn : ∀ (i : Nat) t fa vs nn tl (u : Str → Option Value) h tk own, i < n → (∀ p ∈ tl, p.1 ≠ fa) → OwnOff own (((fa, listOf vs.toArray nn) :: tl).map (·.1)) → Ders tl pa ps i vs →
      Fr h₀ env.locals h (fun z => if z = x then some (.int (a₀ + (i : Int)) t) else if z = Str.ofString "found" then some (.ref fa) else u z) → News h₀ env.locals h ((fa, listOf vs.toArray nn) :: tl ++ own) →
      wpAny (model prog w) A (execs body env) (InvPostG h₀ env.locals (DJ pa ps (i + 1)) own { s with heap := h, toks := tk } Q) E { s with heap := h, toks := tk })
    (done : ∀ fa vs nn tl (u : Str → Option Value) h tk, Ders tl pa ps n vs → Fr h₀ env.locals h (fun z => if z = Str.ofString "found" then some (.ref fa) else u z) → News h₀ env.locals h ((fa, listOf vs.toArray nn) :: tl) → Q .next { s with heap := h, toks := tk }) :
    wpAny (model prog w) A (pyIter (.ref r)) (fun it s₂ => LoopAtV prog w A h₀ env x body Q E it s₂) E s := by
  refine range_inv (DJ pa ps) hh hr hsmall hsz F (news := [(fa₀, listOf ([.ref pa] : List Value).toArray nn₀)]) (fun p hp => by rw [List.mem_singleton.mp hp]; exact N _ hm) ⟨fa₀, [.ref pa], nn₀, [], rfl, (fun _ h => (nomatch h)), ⟨rfl, rfl, fun j h1 h2 => by lia⟩, hf⟩ ?_ ?_
  · rintro i t m₁ nx h tk own hi hoff ⟨fa, vs, nn, tl, rfl, hne, hR, h1⟩ F₁ N₁
    refine turn i t fa vs nn tl m₁ h tk own hi hne hoff hR ?_ N₁
    rw [frame_one h1] at F₁
    exact F₁
  · rintro m₁ nx h tk ⟨fa, vs, nn, tl, rfl, hne, hR, h1⟩ F₁ N₁
    refine done fa vs nn tl m₁ h tk hR ?_ N₁
    rw [← frame_one h1]
    exact F₁
theorem dj_end {pa fa L : Addr} {ps : List (Int × Int)} {i nn : Nat} {vs : List Value} {m' : Str → Option Value} {own tl news' : List (Addr × Obj)} {s₁ : Shared} {h' : Heap} {tk : Nat} (F : Fr h₀ L h' m') (N : News h₀ L h' news') (hR : Ders tl pa ps (i + 1) vs) (hne : ∀ p ∈ tl, p.1 ≠ fa) (hoff : OwnOff own (((fa, listOf vs.toArray nn) :: tl).map (·.1)))
    (hn : ∀ p ∈ (fa, listOf vs.toArray nn) :: tl, p ∈ news') (ho : ∀ p ∈ own, p ∈ news') (h1 : m' (Str.ofString "found") = some (.ref fa)) : InvEndG h₀ L (DJ pa ps (i + 1)) own s₁ { s₁ with heap := h', toks := tk } :=
  InvEndG.intro F N ⟨fa, vs, nn, tl, rfl, hne, hR, h1⟩ hoff hn ho
end
section
variable {prog : Program} {w : World} {A : Around} {E : Value → Shared → Prop} {s : Shared} {h₀ : Heap} {L fa : Addr} {m : Str → Option Value} {led tl own X tlv : List (Addr × Obj)} {vs : List Value} {nn i : Nat} {v : Value} {q ps : List (Int × Int)} {pa : Addr} {Q : Value → Shared → Prop}
theorem append_ser (F : Fr h₀ L s.heap m) (N : News h₀ L s.heap led) (hO : SerOut tlv v q) (hA : Apart X tlv) (hne : ∀ p ∈ tl, p.1 ≠ fa) (hoff : OwnOff own (((fa, listOf vs.toArray nn) :: tl).map (·.1))) (hR : Ders tl pa ps i vs)
    (hX : (fa, listOf vs.toArray nn) ∈ X) (hXo : ∀ p ∈ own, p ∈ X) (hm : (fa, listOf vs.toArray nn) ∈ led) (ht : ∀ p ∈ tl, p ∈ led) (ho : ∀ p ∈ own, p ∈ led) (hv : ∀ p ∈ tlv, p ∈ led) (hl : vs.length ≤ 100) (hq : q = derN ps (i + 1))
    (h : ∀ h' n', Fr h₀ L h' m → News h₀ L h' ((fa, listOf (vs ++ [v]).toArray n') :: (tl ++ tlv ++ own)) → (∀ p ∈ tl ++ tlv, p.1 ≠ fa) → OwnOff own (((fa, listOf (vs ++ [v]).toArray n') :: (tl ++ tlv)).map (·.1)) → Ders (tl ++ tlv) pa ps (i + 1) (vs ++ [v]) → Q .none { s with heap := h' }) :
    wpAny (model prog w) A (call (.builtin "list.append") [.ref fa, v]) Q E s := by
  subst hq
  have h1 : ∀ p ∈ tl ++ tlv, p.1 ≠ fa := fun p hp => (List.mem_append.mp hp).elim (hne p) fun hp e => hA _ hX p hp e.symm
  have hoff' : OwnOff own ((tl ++ tlv).map (·.1)) := by
    intro p hp b hb
    obtain ⟨r, hr, rfl⟩ := List.mem_map.mp hb
    rcases List.mem_append.mp hr with hr | hr
    · exact hoff p hp _ (List.mem_map.mpr ⟨r, .tail _ hr, rfl⟩)
    · exact hA p (hXo p hp) r hr
  have h2 : ∀ p ∈ own, p.1 ≠ fa := fun p hp => hoff p hp fa (.head _)
  refine append_mine (K := tl ++ tlv ++ own) F N hm (fun p hp => ?_) (fun p hp => ?_) hl (fun h' n' F' N' => h h' n' F' N' h1 (fun p hp b hb => ?_) (hR.snoc hO))
  · rcases List.mem_append.mp hp with hp | hp
    · rcases List.mem_append.mp hp with hp | hp
      · exact ht p hp
      · exact hv p hp
    · exact ho p hp
  · rcases List.mem_append.mp hp with hp | hp
    · exact h1 p hp
    · exact h2 p hp
  · rcases List.mem_cons.mp hb with rfl | hb
    · exact h2 p hp
    · exact hoff' p hp b hb
theorem last_item {value slice : PySem.Expr} {u : Tok} (N : News h₀ L s.heap led) (hm : (fa, listOf vs.toArray nn) ∈ led) (hl : vs.length = i + 1) (hx : vs[i]? = some v) (h : Q v s)
    (he : subscripted slice false (.ref fa) (.int (-1) u) = operate [.ref fa, .int (-1) u] (getItem (.ref fa) (.int (-1) u))) :
    wpAny (model prog w) A (subscriptTail value slice (.ref fa) (.int (-1) u)) Q E s := by
  refine kde_neg ⟨_, (N _ hm).1, rfl, _, rfl⟩ (by decide) (by decide) (j := i) ?_ hx h he
  rw [hl]
  unfold seqIndex?
  simp
  lia
end
section
variable {w : World} {mean : ExcName → Option Value} {mg mb : Str → Option Value} {dp un : Nat} {gd : Option (List Code)} {cn : Str} {cs : Scope} {a : Addr} {ccd : Value} {cl : List (Str × Addr)} {outer : List Env} {A₀ : Around} {base h₀ : Heap} {L : Addr} {m : Str → Option Value} {news : List (Addr × Obj)} {s : Shared} {Q E : Value → Shared → Prop}
set_option maxHeartbeats 4000000 in
theorem derived_use {pa : Addr} {ps : List (Int × Int)} {k : Int} {t₀ : Tok} {n₁ : List (Addr × Obj)} (hp : SerAt h₀ n₁ (.ref pa) ps) (hps : ∀ z ∈ n₁, z ∈ news) (hk0 : 0 ≤ k) (hk1 : k ≤ 50) (hok : ∀ j : Nat, (j : Int) < k → DerOk (derN ps j)) (B : Below A₀ base outer h₀) (F : Fr h₀ L s.heap m) (X : (hd.heap_39 w.params).In h₀) (N : News h₀ L s.heap news) (T : Top hd.view_39 (looseW hd.view_39 []) mean mg mb h₀) (hk : cs.kind = .function)
    (hdp : dp + 6 < recursionLimit) (hun : un + 48 + 64 < cLine)
    (hret : ∀ r tl h' tk', Fr h₀ L h' m → News h₀ L h' (news ++ tl) → Apart news tl → (∃ D vs nn, r = .ref D ∧ (D, listOf vs.toArray nn) ∈ tl ∧ Ders tl pa ps k.toNat vs) → Q r { s with heap := h', toks := tk' }) :
    wpAny (model PySem.Challenge.rw_tk0030_01.row.prog w) (ktrTop dp un gd cn cs L a ccd cl outer) (call (.ref 180) [.ref pa, .int k t₀]) Q E s := by
  k_with_none
  w_top off
  k_with "L:ktn_open" => ((case kA => exact rfl); (case kF => exact rfl); (case kK => first | exact rfl | assumption); (case k1 => k_asm); (case k2 => k_asm); (case k3 => k_asm); (case k4 => k_asm); (case k5 => k_asm); (case k6 => k_is); (case k7 => k_is); (case k8 => ktr_room); (case k9 => exact BindsTo.of_eq rfl); (case c5 => decide); (case kB => exact locs rfl); (case c2 => exact rfl); (case c3 => exact rfl); (case c4 => exact rfl); k_whole)
  k_with "L:exec For Name Call cons nil" => (k_here; (rename Fr _ _ _ _ => lF'); (with_unfolding_all refine' For_invVF lF' ?k1 ?k2 ?_; (case k1 => exact rfl); (case k2 => exact rfl); k_whole))
  k_with "L:pyIter ref" => (k_here; k_extra "pyIter ref")
  k_with "L:RetOf" => (k_dflt (refine' retOf_mk ?rF ?rN ?_; (case rF => k_asm); (case rN => k_asm)); (try dsimp only))
  k_with "L:subscriptTail" => (k_here; (first | ((with_reducible show wpAny _ _ (subscriptTail _ _ (Value.ref _) (Value.int 0 _)) _ _ _); k_dflt (refine' rat_item0 ?hR ?hs ?F ?X ?N ?_ ?he; (case hR => assumption); (case F => k_asm); (case X => k_asm); (case N => k_asm); (case hs => kcf_all); (case he => with_unfolding_all rfl))) | ((with_reducible show wpAny _ _ (subscriptTail _ _ (Value.ref _) (Value.int 1 _)) _ _ _); k_dflt (refine' rat_item1 ?hR ?hs ?F ?X ?N ?_ ?he; (case hR => assumption); (case F => k_asm); (case X => k_asm); (case N => k_asm); (case hs => kcf_all); (case he => with_unfolding_all rfl)))); intro t9; (try dsimp only))
  k_with "L:call ref" => (k_here; (with_reducible show wpAny _ _ (call (Value.ref 133) _) _ _ _); k_dflt (refine' sderive_use ?p0 ?p1 ?p2 ?p3 ?p4 ?p5 ?k1 ?k2 ?k3 ?k4 ?k5 ?kK ?kd ?ku ?_; (case k1 => k_asm); (case k2 => k_asm); (case k3 => k_asm); (case k4 => k_asm); (case k5 => k_asm); (case kK => first | exact rfl | assumption); (case p0 => assumption); (case p1 => kcf_all); (case p2 => assumption); (case p3 => assumption); (case p4 => assumption); (case p5 => assumption); (case kd => ktr_room); (case ku => ktr_units); k_whole); intro r9 tl9 h9 tk9 F9 N9 hA9 hO9; (obtain ⟨b8, e8⟩ := SerOut.ref hO9; subst e8; have hR9 := SerOut.at hO9 F9); (try dsimp only); (try k_fold))
  k_with "L:InvEndG" => (k_here; k_extra "InvEndG")
  k_with "L:subscriptTail" => (k_here; k_extra "subscriptTail")
  k_with "L:call builtin:list.append" => (k_here; k_extra "call builtin:list.append")
  revert X; k_fill; intro X
  k_dflt (refine' enterP (fun tl r => (∃ D vs nn, r = .ref D ∧ (D, listOf vs.toArray nn) ∈ tl ∧ Ders tl pa ps k.toNat vs)) ?k1 ?k2 ?k3 ?k4 ?k5 ?kA ?kF ?kK ?k6 ?k7 ?k8 ?k9 ?kB hret ?_ ?c2 ?c3 ?c4 ?c5; ktn_open)
  intro g' L' h' tk' hg' F' N' B' X' T'
  clear hret
  have hp' : SerAt g' [] (.ref pa) ps := (hp.mono hps).to F N hg'
  clear hp hps
  (try dsimp only); (try k_fold)
  k_with "pyIter ref" => ((rename Fr _ _ _ _ => lF'); (rename News _ _ _ _ => lN'); k_dflt (refine' der_loop (pa := pa) (ps := ps) ?r1 ?r2 ?r3 ?r4 lF' lN' ?r5 ?r6 (fun i₁ t₁ fa vs nn tl₁ u₁ h₁ tk₁ own₁ hi₁ hne₁ hoff₁ hR₁ F' N' => ?cturn) (fun fa vs nn tl₁ u₁ h₁ tk₁ hR₁ F' N' => ?cdone); (case r1 => rfl); (case r2 => assumption); (case r3 => exact small_one (by omega) (by omega) (by omega) (by omega)); (case r4 => exact rangeSize_nat _ _); (case r5 => k_mem); (case r6 => rfl)); (all_goals (try clear lF' lN')); k_dflt (case' cturn => (have hn₁ := hR₁.1; have hi₂ : (i₁ : Int) < k := (by omega); obtain ⟨ok1, ok2, ok3, ok4⟩ := hok i₁ hi₂; obtain ⟨la, hla, hS₁⟩ := hR₁.at hp' (Nat.le_refl _))); (all_goals (try k_fold)))
  k_with "subscriptTail" => (k_dflt (refine' last_item ?N ?hm ?hl ?hx ?_ ?he; (case N => k_asm); (case hl => exact hn₁); (case hx => exact hla); (case hm => k_mem); (case he => with_unfolding_all rfl)); (try dsimp only))
  k_with "InvEndG" => (k_dflt (refine' dj_end (fa := fa) ?F ?N ?hR ?hne ?hoff ?hn ?ho ?h1; (case F => k_asm); (case N => k_asm); (case hne => exact hne₃); (case hoff => exact hoff₃); (case hR => exact hR₃); (case hn => kcf_all); (case ho => kcf_all); (case h1 => exact rfl)))
  k_with "call builtin:list.append" => (k_dflt (refine' append_ser ?F ?N ?hO ?hA ?hne ?hoff ?hR ?hX ?hXo ?hm ?ht ?ho ?hv ?hl ?hq ?_; (case F => k_asm); (case N => k_asm); (case hO => assumption); (case hA => assumption); (case hne => exact hne₁); (case hoff => exact hoff₁); (case hR => exact hR₁); (case hX => k_mem); (case hXo => kcf_all); (case hm => k_mem); (case ht => kcf_all); (case ho => kcf_all); (case hv => kcf_all); (case hl => omega); (case hq => rfl)); intro h₃ n₃ F₃ N₃ hne₃ hoff₃ hR₃; (try dsimp only))
  k_steps
  all_goals (first
    | (rw [Int.sub_zero] at hR₁; exact ⟨_, _, _, rfl, by k_mem, hR₁.mono (by kcf_all)⟩)
    | trace_state)

end
end Mine

namespace Mine
open PySem.Calls PySem.Spec
section
variable {prog : Program} {w : World} {A : Around} {E : Value → Shared → Prop} {s : Shared} {h₀ : Heap} {cn : Str} {cs : Scope} {L a : Addr} {ccd : Value} {cl : List (Str × Addr)} {x : Str} {body : List Stmt} {Q : Flow → Shared → Prop} {c : Addr}
/-- a loop over a range whose target is a cell: what stands behind the range's own reckoning -/
def CellLoop (prog : Program) (w : World) (A : Around) (h₀ : Heap) (env : Env) (c : Addr) (body : List Stmt) (Q : Flow → Shared → Prop) (E : Value → Shared → Prop) (xv : Value) (s₁ : Shared) : Prop :=
  ∀ P : Prop, (∀ r a₀ b₀ t u v (n : Nat) m nx (J : Nat → (Str → Option Value) → List (Addr × Obj) → Prop), xv = .ref r → A.handled = none → IsRange s₁.heap r a₀ b₀ 1 t u v → Builtin.Range.small a₀ b₀ 1 = true → Builtin.Range.rangeSize a₀ b₀ 1 = ((n : Nat) : Int) →
    Fr h₀ env.locals s₁.heap m → News h₀ env.locals s₁.heap nx → J 0 m nx →
    (∀ i m nx, J i m nx → ∃ o rest v₀, nx = (c, o) :: rest ∧ o.data = .cell v₀ ∧ ∀ p ∈ rest, p.1 ≠ c) →
    (∀ (i : Nat) t m₁ o o' rest h tk own, i < n → J i m₁ ((c, o) :: rest) → OwnOff own (((c, o') :: rest).map (·.1)) → o'.data = .cell (some (.int (a₀ + (i : Int)) t)) → (∀ p ∈ rest, p.1 ≠ c) → Fr h₀ env.locals h m₁ → News h₀ env.locals h ((c, o') :: rest ++ own) →
      wpAny (model prog w) A (execs body env) (InvPostG h₀ env.locals (J (i + 1)) own { s₁ with heap := h, toks := tk } Q) E { s₁ with heap := h, toks := tk }) →
    (∀ m₁ nx h tk, J n m₁ nx → Fr h₀ env.locals h m₁ → News h₀ env.locals h nx → Q .next { s₁ with heap := h, toks := tk }) → P) → P
def CellInv (h₀ : Heap) (L : Addr) (s₁ : Shared) (a₀ : Int) (n : Nat) (J : Nat → (Str → Option Value) → List (Addr × Obj) → Prop) (k : Nat) (s' : Shared) : Prop :=
  ∀ P : Prop, (∀ h' tk m' nx' (i : Nat), s' = { s₁ with heap := h', toks := tk } → IsRangeIter h' s₁.heap.objs.size (a₀ + (i : Nat) * 1) ((n : Int) - (i : Nat)) 1 → Fr h₀ L h' m' → News h₀ L h' nx' → (∀ p ∈ nx', p.1 ≠ s₁.heap.objs.size) → J i m' nx' → i ≤ n → k = n + 1 - i → P) → P
theorem For_cell {px pos : Pos} {iter : PySem.Expr} (hk : cs.kind = .function) (hx : (envX cn cs L a ccd cl).kindOf x = some .cell) (hc : cl.lookup x = some c)
    (h : wpAny (model prog w) A (eval iter (envX cn cs L a ccd cl)) (CellLoop prog w A h₀ (envX cn cs L a ccd cl) c body Q E) E s)
    (hs : ∀ x, foldedSetIterable iter (envX cn cs L a ccd cl) x = pure x := by intro _; rfl)
    (hE : PassesOwn (model prog w) A (envX cn cs L a ccd cl) E := by passes_own) :
    wpAny (model prog w) A (exec (.For (.Name x px) iter body [] pos) (envX cn cs L a ccd cl)) Q E s := by
  refine wpAny_For (wpAny_mono h (fun xv s₁ h₁ => ?_) fun _ _ e => e) hs
  refine h₁ _ fun r a₀ b₀ t₀ u₀ v₀ n m nx J ex hh hr hsm hsz F N hj hJ turn done => ?_
  subst ex
  refine wpAny_pyIter_range hr hsm ?_
  have hI₀ : h₀.get? s₁.heap.objs.size = none := next_is_new F
  have hIL : L ≠ s₁.heap.objs.size := Nat.ne_of_lt F.ns.lt
  have W := (Walks.range (prog := prog) (w := w) hh s₁.heap.objs.size a₀ 1 n).bound
  refine codeAny_forLoop (CellInv h₀ L s₁ a₀ n J) ?tn (n + 1) ?st
  case st =>
    refine fun P kP => kP _ s₁.toks m nx 0 rfl ?_ (F.push _) (fun p hp => ⟨Heap.get?_push_of_some _ (N p hp).1, (N p hp).2⟩) (fun p hp => Nat.ne_of_lt (Heap.lt_size (N p hp).1)) hj (Nat.zero_le _) rfl
    show IsRangeIter _ _ _ _ _
    rw [hsz]
    simpa using Heap.get?_push_size _ rfl
  intro k s' hK
  refine hK _ fun h' tk m' nx' i e₁ hst F' N' hne hj' hi e₂ => ?_
  subst e₁ e₂
  have next : ∀ h₁ : Heap, (∀ b o, b ∉ [s₁.heap.objs.size] → h'.get? b = some o → h₁.get? b = some o) → Fr h₀ L h₁ m' ∧ News h₀ L h₁ nx' := fun h₁ hk₁ =>
    ⟨⟨F'.ns.at' fun o e => hk₁ _ o (by simpa using hIL) e, fun b o e => hk₁ b o (fun q => by rw [List.mem_singleton.mp q, hI₀] at e; cases e) (F'.keep b o e), F'.above⟩, fun p hp => ⟨hk₁ _ _ (by simpa using hne p hp) (N' p hp).1, (N' p hp).2⟩⟩
  by_cases hlt : i < n
  · refine W.item i _ _ _ hlt hst fun v h₁ tk₁ hP hst₁ hk₁ => ?_
    obtain ⟨_, t, rfl⟩ := hP
    obtain ⟨F₁, N₁⟩ := next h₁ hk₁
    obtain ⟨o, rest, v₁, rfl, hd, hrest⟩ := hJ i m' nx' hj'
    have hmem := N₁ (c, o) (.head _)
    have hcI : c ≠ s₁.heap.objs.size := hne (c, o) (.head _)
    refine wpAny_assign_Name (wpAny_storeName_cell hk hx hc ⟨o, hmem.1, hd⟩ fun h₂ hcell hs₂ => ?_)
    obtain ⟨o', ho', hd'⟩ := hcell
    have F₂ : Fr h₀ L h₂ m' := ⟨F₁.ns.sameBut hs₂ (Ne.symm hmem.2.1), fun b ob e => (hs₂.2 b (fun q => by rw [q, hmem.2.2] at e; cases e)).trans (F₁.keep b ob e), F₁.above⟩
    obtain ⟨oI, hit, hback⟩ : ∃ oI, h₁.get? s₁.heap.objs.size = some oI ∧ ∀ g : Heap, g.get? s₁.heap.objs.size = some oI → IsRangeIter g s₁.heap.objs.size (a₀ + ((i + 1 : Nat) : Int) * 1) ((n : Int) - ((i + 1 : Nat) : Int)) 1 := ⟨_, hst₁, fun g e => e⟩
    have hit₂ := (hs₂.2 s₁.heap.objs.size (fun q => hcI q.symm)).trans hit
    have N₂ : News h₀ L h₂ ((c, o') :: rest ++ [(s₁.heap.objs.size, oI)]) := fun p hp => by
      rcases List.mem_append.mp hp with hp | hp
      · rcases List.mem_cons.mp hp with rfl | hp
        · exact ⟨ho', hmem.2.1, hmem.2.2⟩
        · exact ⟨(hs₂.2 _ (hrest p hp)).trans (N₁ p (.tail _ hp)).1, (N₁ p (.tail _ hp)).2⟩
      · rw [List.mem_singleton.mp hp]
        exact ⟨hit₂, Ne.symm hIL, hI₀⟩
    rw [Int.mul_one] at hd'
    refine wpAny_mono (turn i t m' o o' rest h₂ _ _ hlt hj' (fun p hp b hb => ?_) hd' hrest F₂ N₂) (fun f s₃ h₃ => ?_) fun _ _ e => hE _ _ e
    · rw [List.mem_singleton.mp hp]
      rcases List.mem_cons.mp hb with rfl | hb
      · exact Ne.symm hcI
      · obtain ⟨q, hq, rfl⟩ := List.mem_map.mp hb
        exact fun e => hne q (.tail _ hq) e.symm
    · have fin : InvEndG h₀ L (J (i + 1)) [(s₁.heap.objs.size, oI)] { s₁ with heap := h₂, toks := tk₁ } s₃ → ∃ m, m < n + 1 - i ∧ CellInv h₀ L s₁ a₀ n J m s₃ := by
        rintro ⟨h₄, tk₄, m₄, news₄, nx₄, rfl, F₄, N₄, hn₄, ho₄, ha₄, hJ₄⟩
        exact ⟨n + 1 - (i + 1), by omega, fun P kP => kP h₄ tk₄ m₄ nx₄ (i + 1) rfl (hback _ (N₄ _ (ho₄ _ (.head _))).1) F₄ (fun p hp => N₄ p (hn₄ p hp)) (fun p hp e => ha₄ _ (.head _) p.1 (List.mem_map.mpr ⟨p, hp, rfl⟩) e.symm) hJ₄ hlt rfl⟩
      cases f with
      | ret v => exact h₃
      | brk => exact h₃
      | next => exact fin h₃
      | cont => exact fin h₃
  · have hin : i = n := by omega
    subst hin
    refine W.done _ _ _ hst fun h₁ tk₁ hk₁ => wpAny_execs_nil ?_
    obtain ⟨F₁, N₁⟩ := next h₁ hk₁
    exact done m' nx' h₁ tk₁ hj' F₁ N₁
end
end Mine

namespace Mine
open PySem.Calls PySem.Spec
/-! the law's own text, by name -/
def lastOf : List Stmt → Option Stmt
  | [] => none
  | [x] => some x
  | _ :: y :: r => lastOf (y :: r)
def lawDef : Option Stmt := lastOf PySem.Challenge.pw_tk0030_01.main.body
def bodyOf : Option Stmt → List Stmt
  | some (.FunctionDef _ _ b _ _ _ _ _ _ _) => b
  | _ => []
def scopeOf : Option Stmt → Scope
  | some (.FunctionDef _ _ _ _ _ _ sc _ _ _) => sc
  | _ => default
def lawBody : List Stmt := bodyOf lawDef
def lawScope : Scope := scopeOf lawDef
/-- a frame of which some names are known -/
def over (u : Str → Option Value) : List (Str × Value) → Str → Option Value
  | [], k => u k
  | (x, v) :: r, k => if k = x then some v else over u r k
theorem over_eq {m : Str → Option Value} : ∀ {ps : List (Str × Value)}, (∀ p ∈ ps, m p.1 = some p.2) → over m ps = m
  | [], _ => rfl
  | (x, v) :: r, h => by
    funext k
    show (if k = x then some v else over m r k) = m k
    rw [over_eq fun p hp => h p (.tail _ hp)]
    by_cases hk : k = x
    · subst hk; rw [if_pos rfl]; exact (h (k, v) (.head _)).symm
    · rw [if_neg hk]
theorem over_fr {h₀ h : Heap} {L : Addr} {m : Str → Option Value} (F : Fr h₀ L h m) (ps : List (Str × Value)) (hp : ∀ p ∈ ps, m p.1 = some p.2) : Fr h₀ L h (over m ps) := by rw [over_eq hp]; exact F
theorem all_nil {P : Str × Value → Prop} : ∀ p ∈ ([] : List (Str × Value)), P p := fun _ h => (nomatch h)
theorem all_cons {P : Str × Value → Prop} {q : Str × Value} {r : List (Str × Value)} (h : P q) (k : ∀ p ∈ r, P p) : ∀ p ∈ q :: r, P p := fun p hp => by
  rcases List.mem_cons.mp hp with rfl | hp
  · exact h
  · exact k p hp
theorem stop_here {p : Prop} (h : Leaf p) : p := h

/-! two series compared -/
def datS (ps : List (Int × Int)) : List Dat := ps.map fun p => .tuple [.int (red p).1, .int (red p).2]
theorem datS_ok (ps : List (Int × Int)) : ∀ d ∈ datS ps, kqdOk 8 d = true := fun d hd => by
  obtain ⟨p, _, rfl⟩ := List.mem_map.mp hd
  rfl
theorem datS_eq {ps qs : List (Int × Int)} (h : ps.map red = qs.map red) : datS ps = datS qs := by
  have e : ∀ xs : List (Int × Int), datS xs = (xs.map red).map fun q => Dat.tuple [.int q.1, .int q.2] := fun xs => by rw [datS, List.map_map]; rfl
  rw [e, e, h]
section
variable {P : Params} {h₀ H : Heap} {L : Addr} {m : Str → Option Value} {n₁ news : List (Addr × Obj)} {a b : Addr} {ps qs : List (Int × Int)}
theorem rats_reads {vs : List Value} (h : RatsAt h₀ n₁ vs ps) (hs : ∀ p ∈ n₁, p ∈ news) (F : Fr h₀ L H m) (X : (hd.heap_39 P).In h₀) (N : News h₀ L H news) : ReadsAll H vs (kqdPs (datS ps)) [] := by
  induction h with
  | nil => exact ReadsAll.nil
  | cons h _ ih =>
    obtain ⟨a, rfl⟩ := h.ref
    exact readsAll_cons_val (h.reads hs F X N) ih
theorem ser_reads (h : SerAt h₀ n₁ (.ref a) ps) (hs : ∀ p ∈ n₁, p ∈ news) (F : Fr h₀ L H m) (X : (hd.heap_39 P).In h₀) (N : News h₀ L H news) : Reads H (.ref a) (.list (kqdPs (datS ps))) [a] := by
  obtain ⟨vs, n, e, r⟩ := h.heap hs F N
  exact reads_list_at e rfl rfl (by simpa using rats_reads r hs F X N)
theorem ser_shaped (ps : List (Int × Int)) : SeqAt.shaped (.list (kqdPs (datS ps))) = true := by
  have l := kqd_lay 9 (.list (datS ps)) (by simpa [kqdOk] using datS_ok ps)
  rw [kqdP] at l
  unfold SeqAt.shaped
  rw [l.1, Bool.true_and]
  exact decide_eq_true (Nat.le_trans l.2 (by decide))
theorem ser_eqv (h : ps.map red = qs.map red) : PyData.eqv (.list (kqdPs (datS ps))) (.list (kqdPs (datS qs))) = true := by
  have q := kqd_eqv 9 (.list (datS ps)) (.list (datS qs)) 9 (by simpa [kqdOk] using datS_ok ps) (by simpa [kqdOk] using datS_ok qs)
  rw [kqdP, kqdP] at q
  exact q.mpr (by rw [datS_eq h])
end
section
variable {prog : Program} {w : World} {A : Around} {E : Value → Shared → Prop} {s : Shared} {P : Params} {h₀ : Heap} {L : Addr} {m : Str → Option Value} {n₁ n₂ news : List (Addr × Obj)} {a b : Addr} {ps qs : List (Int × Int)} {Q : Value → Shared → Prop}
theorem ser_ne_false (hR : SerAt h₀ n₁ (.ref a) ps) (hs : ∀ p ∈ n₁, p ∈ news) (hR₂ : SerAt h₀ n₂ (.ref b) qs) (hs₂ : ∀ p ∈ n₂, p ∈ news) (F : Fr h₀ L s.heap m) (X : (hd.heap_39 P).In h₀) (N : News h₀ L s.heap news) (hu : A.units + 64 < cLine) (he : ps.map red = qs.map red) (h : Q (.bool false) s) :
    wpAny (model prog w) A (compareOp .NotEq (.ref a) (.ref b)) Q E s := by
  refine ne_dataH (ser_reads hR hs F X N) (ser_reads hR₂ hs₂ F X N) (ser_shaped _) (ser_shaped _) hu ?_
  rw [ser_eqv he]
  exact h
theorem ser_eq_true (hR : SerAt h₀ n₁ (.ref a) ps) (hs : ∀ p ∈ n₁, p ∈ news) (hR₂ : SerAt h₀ n₂ (.ref b) qs) (hs₂ : ∀ p ∈ n₂, p ∈ news) (F : Fr h₀ L s.heap m) (X : (hd.heap_39 P).In h₀) (N : News h₀ L s.heap news) (hu : A.units + 64 < cLine) (he : ps.map red = qs.map red) (h : Q (.bool true) s) :
    wpAny (model prog w) A (compareOp .Eq (.ref a) (.ref b)) Q E s := by
  refine eq_dataH (ser_reads hR hs F X N) (ser_reads hR₂ hs₂ F X N) (ser_shaped _) (ser_shaped _) hu ?_
  rw [ser_eqv he]
  exact h
/-- an item of a list of ints -/
theorem ints_item {value slice : PySem.Expr} {u : Tok} {k : Int} {ws : List Value} {ns : List Int} {nn : Nat} (N : News h₀ L s.heap news) (hm : (a, listOf ws.toArray nn) ∈ n₁) (hs : ∀ p ∈ n₁, p ∈ news) (hi : IntsAre ws ns) (h0 : 0 ≤ k) (hk : k < ns.length) (hl : ns.length ≤ 100) (h : ∀ t, Q (.int (ns.getD k.toNat 0) t) s)
    (he : subscripted slice false (.ref a) (.int k u) = operate [.ref a, .int k u] (getItem (.ref a) (.int k u))) :
    wpAny (model prog w) A (subscriptTail value slice (.ref a) (.int k u)) Q E s := by
  have hL : s.heap.IsList a ws.toArray := ⟨_, (N _ (hs _ hm)).1, rfl, _, rfl⟩
  have hlt : k.toNat < ns.length := by lia
  obtain ⟨t, hx⟩ := hi.get k.toNat (ns.getD k.toNat 0) (by simp [List.getD_eq_getElem?_getD, hlt])
  exact tail_any hL.typeIs slot_list_getitem.lookup (wpAny_getItem_list hL h0 (by lia) (by simpa using hx) (h t)) he
/-- an item of a list of slopes -/
theorem ders_item {value slice : PySem.Expr} {u : Tok} {k : Int} {vs : List Value} {nn n : Nat} {pa : Addr} {n₃ : List (Addr × Obj)} (N : News h₀ L s.heap news) (hm : (a, listOf vs.toArray nn) ∈ n₃) (hs : ∀ p ∈ n₃, p ∈ news) (hD : Ders n₁ pa ps n vs) (hp : SerAt h₀ n₂ (.ref pa) ps) (h0 : 0 ≤ k) (hk : k ≤ n) (hl : n ≤ 100) (h : ∀ la, SerAt h₀ (n₂ ++ n₁) (.ref la) (derN ps k.toNat) → Q (.ref la) s)
    (he : subscripted slice false (.ref a) (.int k u) = operate [.ref a, .int k u] (getItem (.ref a) (.int k u))) :
    wpAny (model prog w) A (subscriptTail value slice (.ref a) (.int k u)) Q E s := by
  have hL : s.heap.IsList a vs.toArray := ⟨_, (N _ (hs _ hm)).1, rfl, _, rfl⟩
  obtain ⟨la, hx, hS⟩ := hD.at hp (j := k.toNat) (by lia)
  exact tail_any hL.typeIs slot_list_getitem.lookup (wpAny_getItem_list hL h0 (by lia) (by simpa using hx) (h la hS)) he
end

def intN (ps : List (Int × Int)) : Nat → List (Int × Int)
  | 0 => ps
  | n + 1 => intP (intN ps n)
/-- what an integral asks -/
def IntOk (ps : List (Int × Int)) : Prop := ps.length ≤ 100 ∧ (∀ i, 0 < (ps.getD i (0, 1)).2) ∧ (∀ i : Nat, i < ((ps.length : Int) - 0).toNat → (ps.getD (0 + (i : Int)).toNat (0, 1)).2 * (0 + (i : Int) + 1) < 1073741824) ∧ ∀ i, Bd (ps.getD i (0, 1)).1
theorem rats_rep {g : Heap} {led : List (Addr × Obj)} {v : Value} {x : Int × Int} (h : RatAt g led v (red x)) : ∀ k : Nat, RatsAt g led (List.replicate k v) (List.replicate k x)
  | 0 => .nil
  | k + 1 => .cons h (rats_rep h k)
/-! a loop whose one name holds a series -/
def RS (cst : List (Addr × Obj)) (x y : Str) (m₀ : Str → Option Value) (p : List (Int × Int)) (m : Str → Option Value) (nx : List (Addr × Obj)) : Prop :=
  ∃ v tl, nx = cst ++ tl ∧ Apart cst tl ∧ m y = some (.ref v) ∧ SerOut (cst ++ tl) (.ref v) p ∧ ∀ z, z ≠ x → z ≠ y → m z = m₀ z
section
variable {prog : Program} {w : World} {A : Around} {E : Value → Shared → Prop} {s : Shared} {env : Env} {h₀ : Heap} {x : Str} {body : List Stmt} {Q : Flow → Shared → Prop}
theorem range_ser {r : Addr} {a₀ b₀ : Int} {t₀ u₀ v₀ : Tok} {n : Nat} {m₀ : Str → Option Value} {news : List (Addr × Obj)} {y : Str} {v : Addr} (f : Nat → List (Int × Int))
    (hh : A.handled = none) (hr : IsRange s.heap r a₀ b₀ 1 t₀ u₀ v₀) (hsmall : Builtin.Range.small a₀ b₀ 1 = true) (hsz : Builtin.Range.rangeSize a₀ b₀ 1 = (n : Int)) (F : Fr h₀ env.locals s.heap m₀) (N : News h₀ env.locals s.heap news)
    (hv : m₀ y = some (.ref v)) (hR : SerOut (news ++ []) (.ref v) (f 0))
    (turn : ∀ (i : Nat) t v tl h tk own, i < n → OwnOff own ((news ++ tl).map (·.1)) → Apart news tl → SerOut (news ++ tl) (.ref v) (f i) → Fr h₀ env.locals h (fun z => if z = x then some (.int (a₀ + (i : Int)) t) else if z = y then some (.ref v) else m₀ z) → News h₀ env.locals h (news ++ tl ++ own) →
      wpAny (model prog w) A (execs body env) (InvPostG h₀ env.locals (RS news x y m₀ (f (i + 1))) own { s with heap := h, toks := tk } Q) E { s with heap := h, toks := tk })
    (done : ∀ v (u : Str → Option Value) tl h tk, Apart news tl → SerOut (news ++ tl) (.ref v) (f n) → Fr h₀ env.locals h (fun z => if z = x then u z else if z = y then some (.ref v) else m₀ z) → News h₀ env.locals h (news ++ tl) → Q .next { s with heap := h, toks := tk }) :
    wpAny (model prog w) A (pyIter (.ref r)) (fun it s₂ => LoopAtV prog w A h₀ env x body Q E it s₂) E s := by
  refine range_inv (fun i => RS news x y m₀ (f i)) hh hr hsmall hsz F N ⟨v, [], (List.append_nil _).symm, fun _ _ _ h => (nomatch h), hv, hR, fun _ _ _ => rfl⟩ ?_ ?_
  · rintro i t m₁ nx h tk own hi hoff ⟨v', tl, rfl, hA, hv', hR', hm⟩ F₁ N₁
    exact turn i t v' tl h tk own hi hoff hA hR' (frame_back hv' hm ▸ F₁) N₁
  · rintro m₁ nx h tk ⟨v', tl, rfl, hA, hv', hR', hm⟩ F₁ N₁
    exact done v' m₁ tl h tk hA hR' (frame_back' hv' hm ▸ F₁) N₁
theorem rs_end {y : Str} {v : Addr} {p q : List (Int × Int)} {m₀ m' : Str → Option Value} {cst tl₀ own tl news' X : List (Addr × Obj)} {s₁ : Shared} {h' : Heap} {tk : Nat} {L : Addr} (F : Fr h₀ L h' m') (N : News h₀ L h' news') (hv : m' y = some (.ref v)) (hO : SerOut tl (.ref v) q) (hA : Apart X tl) (hoff : OwnOff own ((cst ++ tl₀).map (·.1)))
    (hX : ∀ p ∈ cst, p ∈ X) (hX' : ∀ p ∈ own, p ∈ X) (hn : ∀ p ∈ cst, p ∈ news') (ht : ∀ p ∈ tl, p ∈ news') (ho : ∀ p ∈ own, p ∈ news')
    (hm : ∀ z, z ≠ x → z ≠ y → m' z = m₀ z) (hq : Leaf (q = p)) : InvEndG h₀ L (RS cst x y m₀ p) own s₁ { s₁ with heap := h', toks := tk } := by
  refine InvEndG.intro (nx := cst ++ tl) F N ⟨v, tl, rfl, fun a ha b hb => hA a (hX a ha) b hb, hv, (show q = p from hq) ▸ hO.mono fun p hp => List.mem_append.mpr (.inr hp), hm⟩ ?_ (fun p hp => (List.mem_append.mp hp).elim (hn p) (ht p)) ho
  intro p hp b hb
  obtain ⟨r, hr, rfl⟩ := List.mem_map.mp hb
  rcases List.mem_append.mp hr with hr | hr
  · exact hoff p hp _ (List.mem_map.mpr ⟨r, List.mem_append.mpr (.inl hr), rfl⟩)
  · exact hA p (hX' p hp) r hr
end
section
variable {w : World} {mean : ExcName → Option Value} {mg mb : Str → Option Value} {dp un : Nat} {gd : Option (List Code)} {cn : Str} {cs : Scope} {a : Addr} {ccd : Value} {cl : List (Str × Addr)} {outer : List Env} {A₀ : Around} {base h₀ : Heap} {L : Addr} {m : Str → Option Value} {news : List (Addr × Obj)} {s : Shared} {Q E : Value → Shared → Prop}
theorem steps_use {x n : Int} {t u : Tok} (h0 : 0 ≤ x) (h1 : x ≤ 100) (n0 : 1 ≤ n) (n1 : n ≤ 3) (B : Below A₀ base outer h₀) (F : Fr h₀ L s.heap m) (X : (hd.heap_39 w.params).In h₀) (N : News h₀ L s.heap news) (T : Top hd.view_39 (looseW hd.view_39 []) mean mg mb h₀) (hk : cs.kind = .function)
    (hdp : dp + 1 < recursionLimit) (hun : un + 8 + 64 < cLine)
    (hret : ∀ r tl h' tk', Fr h₀ L h' m → News h₀ L h' (news ++ tl) → Apart news tl → (∃ t, r = .int (stepS x n.toNat) t ∧ 0 < stepS x n.toNat ∧ stepS x n.toNat < 1073741824) → Q r { s with heap := h', toks := tk' }) :
    wpAny (model PySem.Challenge.rw_tk0030_01.row.prog w) (ktrTop dp un gd cn cs L a ccd cl outer) (call (.ref 173) [.int x t, .int n u]) Q E s := by
  have e1 : 0 < stepS x 1 ∧ stepS x 1 ≤ 101 := by simp only [stepS]; lia
  have e2 : 0 < stepS x 2 ∧ stepS x 2 ≤ 101 * 102 := by
    have : stepS x 2 = stepS x 1 * (x + 2) := rfl
    rw [this]
    exact ⟨Int.mul_pos e1.1 (by lia), Int.mul_le_mul e1.2 (by lia) (by lia) (by lia)⟩
  have e3 : 0 < stepS x 3 ∧ stepS x 3 ≤ 101 * 102 * 103 := by
    have : stepS x 3 = stepS x 2 * (x + 3) := rfl
    rw [this]
    exact ⟨Int.mul_pos e2.1 (by lia), Int.mul_le_mul e2.2 (by lia) (by lia) (by lia)⟩
  have hn : n = 1 ∨ n = 2 ∨ n = 3 := by lia
  rcases hn with rfl | rfl | rfl
  · exact steps1_use h0 h1 B F X N T hk hdp hun fun r tl h' tk' F' N' hA ⟨t, e⟩ => hret r tl h' tk' F' N' hA ⟨t, e, e1.1, by show stepS x 1 < _; lia⟩
  · exact steps2_use h0 h1 B F X N T hk hdp hun fun r tl h' tk' F' N' hA ⟨t, e⟩ => hret r tl h' tk' F' N' hA ⟨t, e, e2.1, by show stepS x 2 < _; lia⟩
  · exact steps3_use h0 h1 B F X N T hk hdp hun fun r tl h' tk' F' N' hA ⟨t, e⟩ => hret r tl h' tk' F' N' hA ⟨t, e, e3.1, by show stepS x 3 < _; lia⟩
end
end Mine

namespace Mine
open PySem.Calls PySem.Spec
theorem ser_here {h₀ h : Heap} {L : Addr} {led : List (Addr × Obj)} {a : Addr} {vs : List Value} {n : Nat} {ps : List (Int × Int)} (_N : News h₀ L h led) (hm : (a, listOf vs.toArray n) ∈ led) (hr : RatsAt h₀ led vs ps) : SerAt h₀ led (.ref a) ps := .made hm hr
def derS (ys : List Int) : List Int := (List.range (ys.length - 1)).map fun (i : Nat) => (1 + (i : Int)) * ys.getD (1 + (i : Int)).toNat 0
theorem derS_length (ys : List Int) : (derS ys).length = ys.length - 1 := by rw [derS, List.length_map, List.length_range]
theorem scaS_length (c : Int) (ys : List Int) : (scaS c ys).length = ys.length := by rw [scaS, List.length_map, List.length_range]
theorem addS_length (ys zs : List Int) : (addS ys zs).length = min ys.length zs.length := by rw [addS, List.length_map, List.length_range]
theorem derP_ov (d : Int) (ys : List Int) : derP (ov d ys) = ov d (derS ys) := by
  rw [derP, ov_length]
  show _ = List.map (fun y => (y, d)) (derS ys)
  rw [derS, List.map_map]
  refine List.map_congr_left fun i hi => ?_
  have hi' := List.mem_range.mp hi
  have e : (ov d ys).getD (1 + (i : Int)).toNat (0, 1) = (ys.getD (1 + (i : Int)).toNat 0, d) := ov_get (by lia)
  rw [e, Int.one_mul]
  rfl
def turnS (c : Int) (ys : List Int) : Nat → List Int
  | 0 => ys
  | i + 1 => addS (derS (turnS c ys i)) (scaS c (turnS c ys i))
theorem turnS_length (c : Int) (ys : List Int) (i : Nat) : (turnS c ys i).length = ys.length - i := by
  induction i with
  | zero => rfl
  | succ i ih => rw [turnS, addS_length, derS_length, scaS_length, ih]; lia
def cutS (c k : Int) : List Int := 0 :: c :: List.replicate (k - 2).toNat 0
theorem cutS_length {c k : Int} (h : 2 ≤ k) : (cutS c k).length = k.toNat := by
  rw [cutS, List.length_cons, List.length_cons, List.length_replicate]; lia
theorem cutS_get (c k : Int) (i : Nat) : (cutS c k).getD i 0 = if i = 1 then c else 0 := by
  match i with
  | 0 => rfl
  | 1 => rfl
  | i + 2 =>
    rw [if_neg (by lia)]
    show (List.replicate (k - 2).toNat (0 : Int)).getD i 0 = 0
    simp [List.getD_eq_getElem?_getD, List.getElem?_replicate]
    split <;> rfl
theorem rats_zeros {g : Heap} {led : List (Addr × Obj)} : ∀ k : Nat, RatsAt g led (List.replicate k (.ref 49)) (ov 1 (List.replicate k 0))
  | 0 => .nil
  | k + 1 => .cons (ratAt_int .zero) (rats_zeros k)
section
variable {w : World} {mean : ExcName → Option Value} {mg mb : Str → Option Value} {dp un : Nat} {gd : Option (List Code)} {cn : Str} {cs : Scope} {a : Addr} {ccd : Value} {cl : List (Str × Addr)} {outer : List Env} {A₀ : Around} {base h₀ : Heap} {L : Addr} {m : Str → Option Value} {news : List (Addr × Obj)} {s : Shared} {Q E : Value → Shared → Prop}
theorem cut2_use {pa D₁ D₂ : Addr} {nn : Nat} {c k : Int} {t₀ : Tok} (hb : s.heap.get? pa = some (listOf ([.ref D₁, .ref D₂] : List Value).toArray nn)) (h1 : RatAt h₀ news (.ref D₁) (0, 1)) (h2 : RatAt h₀ news (.ref D₂) (c, 1)) (hl : 2 ≤ k) (hl2 : k ≤ 100) (B : Below A₀ base outer h₀) (F : Fr h₀ L s.heap m) (X : (hd.heap_39 w.params).In h₀) (N : News h₀ L s.heap news) (T : Top hd.view_39 (looseW hd.view_39 []) mean mg mb h₀) (hk : cs.kind = .function)
    (hdp : dp + 4 < recursionLimit) (hun : un + 32 + 64 < cLine)
    (hret : ∀ r tl h' tk', Fr h₀ L h' m → News h₀ L h' (news ++ tl) → Apart news tl → (∃ D, r = .ref D ∧ SerAt h₀ (news ++ tl) (.ref D) (ov 1 (cutS c k))) → Q r { s with heap := h', toks := tk' }) :
    wpAny (model PySem.Challenge.rw_tk0030_01.row.prog w) (ktrTop dp un gd cn cs L a ccd cl outer) (call (.ref 99) [.ref pa, .int k t₀]) Q E s := by
  refine cut0_use hb (by simp only [List.length_cons, List.length_nil]; lia) hl2 B F X N T hk hdp hun fun r tl h' tk' F' N' hA hO => ?_
  obtain ⟨D, n, e, hm⟩ := hO
  subst e
  refine hret _ tl h' tk' F' N' hA ⟨D, rfl, .made (List.mem_append.mpr (.inr hm)) ?_⟩
  have hs : ∀ p ∈ news, p ∈ news ++ tl := fun p hp => List.mem_append.mpr (.inl hp)
  exact .cons (ratAt_int (h1.mono hs)) (.cons (ratAt_int (h2.mono hs)) (rats_zeros _))
theorem cutn_use {pa : Addr} {nn : Nat} {k : Int} {t₀ : Tok} (hb : s.heap.get? pa = some (listOf ([] : List Value).toArray nn)) (hl : 0 ≤ k) (hl2 : k ≤ 100) (B : Below A₀ base outer h₀) (F : Fr h₀ L s.heap m) (X : (hd.heap_39 w.params).In h₀) (N : News h₀ L s.heap news) (T : Top hd.view_39 (looseW hd.view_39 []) mean mg mb h₀) (hk : cs.kind = .function)
    (hdp : dp + 4 < recursionLimit) (hun : un + 32 + 64 < cLine)
    (hret : ∀ r tl h' tk', Fr h₀ L h' m → News h₀ L h' (news ++ tl) → Apart news tl → SerOut tl r (ov 1 (List.replicate k.toNat 0)) → Q r { s with heap := h', toks := tk' }) :
    wpAny (model PySem.Challenge.rw_tk0030_01.row.prog w) (ktrTop dp un gd cn cs L a ccd cl outer) (call (.ref 99) [.ref pa, .int k t₀]) Q E s := by
  refine cut0_use hb (by simp only [List.length_nil]; lia) hl2 B F X N T hk hdp hun fun r tl h' tk' F' N' hA hO => ?_
  obtain ⟨D, n, e, hm⟩ := hO
  subst e
  refine hret _ tl h' tk' F' N' hA fun g led hs => .made (hs _ hm) ?_
  rw [List.nil_append, show (k - (([] : List Value).length : Int)).toNat = k.toNat by simp]
  exact rats_zeros _
end
end Mine

namespace Mine
open PySem.Calls PySem.Spec
def derZ (ys : List Int) : Nat → List Int
  | 0 => ys
  | k + 1 => derS (derZ ys k)
theorem derZ_length (ys : List Int) (k : Nat) : (derZ ys k).length = ys.length - k := by
  induction k with
  | zero => rfl
  | succ k ih => rw [derZ, derS_length, ih]; lia
theorem derN_ov (d : Int) (ys : List Int) (k : Nat) : derN (ov d ys) k = ov d (derZ ys k) := by
  induction k with
  | zero => rfl
  | succ k ih => rw [derN, ih, derP_ov]; rfl
def binS (n : Int) : Nat → Int
  | 0 => 1
  | k + 1 => (binS n k * (n - (0 + (k : Int)))).fdiv (0 + (k : Int) + 1)
def totS (n : Int) (ys zs : List Int) (left : Nat) : Nat → List Int
  | 0 => List.replicate left 0
  | k + 1 => addS (totS n ys zs left k) (scaS (binS n k) (smulS (derZ ys (0 + (k : Int)).toNat) (derZ zs (n - (0 + (k : Int))).toNat)))
theorem totS_length (n : Int) (ys zs : List Int) (left k : Nat) : (totS n ys zs left k).length ≤ left := by
  cases k with
  | zero => rw [totS, List.length_replicate]; exact Nat.le_refl _
  | succ k =>
    rw [totS, addS_length]
    exact Nat.le_trans (Nat.min_le_left _ _) (totS_length n ys zs left k)
/-! a loop whose names hold a series and an int -/
def RT (cst : List (Addr × Obj)) (x y z : Str) (m₀ : Str → Option Value) (p : List (Int × Int)) (g : Int) (m : Str → Option Value) (nx : List (Addr × Obj)) : Prop :=
  ∃ v t tl, nx = cst ++ tl ∧ Apart cst tl ∧ m y = some (.ref v) ∧ m z = some (.int g t) ∧ SerOut (cst ++ tl) (.ref v) p ∧ ∀ k, k ≠ x → k ≠ y → k ≠ z → m k = m₀ k
section
variable {prog : Program} {w : World} {A : Around} {E : Value → Shared → Prop} {s : Shared} {env : Env} {h₀ : Heap} {x : Str} {body : List Stmt} {Q : Flow → Shared → Prop}
theorem frame_three {x y z : Str} {m₁ m₀ : Str → Option Value} {v w : Value} (k : Option Value) (hv : m₁ y = some v) (hw : m₁ z = some w) (hm : ∀ q, q ≠ x → q ≠ y → q ≠ z → m₁ q = m₀ q) : (fun q => if q = x then k else m₁ q) = fun q => if q = x then k else if q = y then some v else if q = z then some w else m₀ q := by
  funext q
  by_cases h1 : q = x
  · simp [h1]
  · simp only [if_neg h1]
    by_cases h2 : q = y
    · subst h2; simp [hv]
    · simp only [if_neg h2]
      by_cases h3 : q = z
      · subst h3; simp [hw]
      · simp only [if_neg h3]; exact hm q h1 h2 h3
theorem range_two {r : Addr} {a₀ b₀ : Int} {t₀ u₀ v₀ tz : Tok} {n : Nat} {m₀ : Str → Option Value} {news : List (Addr × Obj)} {y z : Str} {v : Addr} {gz : Int} (f : Nat → List (Int × Int)) (g : Nat → Int)
    (hh : A.handled = none) (hr : IsRange s.heap r a₀ b₀ 1 t₀ u₀ v₀) (hsmall : Builtin.Range.small a₀ b₀ 1 = true) (hsz : Builtin.Range.rangeSize a₀ b₀ 1 = (n : Int)) (F : Fr h₀ env.locals s.heap m₀) (N : News h₀ env.locals s.heap news)
    (hv : m₀ y = some (.ref v)) (hz : m₀ z = some (.int gz tz)) (hg : gz = g 0) (hR : SerOut (news ++ []) (.ref v) (f 0))
    (turn : ∀ (i : Nat) t v tv tl h tk own, i < n → OwnOff own ((news ++ tl).map (·.1)) → Apart news tl → SerOut (news ++ tl) (.ref v) (f i) → Fr h₀ env.locals h (fun q => if q = x then some (.int (a₀ + (i : Int)) t) else if q = y then some (.ref v) else if q = z then some (.int (g i) tv) else m₀ q) → News h₀ env.locals h (news ++ tl ++ own) →
      wpAny (model prog w) A (execs body env) (InvPostG h₀ env.locals (RT news x y z m₀ (f (i + 1)) (g (i + 1))) own { s with heap := h, toks := tk } Q) E { s with heap := h, toks := tk })
    (done : ∀ v tv (u : Option Value) tl h tk, Apart news tl → SerOut (news ++ tl) (.ref v) (f n) → Fr h₀ env.locals h (fun q => if q = x then u else if q = y then some (.ref v) else if q = z then some (.int (g n) tv) else m₀ q) → News h₀ env.locals h (news ++ tl) → Q .next { s with heap := h, toks := tk }) :
    wpAny (model prog w) A (pyIter (.ref r)) (fun it s₂ => LoopAtV prog w A h₀ env x body Q E it s₂) E s := by
  refine range_inv (fun i => RT news x y z m₀ (f i) (g i)) hh hr hsmall hsz F N ⟨v, tz, [], (List.append_nil _).symm, fun _ _ _ h => (nomatch h), hv, hg ▸ hz, hR, fun _ _ _ _ => rfl⟩ ?_ ?_
  · rintro i t m₁ nx h tk own hi hoff ⟨v', tv, tl, rfl, hA, hv', hz', hR', hm⟩ F₁ N₁
    exact turn i t v' tv tl h tk own hi hoff hA hR' (frame_three _ hv' hz' hm ▸ F₁) N₁
  · rintro m₁ nx h tk ⟨v', tv, tl, rfl, hA, hv', hz', hR', hm⟩ F₁ N₁
    refine done v' tv (m₁ x) tl h tk hA hR' ?_ N₁
    have e := frame_three (m₁ x) hv' hz' hm
    rw [← e]
    have e2 : (fun q => if q = x then m₁ x else m₁ q) = m₁ := by
      funext q
      by_cases h1 : q = x
      · subst h1; simp
      · simp [h1]
    rw [e2]; exact F₁
theorem rt_end {y z : Str} {v : Addr} {g gq : Int} {tv : Tok} {p q : List (Int × Int)} {m₀ m' : Str → Option Value} {cst tl₀ own tl news' X : List (Addr × Obj)} {s₁ : Shared} {h' : Heap} {tk : Nat} {L : Addr} (F : Fr h₀ L h' m') (N : News h₀ L h' news') (hv : m' y = some (.ref v)) (hz : m' z = some (.int gq tv)) (hO : SerOut tl (.ref v) q) (hA : Apart X tl) (hoff : OwnOff own ((cst ++ tl₀).map (·.1)))
    (hX : ∀ p ∈ cst, p ∈ X) (hX' : ∀ p ∈ own, p ∈ X) (hn : ∀ p ∈ cst, p ∈ news') (ht : ∀ p ∈ tl, p ∈ news') (ho : ∀ p ∈ own, p ∈ news')
    (hm : ∀ k, k ≠ x → k ≠ y → k ≠ z → m' k = m₀ k) (hq : Leaf (q = p ∧ gq = g)) : InvEndG h₀ L (RT cst x y z m₀ p g) own s₁ { s₁ with heap := h', toks := tk } := by
  obtain ⟨rfl, rfl⟩ : q = p ∧ gq = g := hq
  refine InvEndG.intro (nx := cst ++ tl) F N ⟨v, tv, tl, rfl, fun a ha b hb => hA a (hX a ha) b hb, hv, hz, hO.mono fun p hp => List.mem_append.mpr (.inr hp), hm⟩ ?_ (fun p hp => (List.mem_append.mp hp).elim (hn p) (ht p)) ho
  intro p hp b hb
  obtain ⟨r, hr, rfl⟩ := List.mem_map.mp hb
  rcases List.mem_append.mp hr with hr | hr
  · exact hoff p hp _ (List.mem_map.mpr ⟨r, List.mem_append.mpr (.inl hr), rfl⟩)
  · exact hA p (hX' p hp) r hr
end
end Mine

namespace Mine
open PySem.Calls PySem.Spec
/-! a comprehension of ints -/
def IntOut (h₀ : Heap) (L : Addr) (m : Str → Option Value) (s₁ : Shared) (b3 : List (Addr × Obj)) (g : Int) (y : Value) (s₂ : Shared) : Prop :=
  ∃ t h' tk, y = .int g t ∧ s₂ = { s₁ with heap := h', toks := tk } ∧ Fr h₀ L h' m ∧ News h₀ L h' b3
section
variable {h₀ : Heap} {L : Addr} {m : Str → Option Value}
theorem intOut_mk {s₁ : Shared} {b3 all : List (Addr × Obj)} {g k : Int} {t : Tok} {h' : Heap} {tk : Nat} (F : Fr h₀ L h' m) (N : News h₀ L h' all) (hn : ∀ r ∈ b3, r ∈ all) (hq : Leaf (k = g)) :
    IntOut h₀ L m s₁ b3 g (.int k t) { s₁ with heap := h', toks := tk } :=
  ⟨t, h', tk, congrArg (fun x => Value.int x t) hq, rfl, F, fun r hr => N r (hn r hr)⟩
variable {prog : Program} {w : World} {A : Around} {env : Env} {elt : Expr} {x : Str} {scope : Scope} {cl : List (Str × Addr)} {s : Shared} {S : List (Addr × Obj) → Prop} {P : Nat → Value → Prop} {Fin : List Value → List (Addr × Obj) → Prop} {news : List (Addr × Obj)}
theorem comp_ints {n : Nat} (g : Nat → Int) (hS : ∀ nw, S nw)
    (turn : ∀ i v I oI C oC D m₂ ys h tk (E' : Value → Shared → Prop), i < n → P i v → LCg.NsObj oC m₂ → m₂ x = some v → Fr h₀ L h m → News h₀ L h ((I, oI) :: (C, oC) :: (D, LCg.lst ys) :: news) →
      wpAny (model prog w) A (eval elt (compEnvC scope cl C env)) (IntOut h₀ L m { s with heap := h, toks := tk } ((I, oI) :: (C, oC) :: (D, LCg.lst ys) :: news) (g i)) E' { s with heap := h, toks := tk })
    (fin : ∀ ys, IntsAre ys ((List.range n).map g) → Fin ys news) : LCg.CompRest prog w A h₀ L m env elt x scope cl s S P Fin n 0 [] news := by
  have key : ∀ (j i : Nat) (ys : List Value), i + j = n → IntsAre ys ((List.range i).map g) → LCg.CompRest prog w A h₀ L m env elt x scope cl s S P Fin j i ys news := by
    intro j
    induction j with
    | zero =>
      intro i ys hi hy
      have e : i = n := by lia
      subst e
      exact LCg.CompRest.zero (fin ys hy)
    | succ j ih =>
      intro i ys hi hy
      refine LCg.CompRest.succ ?_
      intro v I oI C oC D m₂ h tk E' hv hC hx F N off ne
      refine wpAny_mono (turn i v I oI C oC D m₂ ys h tk E' (by lia) hv hC hx F N) (fun y s₂ hq => ?_) fun _ _ e => e
      obtain ⟨t, h', tk', rfl, e, F', N'⟩ := hq
      refine ⟨h', tk', news, e, F', N', off, hS _, ih (i + 1) (ys ++ [.int (g i) t]) (by lia) ?_⟩
      rw [List.range_succ, List.map_append]
      exact hy.append (.cons (g i) t .nil)
  exact key n 0 [] (by lia) .nil
theorem newTuple_mine {M : Model} {A : Around} {E : Value → Shared → Prop} {s : Shared} {vs : List Value} {Q : Value → Shared → Prop} (F : Fr h₀ L s.heap m) (N : News h₀ L s.heap news) (hsz : vs.length ≤ 100)
    (h : ∀ D h', (∀ p ∈ news, p.1 < D) → Fr h₀ L h' m → News h₀ L h' ((D, { cls := .type "tuple", data := .seq vs.toArray }) :: news) → Q (.ref D) { s with heap := h' }) : wpAny M A (newTuple vs) Q E s :=
  newTuple_N F N (fun h' F' N' => h _ h' (fun p hp => Heap.lt_size (N p hp).1) F' N') (by rw [sizeLine_eq]; lia)
end
/-! the loop that fills «due» -/
def DueJ (cj fd : Addr) (cst : List (Addr × Obj)) (g : Nat → Int) (ps : List (Str × Value)) (i : Nat) (m : Str → Option Value) (nx : List (Addr × Obj)) : Prop :=
  ∀ P : Prop, (∀ oj v₀ vs nn tl, nx = (cj, oj) :: (fd, listOf vs.toArray nn) :: (cst ++ tl) → oj.data = .cell v₀ → (∀ p ∈ (fd, listOf vs.toArray nn) :: (cst ++ tl), p.1 ≠ cj) → (∀ p ∈ cst ++ tl, p.1 ≠ fd) → RatsOut tl vs (ov 1 ((List.range i).map g)) → (∀ p ∈ ps, m p.1 = some p.2) → P) → P
section
variable {prog : Program} {w : World} {A : Around} {E : Value → Shared → Prop} {s₁ : Shared} {env : Env} {h₀ : Heap} {body : List Stmt} {Q : Flow → Shared → Prop} {cj fd : Addr} {cst : List (Addr × Obj)} {g : Nat → Int} {ps : List (Str × Value)}
theorem due_loop {r : Addr} {a₀ b₀ : Int} {t₀ u₀ v₀ : Tok} {n nn₀ : Nat} {m₀ : Str → Option Value} {oj : Obj} {vj : Option Value}
    (hh : A.handled = none) (hr : IsRange s₁.heap r a₀ b₀ 1 t₀ u₀ v₀) (hsmall : Builtin.Range.small a₀ b₀ 1 = true) (hsz : Builtin.Range.rangeSize a₀ b₀ 1 = (n : Int)) (F : Fr h₀ env.locals s₁.heap m₀) (N : News h₀ env.locals s₁.heap ((cj, oj) :: (fd, listOf ([] : List Value).toArray nn₀) :: cst))
    (hm : ∀ p ∈ ps, m₀ p.1 = some p.2) (hoj : oj.data = .cell vj) (hne : ∀ p ∈ cst, p.1 ≠ cj) (hfj : fd ≠ cj) (hfd : ∀ p ∈ cst, p.1 ≠ fd)
    (turn : ∀ (i : Nat) t oj vs nn tl (u : Str → Option Value) h tk own, i < n → OwnOff own (((cj, oj) :: (fd, listOf vs.toArray nn) :: (cst ++ tl)).map (·.1)) → oj.data = .cell (some (.int (a₀ + (i : Int)) t)) → (∀ p ∈ (fd, listOf vs.toArray nn) :: (cst ++ tl), p.1 ≠ cj) → (∀ p ∈ cst ++ tl, p.1 ≠ fd) → RatsOut tl vs (ov 1 ((List.range i).map g)) →
      Fr h₀ env.locals h (over u ps) → News h₀ env.locals h ((cj, oj) :: (fd, listOf vs.toArray nn) :: (cst ++ tl) ++ own) →
      wpAny (model prog w) A (execs body env) (InvPostG h₀ env.locals (DueJ cj fd cst g ps (i + 1)) own { s₁ with heap := h, toks := tk } Q) E { s₁ with heap := h, toks := tk })
    (done : ∀ oj vs nn tl (u : Str → Option Value) h tk, RatsOut tl vs (ov 1 ((List.range n).map g)) → Fr h₀ env.locals h (over u ps) → News h₀ env.locals h ((cj, oj) :: (fd, listOf vs.toArray nn) :: (cst ++ tl)) → Q .next { s₁ with heap := h, toks := tk }) :
    CellLoop prog w A h₀ env cj body Q E (.ref r) s₁ := by
  refine fun P kP => kP r a₀ b₀ t₀ u₀ v₀ n m₀ _ (DueJ cj fd cst g ps) rfl hh hr hsmall hsz F N (fun P kP => kP oj vj [] nn₀ [] (by rw [List.append_nil]) hoj ?_ (by rw [List.append_nil]; exact hfd) (fun _ _ _ => .nil) hm) ?_ ?_ ?_
  · rw [List.append_nil]
    intro p hp
    rcases List.mem_cons.mp hp with rfl | hp
    · exact hfj
    · exact hne p hp
  · exact fun i m nx hJ => hJ _ fun oj v₀ vs nn tl e h1 h2 h3 h4 h5 => ⟨_, _, _, e, h1, h2⟩
  · refine fun i t m₁ o o' rest h tk own hi hJ hoff hd hrest F₁ N₁ => hJ _ fun oj v₀ vs nn tl e h1 h2 h3 h4 h5 => ?_
    obtain ⟨_, rfl⟩ := List.cons.inj e
    exact turn i t o' vs nn tl m₁ h tk own hi hoff hd h2 h3 h4 (over_fr F₁ ps h5) N₁
  · refine fun m₁ nx h tk hJ F₁ N₁ => hJ _ fun oj v₀ vs nn tl e h1 h2 h3 h4 h5 => ?_
    subst e
    exact done oj vs nn tl m₁ h tk h4 (over_fr F₁ ps h5) N₁
theorem due_end {oj : Obj} {vj : Option Value} {vs : List Value} {nn nn' i : Nat} {tl own led₀ news' : List (Addr × Obj)} {L D : Addr} {x : Int} {t u : Tok} {m' : Str → Option Value} {h' : Heap} {tk : Nat} (F : Fr h₀ L h' m') (N : News h₀ L h' news') (hD : ∀ p ∈ led₀, p.1 < D)
    (hoff : OwnOff own (((cj, oj) :: (fd, listOf vs.toArray nn) :: (cst ++ tl)).map (·.1))) (hoj : oj.data = .cell vj) (h1 : ∀ p ∈ (fd, listOf vs.toArray nn) :: (cst ++ tl), p.1 ≠ cj) (h2 : ∀ p ∈ cst ++ tl, p.1 ≠ fd) (hR : RatsOut tl vs (ov 1 ((List.range i).map g)))
    (hl : ∀ p ∈ (cj, oj) :: (fd, listOf vs.toArray nn) :: own, p ∈ led₀) (hn : ∀ p ∈ (cj, oj) :: (fd, listOf (vs ++ [Value.ref D]).toArray nn') :: (cst ++ (tl ++ [(D, tupOf x 1 t u)])), p ∈ news') (ho : ∀ p ∈ own, p ∈ news')
    (hps : ∀ p ∈ ps, m' p.1 = some p.2) (hx : Leaf (x = g i)) : InvEndG h₀ L (DueJ cj fd cst g ps (i + 1)) own s₁ { s₁ with heap := h', toks := tk } := by
  have hx' : x = g i := hx
  have hc : cj < D := hl (cj, oj) (.head _) |> hD _
  have hf : fd < D := hl (fd, _) (.tail _ (.head _)) |> hD _
  have key : ∀ p ∈ cst ++ (tl ++ [(D, tupOf x 1 t u)]), p ∈ cst ++ tl ∨ p = (D, tupOf x 1 t u) := fun p hp => by
    simp only [List.mem_append, List.mem_singleton] at hp ⊢
    rcases hp with h | h | h <;> simp only [h, true_or, or_true]
  refine InvEndG.intro F N (fun P kP => kP oj vj (vs ++ [Value.ref D]) nn' (tl ++ [(D, tupOf x 1 t u)]) rfl hoj ?_ ?_ ?_ hps) ?_ hn ho
  · intro p hp
    rcases List.mem_cons.mp hp with rfl | hp
    · exact h1 (fd, listOf vs.toArray nn) (.head _)
    · rcases key p hp with h | rfl
      · exact h1 p (.tail _ h)
      · exact Nat.ne_of_gt hc
  · intro p hp
    rcases key p hp with h | rfl
    · exact h2 p h
    · exact Nat.ne_of_gt hf
  · rw [List.range_succ, List.map_append, show ov 1 ((List.range i).map g ++ [i].map g) = ov 1 ((List.range i).map g) ++ [(g i, 1)] by rw [ov, ov, List.map_append]; rfl]
    exact hR.snoc fun g' led hs => ratAt_int (hx' ▸ RatAt.made (hs _ (.head _)))
  · intro p hp b hb
    rcases List.mem_cons.mp hb with rfl | hb
    · exact hoff p hp _ (.head _)
    · rcases List.mem_cons.mp hb with rfl | hb
      · exact hoff p hp _ (.tail _ (.head _))
      · obtain ⟨q, hq, rfl⟩ := List.mem_map.mp hb
        rcases key q hq with h | rfl
        · exact hoff p hp _ (.tail _ (.tail _ (List.mem_map.mpr ⟨q, h, rfl⟩)))
        · exact Nat.ne_of_lt (hD p (hl p (.tail _ (.tail _ hp))))
end
theorem For_cellF {prog : Program} {w : World} {A : Around} {E : Value → Shared → Prop} {s : Shared} {h₀ : Heap} {cn : Str} {cs : Scope} {L a : Addr} {ccd : Value} {cl : List (Str × Addr)} {x : Str} {body : List Stmt} {Q : Flow → Shared → Prop} {c : Addr} {m : Str → Option Value}
    {px pos : Pos} {iter : PySem.Expr} (_F : Fr h₀ L s.heap m) (hk : cs.kind = .function) (hx : (envX cn cs L a ccd cl).kindOf x = some .cell) (hc : cl.lookup x = some c)
    (h : wpAny (model prog w) A (eval iter (envX cn cs L a ccd cl)) (CellLoop prog w A h₀ (envX cn cs L a ccd cl) c body Q E) E s)
    (hs : ∀ x, foldedSetIterable iter (envX cn cs L a ccd cl) x = pure x)
    (hE : PassesOwn (model prog w) A (envX cn cs L a ccd cl) E) :
    wpAny (model prog w) A (exec (.For (.Name x px) iter body [] pos) (envX cn cs L a ccd cl)) Q E s := For_cell hk hx hc h hs hE
def dueN (n : Int) (one other : List Int) (j : Int) : Int := ((List.range (n + j + 1 - 0).toNat).map fun (a : Nat) => one.getD (0 + (a : Int)).toNat 0 * other.getD (n + j - (0 + (a : Int))).toNat 0).sum
def dueF (n : Int) (one other : List Int) (i : Nat) : Int := dueN n one other (0 + (i : Int)) * stepS (0 + (i : Int)) n.toNat
end Mine

namespace Mine
open PySem.Calls PySem.Spec
section
variable {w : World} {mean : ExcName → Option Value} {mg mb : Str → Option Value} {fa : Addr} {cd : Value} {base h₀ : Heap} {L : Addr} {s : Shared} {E : Value → Shared → Prop} {Q : Flow → Shared → Prop} {u : Str → Option Value}
set_option maxHeartbeats 8000000 in
theorem phase7 {pa lone : Addr} {ts tn : Tok} {n sz : Int} {one : List Int} {w1 : List Value} {k1 : Nat} {o1 on : Obj} {led : List (Addr × Obj)} (B : Below callerA base [] h₀) (X : (hd.heap_39 w.params).In h₀) (T : Top hd.view_39 (looseW hd.view_39 []) mean mg mb h₀)
    (F : Fr h₀ L s.heap (over u [(Str.ofString "a", .ref pa), (Str.ofString "size", .int sz ts)]))
    (N : News h₀ L s.heap ((L + 1 + 1 + 1, o1) :: (L + 1 + 1, on) :: led)) (hon : on.data = .cell (some (.int n tn))) (ho1 : o1.data = .cell (some (.ref lone)))
    (hm1 : (lone, listOf w1.toArray k1) ∈ led) (hi1 : IntsAre w1 one) (hlen : (one.length : Int) = sz) (hsz : sz ≤ 90) (n0 : 1 ≤ n) (n1 : n ≤ 50) (n2 : Hide (n ≤ 3))
    (ha : SerOut led (.ref pa) (ov 1 one)) (hint : ∀ i : Nat, (i : Int) < n → IntOk (intN (ov 1 one) i))
    (hc1 : (intN (ov 1 one) n.toNat).map red = (List.replicate n.toNat (0, 1) ++ (List.range (sz - 0).toNat).map fun (j : Nat) => (one.getD (0 + (j : Int)).toNat 0, stepS (0 + (j : Int)) n.toNat)).map red)
    (hok : ∀ j : Nat, (j : Int) < n → DerOk (derN (intN (ov 1 one) n.toNat) j)) (hc2 : (derN (intN (ov 1 one) n.toNat) n.toNat).map red = (ov 1 one).map red)
    (hE : PassesOwn (model PySem.Challenge.rw_tk0030_01.row.prog w) (callerA.deeper (envOfC (Str.ofString "law") lawScope L fa cd)) (envOfC (Str.ofString "law") lawScope L fa cd) E)
    (hQ : ∀ h' tk m' nx, Fr h₀ L h' m' → News h₀ L h' nx → Q (.ret (.bool true)) { s with heap := h', toks := tk }) : wpAny (model PySem.Challenge.rw_tk0030_01.row.prog w) (callerA.deeper (envOfC (Str.ofString "law") lawScope L fa cd)) (execs (lawBody.drop 15) (envOfC (Str.ofString "law") lawScope L fa cd)) Q E s := by
  k_with_none
  w_top off
  k_with "L:ktn_open" => ((case kA => exact rfl); (case kF => exact rfl); (case kK => first | exact rfl | assumption); (case k1 => k_asm); (case k2 => k_asm); (case k3 => k_asm); (case k4 => k_asm); (case k5 => k_asm); (case k6 => k_is); (case k7 => k_is); (case k8 => ktr_room); (case k9 => exact BindsTo.of_eq rfl); (case c5 => decide); (case kB => exact locs rfl); (case c2 => exact rfl); (case c3 => exact rfl); (case c4 => exact rfl); k_whole)
  k_with "L:exec For Name Call cons nil" => (k_here; (rename Fr _ _ _ _ => lF'); (with_unfolding_all refine' For_invVF lF' ?k1 ?k2 ?_; (case k1 => exact rfl); (case k2 => exact rfl); k_whole))
  k_with "L:pyIter ref" => (k_here; k_extra "pyIter ref")
  k_with "L:RetOf" => (k_dflt (refine' retOf_mk ?rF ?rN ?_; (case rF => k_asm); (case rN => k_asm)); (try dsimp only))
  k_with "L:subscriptTail" => (k_here; (first | ((with_reducible show wpAny _ _ (subscriptTail _ _ (Value.ref _) (Value.int 0 _)) _ _ _); k_dflt (refine' rat_item0 ?hR ?hs ?F ?X ?N ?_ ?he; (case hR => assumption); (case F => k_asm); (case X => k_asm); (case N => k_asm); (case hs => kcf_all); (case he => with_unfolding_all rfl))) | ((with_reducible show wpAny _ _ (subscriptTail _ _ (Value.ref _) (Value.int 1 _)) _ _ _); k_dflt (refine' rat_item1 ?hR ?hs ?F ?X ?N ?_ ?he; (case hR => assumption); (case F => k_asm); (case X => k_asm); (case N => k_asm); (case hs => kcf_all); (case he => with_unfolding_all rfl)))); intro t9; (try dsimp only))
  k_with "L:subscriptTail" => (k_here; (with_reducible show wpAny _ _ (subscriptTail _ _ (Value.ref _) (Value.int _ _)) _ _ _); k_dflt (refine' ser_item ?hR ?hs ?F ?N ?h0 ?hk ?hl ?_ ?he; (case hR => assumption); (case F => k_asm); (case N => k_asm); (case hs => kcf_all); (case h0 => omega); (case hk => omega); (case hl => omega); (case he => with_unfolding_all rfl)); intro b9 hb9; (try dsimp only))
  k_with "L:call builtin:len" => (k_here; (with_reducible show wpAny _ _ (call (Value.builtin "len") [Value.ref _]) _ _ _); k_dflt (refine' ser_len ?hR ?hs ?F ?N ?hl ?_; (case hR => assumption); (case F => k_asm); (case N => k_asm); (case hs => kcf_all); (case hl => omega)); (try dsimp only))
  k_with "L:compareOp NotEq ref ref" => (k_here; (with_reducible show wpAny _ _ (compareOp CmpOp.NotEq (Value.ref _) (Value.ref _)) _ _ _); k_dflt (refine' rat_ne ?hR ?hs ?hR2 ?hs2 ?F ?X ?N ?hu ?_; (case hR => first | assumption | exact RatAt.zero (led := []) | exact RatAt.one (led := [])); (case hR2 => first | assumption | exact RatAt.zero (led := []) | exact RatAt.one (led := [])); (case F => k_asm); (case X => k_asm); (case N => k_asm); (case hs => kcf_all); (case hs2 => kcf_all); (case hu => ktr_units)); (try dsimp only))
  k_with "L:ktr_unf" => ((case kA => exact rfl); (case kF => exact rfl); (case kK => first | exact rfl | assumption); (case k1 => k_asm); (case k2 => k_asm); (case k3 => k_asm); (case k4 => k_asm); (case k5 => k_asm); (case k6 => k_is); (case k7 => k_is); (case k8 => ktr_room); (case k9 => exact BindsTo.of_eq rfl); (case kB => exact rfl); (case kD => decide +kernel); (case c2 => exact rfl); (case c3 => exact rfl); (case c4 => exact rfl); k_whole)
  k_with "L:CompSrc" => (k_here; k_extra "CompSrc")
  k_with "L:eval ListComp" => (k_here; k_dflt (refine LCg.ListComp_U (F₀ := by k_asm) (by with_unfolding_all rfl) (by decide) (by rfl) (by decide) (by rfl) ?_))
  k_with "L:CompOut" => (k_dflt (refine' compOut_mk ?F ?N ?hO ?hA ?hs ?hn ?ht ?_; (case F => k_asm); (case N => k_asm); (case hO => assumption); (case hA => assumption); (case hs => kcf_all); (case hn => kcf_all); (case ht => kcf_all)))
  k_with "L:binaryOp Add ref ref" => (k_here; (with_reducible show wpAny _ _ (binaryOp Operator.Add (Value.ref _) (Value.ref _)) _ _ _); k_dflt (refine' add_lists ?F ?N ?a ?b ?_ ?z; (case F => k_asm); (case N => k_asm); (case a => exact News.isList (by k_asm) (by k_mem)); (case b => exact News.isList (by k_asm) (by k_mem)); (case z => (rw [PySem.sizeLine_eq]; (try simp only [List.length_cons, List.length_nil, List.length_replicate]); omega))); intro h' F' N'; (try dsimp only))
  k_with "L:binaryOp Mult ref int" => (k_here; (with_reducible show wpAny _ _ (binaryOp Operator.Mult (Value.ref _) (Value.int _ _)) _ _ _); k_dflt (refine' KMa.mul ?F ?N ?l ?lo ?hi ?z ?e ?_; (case F => k_asm); (case N => k_asm); (case l => exact News.isList (by k_asm) (by k_mem)); (case e => exact flat_one _ _); (case lo => omega); (case hi => omega); (case z => (simp only [List.length_cons, List.length_nil]; omega)); k_whole); intro D' h' F' N' l1; (try dsimp only))
  k_with "L:InvEndG" => (k_here; k_extra "InvEndG")
  k_with "L:compareOp NotEq ref ref" => (k_here; k_extra "compareOp NotEq ref ref")
  k_with "L:compareOp Eq ref ref" => (k_here; k_extra "compareOp Eq ref ref")
  k_with "L:subscriptTail" => (k_here; (with_reducible show wpAny _ _ (subscriptTail _ _ (Value.ref _) (Value.int _ _)) _ _ _); k_dflt (refine' ints_item ?N ?hm ?hs ?hi ?h0 ?hk ?hl ?_ ?he; (case N => k_asm); (case hm => assumption); (case hs => kcf_all); (case hi => assumption); (case h0 => omega); (case hk => omega); (case hl => omega); (case he => with_unfolding_all rfl)); intro t9; (try dsimp only))
  k_with "L:subscriptTail" => (k_here; (with_reducible show wpAny _ _ (subscriptTail _ _ (Value.ref _) (Value.int _ _)) _ _ _); k_dflt (refine' ders_item ?N ?hm ?hs ?hD ?hp ?h0 ?hk ?hl ?_ ?he; (case N => k_asm); (case hm => assumption); (case hs => kcf_all); (case hD => assumption); (case hp => assumption); (case h0 => omega); (case hk => omega); (case hl => omega); (case he => with_unfolding_all rfl)); intro b9 hb9; (try dsimp only))
  k_with "L:call ref" => (k_here; (with_reducible show wpAny _ _ (call (Value.ref 138) _) _ _ _); k_dflt (refine' sintegrate_use ?p0 ?p1 ?p2 ?p3 ?p4 ?p5 ?k1 ?k2 ?k3 ?k4 ?k5 ?kK ?kd ?ku ?_; (case k1 => k_asm); (case k2 => k_asm); (case k3 => k_asm); (case k4 => k_asm); (case k5 => k_asm); (case kK => first | exact rfl | assumption); (case p0 => assumption); (case p1 => kcf_all); (case p2 => assumption); (case p3 => assumption); (case p4 => assumption); (case p5 => assumption); (case kd => ktr_room); (case ku => ktr_units); k_whole); intro r9 tl9 h9 tk9 F9 N9 hA9 hO9; (obtain ⟨b8, e8⟩ := SerOut.ref hO9; subst e8; have hR9 := SerOut.at hO9 F9); (try dsimp only); (try k_fold))
  k_with "L:call ref" => (k_here; (with_reducible show wpAny _ _ (call (Value.ref 173) _) _ _ _); k_dflt (refine' steps_use ?p0 ?p1 ?p2 ?p3 ?k1 ?k2 ?k3 ?k4 ?k5 ?kK ?kd ?ku ?_; (case k1 => k_asm); (case k2 => k_asm); (case k3 => k_asm); (case k4 => k_asm); (case k5 => k_asm); (case kK => first | exact rfl | assumption); (case p0 => omega); (case p1 => omega); (case p2 => omega); (case p3 => first | omega | exact Hide.out (by assumption)); (case kd => ktr_room); (case ku => ktr_units); k_whole); intro r9 tl9 h9 tk9 F9 N9 hA9 hO9; (obtain ⟨t9, e9, hp9, hq9⟩ := hO9; subst e9); (try dsimp only); (try k_fold))
  k_with "L:call ref" => (k_here; (with_reducible show wpAny _ _ (call (Value.ref 166) _) _ _ _); k_dflt (refine' low_use ?p0 ?p1 ?k1 ?k2 ?k3 ?k4 ?k5 ?kK ?kd ?ku ?_; (case k1 => k_asm); (case k2 => k_asm); (case k3 => k_asm); (case k4 => k_asm); (case k5 => k_asm); (case kK => first | exact rfl | assumption); (case p0 => assumption); (case p1 => assumption); (case kd => ktr_room); (case ku => ktr_units); k_whole); intro r9 tl9 h9 tk9 F9 N9 hA9 hO9; (obtain ⟨b8, e8⟩ := RatOut.ref hO9; subst e8; have hR9 := RatOut.at hO9 F9; (try dsimp only at hO9 hR9)); (try dsimp only); (try k_fold))
  k_with "L:call ref" => (k_here; (with_reducible show wpAny _ _ (call (Value.ref 180) _) _ _ _); k_dflt (refine' derived_use ?p0 ?p1 ?p2 ?p3 ?p4 ?k1 ?k2 ?k3 ?k4 ?k5 ?kK ?kd ?ku ?_; (case k1 => k_asm); (case k2 => k_asm); (case k3 => k_asm); (case k4 => k_asm); (case k5 => k_asm); (case kK => first | exact rfl | assumption); (case p0 => assumption); (case p1 => kcf_all); (case p2 => omega); (case p3 => omega); (case p4 => assumption); (case kd => ktr_room); (case ku => ktr_units); k_whole); intro r9 tl9 h9 tk9 F9 N9 hA9 hO9; (obtain ⟨D9, vs9, nn9, e9, hm9, hd9⟩ := hO9; subst e9); (try dsimp only); (try k_fold))
  revert X; k_fill; intro X
  unfold lawBody lawScope lawDef PySem.Challenge.pw_tk0030_01 at *
  dsimp only [lastOf, bodyOf, scopeOf, List.drop] at *
  have hpa := ha.at F
  (try k_fold)
  k_with "pyIter ref" => ((rename Fr _ _ _ _ => lF'); (rename News _ _ _ _ => lN'); k_dflt (refine' range_ser (y := Str.ofString "whole") (fun i => intN (ov 1 one) i) ?r1 ?r2 ?r3 ?r4 lF' lN' ?r5 ?r6 (fun i₁ t₁ v₁ tl₁ h₁ tk₁ own₁ hi₁ hoff₁ hA₁ hO₁ F' N' => ?cturn) (fun v₁ u₁ tl₁ h₁ tk₁ hA₁ hO₁ F' N' => ?cdone); (case r1 => rfl); (case r2 => assumption); (case r3 => exact small_one (by omega) (by omega) (by omega) (by omega)); (case r4 => exact rangeSize_nat _ _); (case r5 => rfl); (case r6 => exact SerOut.mono ha (by kcf_all))); (all_goals (try clear lF' lN')); (all_goals have hR₁ := SerOut.at hO₁ F'); k_dflt (case' cturn => (have hi₂ : (i₁ : Int) < n := (by omega); obtain ⟨ok1, ok2, ok3, ok4⟩ := hint i₁ hi₂)); (case' cdone => (rw [Int.sub_zero] at hR₁)); (all_goals (try k_fold)))
  k_with "InvEndG" => (k_dflt (refine' rs_end ?F ?N ?hv ?hO ?hA ?hoff ?hX ?hX' ?hn ?ht ?ho ?hm ?_; (case F => k_asm); (case N => k_asm); (case hv => exact rfl); (case hO => assumption); (case hA => assumption); (case hoff => assumption); (case hX => kcf_all); (case hX' => kcf_all); (case hn => kcf_all); (case ht => kcf_all); (case ho => kcf_all); (case hm => (intro z h1 h2; simp only [if_neg h1, if_neg h2]))))
  k_with "CompSrc" => (k_dflt (refine' LCg.CompSrc.range ?s1 ?s2 ?s3 ?s4 ?s5 ?s6 ?s7 ?_; (case s1 => rfl); (case s2 => k_asm); (case s3 => k_asm); (case s4 => assumption); (case s5 => exact small_one (by omega) (by omega) (by omega) (by omega)); (case s6 => exact rangeSize_nat _ _); (case s7 => (rw [PySem.sizeLine_eq]; omega))); intro g9; (k_dflt (refine' comp_rats (fun (j : Nat) => (one.getD (0 + (j : Int)).toNat 0, stepS (0 + (j : Int)) n.toNat)) (fun _ => True.intro) (fun i' v' I' oI' C' oC' D' m' ys' h' tk' tl' E' hi' hP' hC' hx' F' N' => ?eturn) (fun ys' tl' hO' => ?efin))); (case' eturn => (obtain ⟨t', hv'⟩ := hP'; subst hv')); (case' efin => (have hl9 := RatsOut.length hO'; simp only [List.length_map, List.length_range] at hl9)); (all_goals (try k_fold)))
  k_with "compareOp NotEq ref ref" => (k_dflt (refine' ser_ne_false ?hR ?hs ?hR2 ?hs2 ?F ?X ?N ?hu hc1 ?_; (case F => k_asm); (case X => k_asm); (case N => k_asm); (case hR => assumption); (case hs => kcf_all); (case hR2 => exact ser_here (by assumption) (by k_mem) (RatsAt.append (rats_rep (ratAt_int (RatAt.made (by k_mem))) _) (hO' _ _ (by kcf_all)))); (case hs2 => kcf_all); (case hu => ktr_units)); (try dsimp only))
  k_with "compareOp Eq ref ref" => (k_dflt (refine' ser_eq_true ?hR ?hs ?hR2 ?hs2 ?F ?X ?N ?hu hc2 ?_; (case F => k_asm); (case X => k_asm); (case N => k_asm); (case hR => assumption); (case hs => kcf_all); (case hR2 => exact hpa); (case hs2 => kcf_all); (case hu => ktr_units)); (try dsimp only))
  k_steps
  all_goals (first
    | exact rfl
    | exact hQ _ _ _ _ (by assumption) (by assumption)
    | trace_state)

end
end Mine

namespace Mine
open PySem.Calls PySem.Spec
section
variable {w : World} {mean : ExcName → Option Value} {mg mb : Str → Option Value} {fa : Addr} {cd : Value} {base h₀ : Heap} {L : Addr} {s : Shared} {E : Value → Shared → Prop} {Q : Flow → Shared → Prop} {u : Str → Option Value}
set_option maxHeartbeats 8000000 in
theorem phase6 {pa : Addr} {ts tn tc tl : Tok} {n sz c : Int} {one : List Int} {o1 on : Obj} {led : List (Addr × Obj)} (B : Below callerA base [] h₀) (X : (hd.heap_39 w.params).In h₀) (T : Top hd.view_39 (looseW hd.view_39 []) mean mg mb h₀)
    (F : Fr h₀ L s.heap (over u [(Str.ofString "a", .ref pa), (Str.ofString "size", .int sz ts), (Str.ofString "c", .int c tc), (Str.ofString "left", .int (sz - n) tl)]))
    (N : News h₀ L s.heap ((L + 1 + 1 + 1, o1) :: (L + 1 + 1, on) :: led)) (hon : on.data = .cell (some (.int n tn)))
    (hlen : (one.length : Int) = sz) (hsz : sz ≤ 90) (hsz0 : 5 ≤ sz) (n0 : 1 ≤ n) (n1 : n ≤ 50) (n2 : Hide (n ≤ 3)) (hc0 : -3 ≤ c) (hc1 : c ≤ 3)
    (hcl : (cutS c sz).length = sz.toNat) (hch : Hide (Hide ((cutS c sz).length ≤ 6)))
    (ha : SerOut led (.ref pa) (ov 1 one)) (hturn : ∀ i : Nat, (i : Int) < n → DerOk (ov 1 (turnS c one i)))
    (hE1 : ∀ i, Bd ((expS c (cutS c sz).length).getD i 0)) (hE2 : ∀ k m, Bd (conv (expS c (cutS c sz).length) one k m)) (hE3 : ∀ k m, Bd (conv (expS c (cutS c sz).length) (turnS c one n.toNat) k m))
    (hok : ∀ j : Nat, (j : Int) < n → DerOk (derN (ov (120 * 1) (smulS (expS c (cutS c sz).length) one)) j))
    (hc3 : (derN (ov (120 * 1) (smulS (expS c (cutS c sz).length) one)) n.toNat).map red = (ov (120 * 1) (smulS (expS c (cutS c sz).length) (turnS c one n.toNat))).map red)
    (hE : PassesOwn (model PySem.Challenge.rw_tk0030_01.row.prog w) (callerA.deeper (envOfC (Str.ofString "law") lawScope L fa cd)) (envOfC (Str.ofString "law") lawScope L fa cd) E)
    (cont : ∀ u' h tk, Fr h₀ L h (over u' [(Str.ofString "a", .ref pa), (Str.ofString "size", .int sz ts)]) → News h₀ L h ((L + 1 + 1 + 1, o1) :: (L + 1 + 1, on) :: led) →
      wpAny (model PySem.Challenge.rw_tk0030_01.row.prog w) (callerA.deeper (envOfC (Str.ofString "law") lawScope L fa cd)) (execs (lawBody.drop 15) (envOfC (Str.ofString "law") lawScope L fa cd)) Q E { s with heap := h, toks := tk }) : wpAny (model PySem.Challenge.rw_tk0030_01.row.prog w) (callerA.deeper (envOfC (Str.ofString "law") lawScope L fa cd)) (execs (lawBody.drop 12) (envOfC (Str.ofString "law") lawScope L fa cd)) Q E s := by
  k_with_none
  w_top off
  k_with "L:ktn_open" => ((case kA => exact rfl); (case kF => exact rfl); (case kK => first | exact rfl | assumption); (case k1 => k_asm); (case k2 => k_asm); (case k3 => k_asm); (case k4 => k_asm); (case k5 => k_asm); (case k6 => k_is); (case k7 => k_is); (case k8 => ktr_room); (case k9 => exact BindsTo.of_eq rfl); (case c5 => decide); (case kB => exact locs rfl); (case c2 => exact rfl); (case c3 => exact rfl); (case c4 => exact rfl); k_whole)
  k_with "L:exec For Name Call cons nil" => (k_here; (rename Fr _ _ _ _ => lF'); (with_unfolding_all refine' For_invVF lF' ?k1 ?k2 ?_; (case k1 => exact rfl); (case k2 => exact rfl); k_whole))
  k_with "L:pyIter ref" => (k_here; k_extra "pyIter ref")
  k_with "L:RetOf" => (k_dflt (refine' retOf_mk ?rF ?rN ?_; (case rF => k_asm); (case rN => k_asm)); (try dsimp only))
  k_with "L:subscriptTail" => (k_here; (first | ((with_reducible show wpAny _ _ (subscriptTail _ _ (Value.ref _) (Value.int 0 _)) _ _ _); k_dflt (refine' rat_item0 ?hR ?hs ?F ?X ?N ?_ ?he; (case hR => assumption); (case F => k_asm); (case X => k_asm); (case N => k_asm); (case hs => kcf_all); (case he => with_unfolding_all rfl))) | ((with_reducible show wpAny _ _ (subscriptTail _ _ (Value.ref _) (Value.int 1 _)) _ _ _); k_dflt (refine' rat_item1 ?hR ?hs ?F ?X ?N ?_ ?he; (case hR => assumption); (case F => k_asm); (case X => k_asm); (case N => k_asm); (case hs => kcf_all); (case he => with_unfolding_all rfl)))); intro t9; (try dsimp only))
  k_with "L:subscriptTail" => (k_here; (with_reducible show wpAny _ _ (subscriptTail _ _ (Value.ref _) (Value.int _ _)) _ _ _); k_dflt (refine' ser_item ?hR ?hs ?F ?N ?h0 ?hk ?hl ?_ ?he; (case hR => assumption); (case F => k_asm); (case N => k_asm); (case hs => kcf_all); (case h0 => omega); (case hk => omega); (case hl => omega); (case he => with_unfolding_all rfl)); intro b9 hb9; (try dsimp only))
  k_with "L:call builtin:len" => (k_here; (with_reducible show wpAny _ _ (call (Value.builtin "len") [Value.ref _]) _ _ _); k_dflt (refine' ser_len ?hR ?hs ?F ?N ?hl ?_; (case hR => assumption); (case F => k_asm); (case N => k_asm); (case hs => kcf_all); (case hl => omega)); (try dsimp only))
  k_with "L:compareOp NotEq ref ref" => (k_here; (with_reducible show wpAny _ _ (compareOp CmpOp.NotEq (Value.ref _) (Value.ref _)) _ _ _); k_dflt (refine' rat_ne ?hR ?hs ?hR2 ?hs2 ?F ?X ?N ?hu ?_; (case hR => first | assumption | exact RatAt.zero (led := []) | exact RatAt.one (led := [])); (case hR2 => first | assumption | exact RatAt.zero (led := []) | exact RatAt.one (led := [])); (case F => k_asm); (case X => k_asm); (case N => k_asm); (case hs => kcf_all); (case hs2 => kcf_all); (case hu => ktr_units)); (try dsimp only))
  k_with "L:subscriptTail" => (k_here; (with_reducible show wpAny _ _ (subscriptTail _ _ (Value.ref _) (Value.int _ _)) _ _ _); k_dflt (refine' ov_item ?hR ?hs ?F ?N ?h0 ?hk ?hl ?_ ?he; (case hR => assumption); (case F => k_asm); (case N => k_asm); (case hs => kcf_all); (case h0 => omega); (case hk => omega); (case hl => omega); (case he => with_unfolding_all rfl)); intro b9 hb9; (try dsimp only))
  k_with "L:call builtin:len" => (k_here; (with_reducible show wpAny _ _ (call (Value.builtin "len") [Value.ref _]) _ _ _); k_dflt (refine' ov_len ?hR ?hs ?F ?N ?hl ?_; (case hR => assumption); (case F => k_asm); (case N => k_asm); (case hs => kcf_all); (case hl => omega)); (try dsimp only))
  k_with "L:InvEndG" => (k_here; k_extra "InvEndG")
  k_with "L:compareOp NotEq ref ref" => (k_here; k_extra "compareOp NotEq ref ref")
  k_with "L:subscriptTail" => (k_here; (with_reducible show wpAny _ _ (subscriptTail _ _ (Value.ref _) (Value.int _ _)) _ _ _); k_dflt (refine' ints_item ?N ?hm ?hs ?hi ?h0 ?hk ?hl ?_ ?he; (case N => k_asm); (case hm => assumption); (case hs => kcf_all); (case hi => assumption); (case h0 => omega); (case hk => omega); (case hl => omega); (case he => with_unfolding_all rfl)); intro t9; (try dsimp only))
  k_with "L:subscriptTail" => (k_here; (with_reducible show wpAny _ _ (subscriptTail _ _ (Value.ref _) (Value.int _ _)) _ _ _); k_dflt (refine' ders_item ?N ?hm ?hs ?hD ?hp ?h0 ?hk ?hl ?_ ?he; (case N => k_asm); (case hm => assumption); (case hs => kcf_all); (case hD => assumption); (case hp => assumption); (case h0 => omega); (case hk => omega); (case hl => omega); (case he => with_unfolding_all rfl)); intro b9 hb9; (try dsimp only))
  k_with "L:execs cons Assign cons" => (k_here; k_extra "stop")
  k_with "L:execs cons For cons" => (k_here; k_extra "stop")
  k_with "L:execs cons If cons" => (k_here; k_extra "stop")
  k_with "L:call ref" => (k_here; (with_reducible show wpAny _ _ (call (Value.ref 99) _) _ _ _); k_dflt (refine' cut2_use ?p0 ?p1 ?p2 ?p3 ?p4 ?k1 ?k2 ?k3 ?k4 ?k5 ?kK ?kd ?ku ?_; (case k1 => k_asm); (case k2 => k_asm); (case k3 => k_asm); (case k4 => k_asm); (case k5 => k_asm); (case kK => first | exact rfl | assumption); (case p0 => exact News.get (by assumption) (by k_mem)); (case p1 => exact RatAt.made (by k_mem)); (case p2 => exact RatAt.made (by k_mem)); (case p3 => omega); (case p4 => omega); (case kd => ktr_room); (case ku => ktr_units); k_whole); intro r9 tl9 h9 tk9 F9 N9 hA9 hO9; (obtain ⟨D9, e9, hR9⟩ := hO9; subst e9); (try dsimp only); (try k_fold))
  k_with "L:call ref" => (k_here; (with_reducible show wpAny _ _ (call (Value.ref 152) _) _ _ _); k_dflt (refine' sexp_use ?p0 ?p1 ?p2 ?p3 ?p4 ?p5 ?p6 ?k1 ?k2 ?k3 ?k4 ?k5 ?kK ?kd ?ku ?_; (case k1 => k_asm); (case k2 => k_asm); (case k3 => k_asm); (case k4 => k_asm); (case k5 => k_asm); (case kK => first | exact rfl | assumption); (case p0 => assumption); (case p1 => kcf_all); (case p2 => exact Hide.out (by assumption)); (case p3 => omega); (case p4 => exact cutS_get _ _); (case p5 => omega); (case p6 => omega); (case kd => ktr_room); (case ku => ktr_units); k_whole); intro r9 tl9 h9 tk9 F9 N9 hA9 hO9; (obtain ⟨b8, e8⟩ := SerOut.ref hO9; subst e8; have hR9 := SerOut.at hO9 F9); (try dsimp only); (try k_fold))
  k_with "L:call ref" => (k_here; (with_reducible show wpAny _ _ (call (Value.ref 133) _) _ _ _); k_dflt (refine' sderive_use ?p0 ?p1 ?p2 ?p3 ?p4 ?p5 ?k1 ?k2 ?k3 ?k4 ?k5 ?kK ?kd ?ku ?_; (case k1 => k_asm); (case k2 => k_asm); (case k3 => k_asm); (case k4 => k_asm); (case k5 => k_asm); (case kK => first | exact rfl | assumption); (case p0 => assumption); (case p1 => kcf_all); (case p2 => assumption); (case p3 => assumption); (case p4 => assumption); (case p5 => assumption); (case kd => ktr_room); (case ku => ktr_units); k_whole); intro r9 tl9 h9 tk9 F9 N9 hA9 hO9; ((try rw [derP_ov] at hO9); obtain ⟨b8, e8⟩ := SerOut.ref hO9; subst e8; have hR9 := SerOut.at hO9 F9); (try dsimp only); (try k_fold))
  k_with "L:call ref" => (k_here; (with_reducible show wpAny _ _ (call (Value.ref 116) _) _ _ _); k_dflt (refine' sscale_use ?p0 ?p1 ?p2 ?p3 ?p4 ?p5 ?p6 ?p7 ?k1 ?k2 ?k3 ?k4 ?k5 ?kK ?kd ?ku ?_; (case k1 => k_asm); (case k2 => k_asm); (case k3 => k_asm); (case k4 => k_asm); (case k5 => k_asm); (case kK => first | exact rfl | assumption); (case p0 => exact made_of (by assumption) (by k_mem)); (case p1 => kcf_all); (case p2 => assumption); (case p3 => kcf_all); (case p4 => first | omega | (simp only [derS_length, scaS_length, addS_length, turnS_length, expS_length]; omega)); (case p5 => first | with_reducible assumption | exact ⟨by (try dsimp only); omega, by (try dsimp only); omega⟩ | solve_by_elim | (dsimp only; solve_by_elim)); (case p6 => omega); (case p7 => omega); (case kd => ktr_room); (case ku => ktr_units); k_whole); intro r9 tl9 h9 tk9 F9 N9 hA9 hO9; (obtain ⟨b8, e8⟩ := SerOut.ref hO9; subst e8; have hR9 := SerOut.at hO9 F9); (try dsimp only); (try k_fold))
  k_with "L:call ref" => (k_here; (with_reducible show wpAny _ _ (call (Value.ref 111) _) _ _ _); k_dflt (refine' sadd_use ?p0 ?p1 ?p2 ?p3 ?p4 ?p5 ?p6 ?p7 ?k1 ?k2 ?k3 ?k4 ?k5 ?kK ?kd ?ku ?_; (case k1 => k_asm); (case k2 => k_asm); (case k3 => k_asm); (case k4 => k_asm); (case k5 => k_asm); (case kK => first | exact rfl | assumption); (case p0 => assumption); (case p1 => kcf_all); (case p2 => assumption); (case p3 => kcf_all); (case p4 => first | omega | (simp only [derS_length, scaS_length, addS_length, turnS_length, expS_length]; omega)); (case p5 => first | omega | (simp only [derS_length, scaS_length, addS_length, turnS_length, expS_length]; omega)); (case p6 => omega); (case p7 => omega); (case kd => ktr_room); (case ku => ktr_units); k_whole); intro r9 tl9 h9 tk9 F9 N9 hA9 hO9; (obtain ⟨b8, e8⟩ := SerOut.ref hO9; subst e8; have hR9 := SerOut.at hO9 F9); (try dsimp only); (try k_fold))
  k_with "L:call ref" => (k_here; (with_reducible show wpAny _ _ (call (Value.ref 128) _) _ _ _); k_dflt (refine' smul_use ?p0 ?p1 ?p2 ?p3 ?p4 ?p5 ?p6 ?p7 ?p8 ?p9 ?p10 ?k1 ?k2 ?k3 ?k4 ?k5 ?kK ?kd ?ku ?_; (case k1 => k_asm); (case k2 => k_asm); (case k3 => k_asm); (case k4 => k_asm); (case k5 => k_asm); (case kK => first | exact rfl | assumption); (case p0 => assumption); (case p1 => kcf_all); (case p2 => assumption); (case p3 => kcf_all); (case p4 => first | omega | (simp only [derS_length, scaS_length, addS_length, turnS_length, expS_length]; omega)); (case p5 => first | omega | (simp only [derS_length, scaS_length, addS_length, turnS_length, expS_length]; omega)); (case p6 => omega); (case p7 => omega); (case p8 => omega); (case p9 => first | assumption | solve_by_elim); (case p10 => first | assumption | solve_by_elim); (case kd => ktr_room); (case ku => ktr_units); k_whole); intro r9 tl9 h9 tk9 F9 N9 hA9 hO9; (obtain ⟨b8, e8⟩ := SerOut.ref hO9; subst e8; have hR9 := SerOut.at hO9 F9); (try dsimp only); (try k_fold))
  k_with "L:call ref" => (k_here; (with_reducible show wpAny _ _ (call (Value.ref 180) _) _ _ _); k_dflt (refine' derived_use ?p0 ?p1 ?p2 ?p3 ?p4 ?k1 ?k2 ?k3 ?k4 ?k5 ?kK ?kd ?ku ?_; (case k1 => k_asm); (case k2 => k_asm); (case k3 => k_asm); (case k4 => k_asm); (case k5 => k_asm); (case kK => first | exact rfl | assumption); (case p0 => assumption); (case p1 => kcf_all); (case p2 => omega); (case p3 => omega); (case p4 => assumption); (case kd => ktr_room); (case ku => ktr_units); k_whole); intro r9 tl9 h9 tk9 F9 N9 hA9 hO9; (obtain ⟨D9, vs9, nn9, e9, hm9, hd9⟩ := hO9; subst e9); (try dsimp only); (try k_fold))
  revert X; k_fill; intro X
  unfold lawBody lawScope lawDef PySem.Challenge.pw_tk0030_01 at *
  dsimp only [lastOf, bodyOf, scopeOf, List.drop] at *
  have hpa := ha.at F
  (try k_fold)
  k_with "pyIter ref" => ((rename Fr _ _ _ _ => lF'); (rename News _ _ _ _ => lN'); k_dflt (refine' range_ser (y := Str.ofString "turned") (fun i => ov 1 (turnS c one i)) ?r1 ?r2 ?r3 ?r4 lF' lN' ?r5 ?r6 (fun i₁ t₁ v₁ tl₁ h₁ tk₁ own₁ hi₁ hoff₁ hA₁ hO₁ F' N' => ?cturn) (fun v₁ u₁ tl₁ h₁ tk₁ hA₁ hO₁ F' N' => ?cdone); (case r1 => rfl); (case r2 => assumption); (case r3 => exact small_one (by omega) (by omega) (by omega) (by omega)); (case r4 => exact rangeSize_nat _ _); (case r5 => rfl); (case r6 => exact SerOut.mono ha (by kcf_all))); (all_goals (try clear lF' lN')); (all_goals have hR₁ := SerOut.at hO₁ F'); k_dflt (case' cturn => (have hi₂ : (i₁ : Int) < n := (by omega); have hn₃ : n ≤ 3 := n2.out; obtain ⟨ok1, ok2, ok3, ok4⟩ := hturn i₁ hi₂; have hT₁ := turnS_length c one i₁)); (case' cdone => (rw [Int.sub_zero] at hR₁; have hn₃ : n ≤ 3 := n2.out; have hT₁ := turnS_length c one n.toNat)); (all_goals (try k_fold)))
  k_with "InvEndG" => (k_dflt (refine' rs_end ?F ?N ?hv ?hO ?hA ?hoff ?hX ?hX' ?hn ?ht ?ho ?hm ?_; (case F => k_asm); (case N => k_asm); (case hv => exact rfl); (case hO => assumption); (case hA => assumption); (case hoff => assumption); (case hX => kcf_all); (case hX' => kcf_all); (case hn => kcf_all); (case ht => kcf_all); (case ho => kcf_all); (case hm => (intro z h1 h2; simp only [if_neg h1, if_neg h2]))))
  k_with "stop" => ((with_reducible show wpAny _ _ (execs (Stmt.Assign _ _ { line := 122, col := _, endLine := _, endCol := _ } :: _) _) _ _ _); k_dflt (refine' cont _ _ _ ?F ?N; (case F => exact over_fr (by assumption) _ (all_cons rfl (all_cons rfl all_nil))); (case N => exact kst_newsOf (by assumption) (by kcf_all))))
  k_with "compareOp NotEq ref ref" => (k_dflt (refine' ser_ne_false ?hR ?hs ?hR2 ?hs2 ?F ?X ?N ?hu hc3 ?_; (case F => k_asm); (case X => k_asm); (case N => k_asm); (case hR => assumption); (case hs => kcf_all); (case hR2 => assumption); (case hs2 => kcf_all); (case hu => ktr_units)); (try dsimp only))
  k_steps
  all_goals (first
    | exact rfl
    | (exfalso; omega)
    | trace_state)

end
end Mine

namespace Mine
open PySem.Calls PySem.Spec
section
variable {w : World} {mean : ExcName → Option Value} {mg mb : Str → Option Value} {fa : Addr} {cd : Value} {base h₀ : Heap} {L : Addr} {s : Shared} {E : Value → Shared → Prop} {Q : Flow → Shared → Prop} {u : Str → Option Value}
set_option maxHeartbeats 8000000 in
theorem phase5 {pa pb pd Ls Lo : Addr} {ts tn tc tl : Tok} {n sz c : Int} {one other dues : List Int} {vs vs₂ : List Value} {nn nn₂ : Nat} {o1 on : Obj} {led : List (Addr × Obj)} (B : Below callerA base [] h₀) (X : (hd.heap_39 w.params).In h₀) (T : Top hd.view_39 (looseW hd.view_39 []) mean mg mb h₀)
    (F : Fr h₀ L s.heap (over u [(Str.ofString "a", .ref pa), (Str.ofString "size", .int sz ts), (Str.ofString "c", .int c tc), (Str.ofString "left", .int (sz - n) tl), (Str.ofString "slopes", .ref Ls), (Str.ofString "others", .ref Lo), (Str.ofString "due", .ref pd)]))
    (N : News h₀ L s.heap ((L + 1 + 1 + 1, o1) :: (L + 1 + 1, on) :: led)) (hon : on.data = .cell (some (.int n tn)))
    (hlen : (one.length : Int) = sz) (hlen₂ : (other.length : Int) = sz) (hsz : sz ≤ 90) (hsz0 : 5 ≤ sz) (n0 : 1 ≤ n) (n1 : n ≤ 50) (n2 : Hide (n ≤ 3)) (hns : n + 2 ≤ sz)
    (ha : SerOut led (.ref pa) (ov 1 one)) (hb : SerOut led (.ref pb) (ov 1 other)) (hd : SerOut led (.ref pd) (ov 1 dues))
    (hms : (Ls, listOf vs.toArray nn) ∈ led) (hDs : Ders led pa (ov 1 one) n.toNat vs) (hmo : (Lo, listOf vs₂.toArray nn₂) ∈ led) (hDo : Ders led pb (ov 1 other) n.toNat vs₂)
    (hB1 : ∀ j : Nat, j ≤ 3 → ∀ i, Bd ((derZ one j).getD i 0)) (hB2 : ∀ j j₂ : Nat, j ≤ 3 → j₂ ≤ 3 → ∀ k m, Bd (conv (derZ one j) (derZ other j₂) k m)) (hB3 : ∀ j : Nat, j ≤ 3 → Bd (binS n j))
    (hc4 : (ov 1 (totS n one other (sz - n).toNat (n + 1).toNat)).map red = (ov 1 dues).map red)
    (hE : PassesOwn (model PySem.Challenge.rw_tk0030_01.row.prog w) (callerA.deeper (envOfC (Str.ofString "law") lawScope L fa cd)) (envOfC (Str.ofString "law") lawScope L fa cd) E)
    (cont : ∀ u' h tk, Fr h₀ L h (over u' [(Str.ofString "a", .ref pa), (Str.ofString "size", .int sz ts), (Str.ofString "c", .int c tc), (Str.ofString "left", .int (sz - n) tl)]) → News h₀ L h ((L + 1 + 1 + 1, o1) :: (L + 1 + 1, on) :: led) →
      wpAny (model PySem.Challenge.rw_tk0030_01.row.prog w) (callerA.deeper (envOfC (Str.ofString "law") lawScope L fa cd)) (execs (lawBody.drop 12) (envOfC (Str.ofString "law") lawScope L fa cd)) Q E { s with heap := h, toks := tk }) : wpAny (model PySem.Challenge.rw_tk0030_01.row.prog w) (callerA.deeper (envOfC (Str.ofString "law") lawScope L fa cd)) (execs (lawBody.drop 9) (envOfC (Str.ofString "law") lawScope L fa cd)) Q E s := by
  k_with_none
  w_top off
  k_with "L:ktn_open" => ((case kA => exact rfl); (case kF => exact rfl); (case kK => first | exact rfl | assumption); (case k1 => k_asm); (case k2 => k_asm); (case k3 => k_asm); (case k4 => k_asm); (case k5 => k_asm); (case k6 => k_is); (case k7 => k_is); (case k8 => ktr_room); (case k9 => exact BindsTo.of_eq rfl); (case c5 => decide); (case kB => exact locs rfl); (case c2 => exact rfl); (case c3 => exact rfl); (case c4 => exact rfl); k_whole)
  k_with "L:exec For Name Call cons nil" => (k_here; (rename Fr _ _ _ _ => lF'); (with_unfolding_all refine' For_invVF lF' ?k1 ?k2 ?_; (case k1 => exact rfl); (case k2 => exact rfl); k_whole))
  k_with "L:pyIter ref" => (k_here; k_extra "pyIter ref")
  k_with "L:RetOf" => (k_dflt (refine' retOf_mk ?rF ?rN ?_; (case rF => k_asm); (case rN => k_asm)); (try dsimp only))
  k_with "L:subscriptTail" => (k_here; (first | ((with_reducible show wpAny _ _ (subscriptTail _ _ (Value.ref _) (Value.int 0 _)) _ _ _); k_dflt (refine' rat_item0 ?hR ?hs ?F ?X ?N ?_ ?he; (case hR => assumption); (case F => k_asm); (case X => k_asm); (case N => k_asm); (case hs => kcf_all); (case he => with_unfolding_all rfl))) | ((with_reducible show wpAny _ _ (subscriptTail _ _ (Value.ref _) (Value.int 1 _)) _ _ _); k_dflt (refine' rat_item1 ?hR ?hs ?F ?X ?N ?_ ?he; (case hR => assumption); (case F => k_asm); (case X => k_asm); (case N => k_asm); (case hs => kcf_all); (case he => with_unfolding_all rfl)))); intro t9; (try dsimp only))
  k_with "L:subscriptTail" => (k_here; (with_reducible show wpAny _ _ (subscriptTail _ _ (Value.ref _) (Value.int _ _)) _ _ _); k_dflt (refine' ser_item ?hR ?hs ?F ?N ?h0 ?hk ?hl ?_ ?he; (case hR => assumption); (case F => k_asm); (case N => k_asm); (case hs => kcf_all); (case h0 => omega); (case hk => omega); (case hl => omega); (case he => with_unfolding_all rfl)); intro b9 hb9; (try dsimp only))
  k_with "L:call builtin:len" => (k_here; (with_reducible show wpAny _ _ (call (Value.builtin "len") [Value.ref _]) _ _ _); k_dflt (refine' ser_len ?hR ?hs ?F ?N ?hl ?_; (case hR => assumption); (case F => k_asm); (case N => k_asm); (case hs => kcf_all); (case hl => omega)); (try dsimp only))
  k_with "L:compareOp NotEq ref ref" => (k_here; (with_reducible show wpAny _ _ (compareOp CmpOp.NotEq (Value.ref _) (Value.ref _)) _ _ _); k_dflt (refine' rat_ne ?hR ?hs ?hR2 ?hs2 ?F ?X ?N ?hu ?_; (case hR => first | assumption | exact RatAt.zero (led := []) | exact RatAt.one (led := [])); (case hR2 => first | assumption | exact RatAt.zero (led := []) | exact RatAt.one (led := [])); (case F => k_asm); (case X => k_asm); (case N => k_asm); (case hs => kcf_all); (case hs2 => kcf_all); (case hu => ktr_units)); (try dsimp only))
  k_with "L:subscriptTail" => (k_here; (with_reducible show wpAny _ _ (subscriptTail _ _ (Value.ref _) (Value.int _ _)) _ _ _); k_dflt (refine' ov_item ?hR ?hs ?F ?N ?h0 ?hk ?hl ?_ ?he; (case hR => assumption); (case F => k_asm); (case N => k_asm); (case hs => kcf_all); (case h0 => omega); (case hk => omega); (case hl => omega); (case he => with_unfolding_all rfl)); intro b9 hb9; (try dsimp only))
  k_with "L:call builtin:len" => (k_here; (with_reducible show wpAny _ _ (call (Value.builtin "len") [Value.ref _]) _ _ _); k_dflt (refine' ov_len ?hR ?hs ?F ?N ?hl ?_; (case hR => assumption); (case F => k_asm); (case N => k_asm); (case hs => kcf_all); (case hl => omega)); (try dsimp only))
  k_with "L:InvEndG" => (k_here; k_extra "InvEndG")
  k_with "L:compareOp NotEq ref ref" => (k_here; k_extra "compareOp NotEq ref ref")
  k_with "L:subscriptTail" => (k_here; (with_reducible show wpAny _ _ (subscriptTail _ _ (Value.ref _) (Value.int _ _)) _ _ _); k_dflt (refine' ints_item ?N ?hm ?hs ?hi ?h0 ?hk ?hl ?_ ?he; (case N => k_asm); (case hm => assumption); (case hs => kcf_all); (case hi => assumption); (case h0 => omega); (case hk => omega); (case hl => omega); (case he => with_unfolding_all rfl)); intro t9; (try dsimp only))
  k_with "L:subscriptTail" => (k_here; (with_reducible show wpAny _ _ (subscriptTail _ _ (Value.ref _) (Value.int _ _)) _ _ _); k_dflt (refine' ders_item ?N ?hm ?hs ?hD ?hp ?h0 ?hk ?hl ?_ ?he; (case N => k_asm); (case hm => assumption); (case hs => kcf_all); (case hD => assumption); (case hp => assumption); (case h0 => omega); (case hk => omega); (case hl => omega); (case he => with_unfolding_all rfl)); intro b9 hb9; rw [derN_ov] at hb9; (try dsimp only))
  k_with "L:execs cons Assign cons" => (k_here; k_extra "stop")
  k_with "L:execs cons For cons" => (k_here; k_extra "stop")
  k_with "L:execs cons If cons" => (k_here; k_extra "stop")
  k_with "L:call ref" => (k_here; (with_reducible show wpAny _ _ (call (Value.ref 99) _) _ _ _); k_dflt (refine' cutn_use ?p0 ?p1 ?p2 ?k1 ?k2 ?k3 ?k4 ?k5 ?kK ?kd ?ku ?_; (case k1 => k_asm); (case k2 => k_asm); (case k3 => k_asm); (case k4 => k_asm); (case k5 => k_asm); (case kK => first | exact rfl | assumption); (case p0 => exact News.get (by assumption) (by k_mem)); (case p1 => omega); (case p2 => omega); (case kd => ktr_room); (case ku => ktr_units); k_whole); intro r9 tl9 h9 tk9 F9 N9 hA9 hO9; (obtain ⟨b8, e8⟩ := SerOut.ref hO9; subst e8; have hR9 := SerOut.at hO9 F9); (try dsimp only); (try k_fold))
  k_with "L:call ref" => (k_here; (with_reducible show wpAny _ _ (call (Value.ref 116) _) _ _ _); k_dflt (refine' sscale_use ?p0 ?p1 ?p2 ?p3 ?p4 ?p5 ?p6 ?p7 ?k1 ?k2 ?k3 ?k4 ?k5 ?kK ?kd ?ku ?_; (case k1 => k_asm); (case k2 => k_asm); (case k3 => k_asm); (case k4 => k_asm); (case k5 => k_asm); (case kK => first | exact rfl | assumption); (case p0 => exact made_of (by assumption) (by k_mem)); (case p1 => kcf_all); (case p2 => assumption); (case p3 => kcf_all); (case p4 => first | omega | (simp only [derS_length, scaS_length, addS_length, derZ_length, smulS_length]; omega)); (case p5 => first | with_reducible assumption | exact ⟨by (try dsimp only); omega, by (try dsimp only); omega⟩ | solve_by_elim | (dsimp only; solve_by_elim)); (case p6 => omega); (case p7 => omega); (case kd => ktr_room); (case ku => ktr_units); k_whole); intro r9 tl9 h9 tk9 F9 N9 hA9 hO9; (obtain ⟨b8, e8⟩ := SerOut.ref hO9; subst e8; have hR9 := SerOut.at hO9 F9); (try dsimp only); (try k_fold))
  k_with "L:call ref" => (k_here; (with_reducible show wpAny _ _ (call (Value.ref 111) _) _ _ _); k_dflt (refine' sadd_use ?p0 ?p1 ?p2 ?p3 ?p4 ?p5 ?p6 ?p7 ?k1 ?k2 ?k3 ?k4 ?k5 ?kK ?kd ?ku ?_; (case k1 => k_asm); (case k2 => k_asm); (case k3 => k_asm); (case k4 => k_asm); (case k5 => k_asm); (case kK => first | exact rfl | assumption); (case p0 => assumption); (case p1 => kcf_all); (case p2 => assumption); (case p3 => kcf_all); (case p4 => first | omega | (simp only [derS_length, scaS_length, addS_length, derZ_length, smulS_length]; omega)); (case p5 => first | omega | (simp only [derS_length, scaS_length, addS_length, derZ_length, smulS_length]; omega)); (case p6 => omega); (case p7 => omega); (case kd => ktr_room); (case ku => ktr_units); k_whole); intro r9 tl9 h9 tk9 F9 N9 hA9 hO9; (obtain ⟨b8, e8⟩ := SerOut.ref hO9; subst e8; have hR9 := SerOut.at hO9 F9); (try dsimp only); (try k_fold))
  k_with "L:call ref" => (k_here; (with_reducible show wpAny _ _ (call (Value.ref 128) _) _ _ _); k_dflt (refine' smul_use ?p0 ?p1 ?p2 ?p3 ?p4 ?p5 ?p6 ?p7 ?p8 ?p9 ?p10 ?k1 ?k2 ?k3 ?k4 ?k5 ?kK ?kd ?ku ?_; (case k1 => k_asm); (case k2 => k_asm); (case k3 => k_asm); (case k4 => k_asm); (case k5 => k_asm); (case kK => first | exact rfl | assumption); (case p0 => assumption); (case p1 => kcf_all); (case p2 => assumption); (case p3 => kcf_all); (case p4 => first | omega | (simp only [derS_length, scaS_length, addS_length, derZ_length, smulS_length]; omega)); (case p5 => first | omega | (simp only [derS_length, scaS_length, addS_length, derZ_length, smulS_length]; omega)); (case p6 => omega); (case p7 => omega); (case p8 => omega); (case p9 => first | assumption | solve_by_elim); (case p10 => first | assumption | solve_by_elim); (case kd => ktr_room); (case ku => ktr_units); k_whole); intro r9 tl9 h9 tk9 F9 N9 hA9 hO9; ((try rw [show (1 : Int) * 1 = 1 from rfl] at hO9); obtain ⟨b8, e8⟩ := SerOut.ref hO9; subst e8; have hR9 := SerOut.at hO9 F9); (try dsimp only); (try k_fold))
  revert X; k_fill; intro X
  unfold lawBody lawScope lawDef PySem.Challenge.pw_tk0030_01 at *
  dsimp only [lastOf, bodyOf, scopeOf, List.drop] at *
  have hpa := ha.at F
  have hpb := hb.at F
  have hpd := hd.at F
  (try k_fold)
  k_with "pyIter ref" => ((rename Fr _ _ _ _ => lF'); (rename News _ _ _ _ => lN'); k_dflt (refine' range_two (y := Str.ofString "total") (z := Str.ofString "choices") (fun i => ov 1 (totS n one other (sz - n).toNat i)) (fun i => binS n i) ?r1 ?r2 ?r3 ?r4 lF' lN' ?r5 ?r7 ?r8 ?r6 (fun i₁ t₁ v₁ tv₁ tl₁ h₁ tk₁ own₁ hi₁ hoff₁ hA₁ hO₁ F' N' => ?cturn) (fun v₁ tv₁ u₁ tl₁ h₁ tk₁ hA₁ hO₁ F' N' => ?cdone); (case r1 => rfl); (case r2 => assumption); (case r3 => exact small_one (by omega) (by omega) (by omega) (by omega)); (case r4 => exact rangeSize_nat _ _); (case r5 => rfl); (case r7 => rfl); (case r8 => rfl); (case r6 => exact SerOut.mono (by assumption) (by kcf_all))); (all_goals (try clear lF' lN')); (all_goals have hR₁ := SerOut.at hO₁ F'); k_dflt (case' cturn => (have hn₃ : n ≤ 3 := n2.out; have hi₂ : (i₁ : Int) ≤ n := (by omega); have hB4 := hB1 (0 + (i₁ : Int)).toNat (by omega); have hB5 := hB2 (0 + (i₁ : Int)).toNat (n - (0 + (i₁ : Int))).toNat (by omega) (by omega); have hB6 := hB3 i₁ (by omega); have hT₁ := totS_length n one other (sz - n).toNat i₁)); (case' cdone => (rw [Int.sub_zero] at hR₁)); (all_goals (try k_fold)))
  k_with "InvEndG" => (k_dflt (refine' rt_end ?F ?N ?hv ?hz ?hO ?hA ?hoff ?hX ?hX' ?hn ?ht ?ho ?hm ?_; (case F => k_asm); (case N => k_asm); (case hv => exact rfl); (case hz => exact rfl); (case hO => assumption); (case hA => assumption); (case hoff => assumption); (case hX => kcf_all); (case hX' => kcf_all); (case hn => kcf_all); (case ht => kcf_all); (case ho => kcf_all); (case hm => (intro z h1 h2 h3; simp only [if_neg h1, if_neg h2, if_neg h3]))))
  k_with "stop" => ((with_reducible show wpAny _ _ (execs (Stmt.Assign _ _ { line := 117, col := _, endLine := _, endCol := _ } :: _) _) _ _ _); k_dflt (refine' cont _ _ _ ?F ?N; (case F => exact over_fr (by assumption) _ (all_cons rfl (all_cons rfl (all_cons rfl (all_cons rfl all_nil))))); (case N => exact kst_newsOf (by assumption) (by kcf_all))))
  k_with "compareOp NotEq ref ref" => (k_dflt (refine' ser_ne_false ?hR ?hs ?hR2 ?hs2 ?F ?X ?N ?hu hc4 ?_; (case F => k_asm); (case X => k_asm); (case N => k_asm); (case hR => assumption); (case hs => kcf_all); (case hR2 => exact hpd); (case hs2 => kcf_all); (case hu => ktr_units)); (try dsimp only))
  k_steps
  all_goals (first
    | exact ⟨rfl, rfl⟩
    | (exfalso; omega)
    | trace_state)

end
end Mine

namespace Mine
open PySem.Calls PySem.Spec
theorem due_off {cj fd D : Addr} {o₃ oj : Obj} {vs : List Value} {nn : Nat} {cst tl own led₀ : List (Addr × Obj)} (hoff : OwnOff own (((cj, oj) :: (fd, listOf vs.toArray nn) :: (cst ++ tl)).map (·.1))) (h1 : ∀ p ∈ (fd, listOf vs.toArray nn) :: (cst ++ tl), p.1 ≠ cj) (h2 : ∀ p ∈ cst ++ tl, p.1 ≠ fd) (hD : ∀ p ∈ led₀, p.1 < D) (hf : (fd, listOf vs.toArray nn) ∈ led₀) :
    ∀ p ∈ (cj, oj) :: (cst ++ (tl ++ [(D, o₃)]) ++ own), p.1 ≠ fd := by
  have hlt := hD _ hf
  intro p hp
  simp only [List.mem_cons, List.mem_append, List.not_mem_nil, or_false] at hp
  rcases hp with rfl | (h | h | rfl) | h
  · exact fun e => h1 _ (.head _) e.symm
  · exact h2 p (List.mem_append.mpr (.inl h))
  · exact h2 p (List.mem_append.mpr (.inr h))
  · exact Nat.ne_of_gt hlt
  · exact hoff p h fd (.tail _ (.head _))
section
variable {w : World} {mean : ExcName → Option Value} {mg mb : Str → Option Value} {fa : Addr} {cd : Value} {base h₀ : Heap} {L : Addr} {s : Shared} {E : Value → Shared → Prop} {Q : Flow → Shared → Prop} {u : Str → Option Value}
set_option maxHeartbeats 8000000 in
theorem phase4 {pa pb Ls Lo fd lone loth : Addr} {ts tn tc tl : Tok} {n sz c : Int} {one other : List Int} {w1 w2 : List Value} {k1 k2 nn₀ : Nat} {oj o2 o1 on : Obj} {vj : Option Value} {led : List (Addr × Obj)} (B : Below callerA base [] h₀) (X : (hd.heap_39 w.params).In h₀) (T : Top hd.view_39 (looseW hd.view_39 []) mean mg mb h₀)
    (F : Fr h₀ L s.heap (over u [(Str.ofString "due", .ref fd), (Str.ofString "a", .ref pa), (Str.ofString "b", .ref pb), (Str.ofString "size", .int sz ts), (Str.ofString "c", .int c tc), (Str.ofString "left", .int (sz - n) tl), (Str.ofString "slopes", .ref Ls), (Str.ofString "others", .ref Lo)]))
    (N : News h₀ L s.heap ((L + 1 + 1 + 1 + 1 + 1, oj) :: (fd, listOf ([] : List Value).toArray nn₀) :: (L + 1 + 1 + 1 + 1, o2) :: (L + 1 + 1 + 1, o1) :: (L + 1 + 1, on) :: led)) (hoj : oj.data = .cell vj) (hon : on.data = .cell (some (.int n tn))) (ho1 : o1.data = .cell (some (.ref lone))) (ho2 : o2.data = .cell (some (.ref loth)))
    (hm1 : (lone, listOf w1.toArray k1) ∈ led) (hi1 : IntsAre w1 one) (hm2 : (loth, listOf w2.toArray k2) ∈ led) (hi2 : IntsAre w2 other)
    (hne : ∀ p ∈ led, p.1 ≠ L + 1 + 1 + 1 + 1 + 1) (hfj : fd ≠ L + 1 + 1 + 1 + 1 + 1) (hfd : ∀ p ∈ (L + 1 + 1 + 1 + 1, o2) :: (L + 1 + 1 + 1, o1) :: (L + 1 + 1, on) :: led, p.1 ≠ fd)
    (hlen : (one.length : Int) = sz) (hlen₂ : (other.length : Int) = sz) (hsz : sz ≤ 90) (hsz0 : 5 ≤ sz) (n0 : 1 ≤ n) (n1 : n ≤ 50) (n2 : Hide (n ≤ 3)) (hns : n + 2 ≤ sz)
    (ha : SerOut led (.ref pa) (ov 1 one)) (hb : SerOut led (.ref pb) (ov 1 other))
    (hMul : ∀ i j, IntMulOk (one.getD i 0) (other.getD j 0)) (hB1 : ∀ i, Bd (one.getD i 0)) (hB2 : ∀ k m, Bd (conv one other k m))
    (hok : ∀ j : Nat, (j : Int) < n → DerOk (derN (ov 1 (smulS one other)) j))
    (hc5 : (derN (ov 1 (smulS one other)) n.toNat).map red = (ov 1 ((List.range (sz - n - 0).toNat).map (dueF n one other))).map red)
    (hE : PassesOwn (model PySem.Challenge.rw_tk0030_01.row.prog w) (callerA.deeper (envOfC (Str.ofString "law") lawScope L fa cd)) (envOfC (Str.ofString "law") lawScope L fa cd) E)
    (cont : ∀ u' h tk led', (∀ p ∈ led, p ∈ led') → SerOut led' (.ref fd) (ov 1 ((List.range (sz - n - 0).toNat).map (dueF n one other))) → Fr h₀ L h (over u' [(Str.ofString "a", .ref pa), (Str.ofString "size", .int sz ts), (Str.ofString "c", .int c tc), (Str.ofString "left", .int (sz - n) tl), (Str.ofString "slopes", .ref Ls), (Str.ofString "others", .ref Lo), (Str.ofString "due", .ref fd)]) → News h₀ L h ((L + 1 + 1 + 1, o1) :: (L + 1 + 1, on) :: led') →
      wpAny (model PySem.Challenge.rw_tk0030_01.row.prog w) (callerA.deeper (envOfC (Str.ofString "law") lawScope L fa cd)) (execs (lawBody.drop 9) (envOfC (Str.ofString "law") lawScope L fa cd)) Q E { s with heap := h, toks := tk }) : wpAny (model PySem.Challenge.rw_tk0030_01.row.prog w) (callerA.deeper (envOfC (Str.ofString "law") lawScope L fa cd)) (execs (lawBody.drop 7) (envOfC (Str.ofString "law") lawScope L fa cd)) Q E s := by
  k_with_none
  w_top off
  k_with "L:ktn_open" => ((case kA => exact rfl); (case kF => exact rfl); (case kK => first | exact rfl | assumption); (case k1 => k_asm); (case k2 => k_asm); (case k3 => k_asm); (case k4 => k_asm); (case k5 => k_asm); (case k6 => k_is); (case k7 => k_is); (case k8 => ktr_room); (case k9 => exact BindsTo.of_eq rfl); (case c5 => decide); (case kB => exact locs rfl); (case c2 => exact rfl); (case c3 => exact rfl); (case c4 => exact rfl); k_whole)
  k_with "L:exec For Name Call cons nil" => (k_here; (rename Fr _ _ _ _ => lF'); (with_unfolding_all refine' For_invVF lF' ?k1 ?k2 ?_; (case k1 => exact rfl); (case k2 => exact rfl); k_whole))
  k_with "L:pyIter ref" => (k_here; k_extra "pyIter ref")
  k_with "L:RetOf" => (k_dflt (refine' retOf_mk ?rF ?rN ?_; (case rF => k_asm); (case rN => k_asm)); (try dsimp only))
  k_with "L:subscriptTail" => (k_here; (first | ((with_reducible show wpAny _ _ (subscriptTail _ _ (Value.ref _) (Value.int 0 _)) _ _ _); k_dflt (refine' rat_item0 ?hR ?hs ?F ?X ?N ?_ ?he; (case hR => assumption); (case F => k_asm); (case X => k_asm); (case N => k_asm); (case hs => kcf_all); (case he => with_unfolding_all rfl))) | ((with_reducible show wpAny _ _ (subscriptTail _ _ (Value.ref _) (Value.int 1 _)) _ _ _); k_dflt (refine' rat_item1 ?hR ?hs ?F ?X ?N ?_ ?he; (case hR => assumption); (case F => k_asm); (case X => k_asm); (case N => k_asm); (case hs => kcf_all); (case he => with_unfolding_all rfl)))); intro t9; (try dsimp only))
  k_with "L:subscriptTail" => (k_here; (with_reducible show wpAny _ _ (subscriptTail _ _ (Value.ref _) (Value.int _ _)) _ _ _); k_dflt (refine' ser_item ?hR ?hs ?F ?N ?h0 ?hk ?hl ?_ ?he; (case hR => assumption); (case F => k_asm); (case N => k_asm); (case hs => kcf_all); (case h0 => omega); (case hk => omega); (case hl => omega); (case he => with_unfolding_all rfl)); intro b9 hb9; (try dsimp only))
  k_with "L:call builtin:len" => (k_here; (with_reducible show wpAny _ _ (call (Value.builtin "len") [Value.ref _]) _ _ _); k_dflt (refine' ser_len ?hR ?hs ?F ?N ?hl ?_; (case hR => assumption); (case F => k_asm); (case N => k_asm); (case hs => kcf_all); (case hl => omega)); (try dsimp only))
  k_with "L:compareOp NotEq ref ref" => (k_here; (with_reducible show wpAny _ _ (compareOp CmpOp.NotEq (Value.ref _) (Value.ref _)) _ _ _); k_dflt (refine' rat_ne ?hR ?hs ?hR2 ?hs2 ?F ?X ?N ?hu ?_; (case hR => first | assumption | exact RatAt.zero (led := []) | exact RatAt.one (led := [])); (case hR2 => first | assumption | exact RatAt.zero (led := []) | exact RatAt.one (led := [])); (case F => k_asm); (case X => k_asm); (case N => k_asm); (case hs => kcf_all); (case hs2 => kcf_all); (case hu => ktr_units)); (try dsimp only))
  k_with "L:subscriptTail" => (k_here; (with_reducible show wpAny _ _ (subscriptTail _ _ (Value.ref _) (Value.int _ _)) _ _ _); k_dflt (refine' ov_item ?hR ?hs ?F ?N ?h0 ?hk ?hl ?_ ?he; (case hR => assumption); (case F => k_asm); (case N => k_asm); (case hs => kcf_all); (case h0 => omega); (case hk => omega); (case hl => omega); (case he => with_unfolding_all rfl)); intro b9 hb9; (try dsimp only))
  k_with "L:call builtin:len" => (k_here; (with_reducible show wpAny _ _ (call (Value.builtin "len") [Value.ref _]) _ _ _); k_dflt (refine' ov_len ?hR ?hs ?F ?N ?hl ?_; (case hR => assumption); (case F => k_asm); (case N => k_asm); (case hs => kcf_all); (case hl => omega)); (try dsimp only))
  k_with "L:ktr_unf" => ((case kA => exact rfl); (case kF => exact rfl); (case kK => first | exact rfl | assumption); (case k1 => k_asm); (case k2 => k_asm); (case k3 => k_asm); (case k4 => k_asm); (case k5 => k_asm); (case k6 => k_is); (case k7 => k_is); (case k8 => ktr_room); (case k9 => exact BindsTo.of_eq rfl); (case kB => exact rfl); (case kD => decide +kernel); (case c2 => exact rfl); (case c3 => exact rfl); (case c4 => exact rfl); k_whole)
  k_with "L:CompSrc" => (k_here; k_extra "CompSrc")
  k_with "L:eval ListComp" => (k_here; k_dflt (refine LCg.ListComp_U (F₀ := by k_asm) (by with_unfolding_all rfl) (by decide) (by rfl) (by decide) (by rfl) ?_))
  k_with "L:CompOut" => (k_dflt (refine' compOut_mk ?F ?N ?hO ?hA ?hs ?hn ?ht ?_; (case F => k_asm); (case N => k_asm); (case hO => assumption); (case hA => assumption); (case hs => kcf_all); (case hn => kcf_all); (case ht => kcf_all)))
  k_with "L:exec For Name Call cons nil" => (k_here; k_dflt (refine' For_cellF ?k0 ?k1 ?k2 ?k3 ?_ ?k4 ?k5; (case k0 => k_asm); (case k1 => exact rfl); (case k2 => exact rfl); (case k3 => exact rfl); (case k4 => (intro _; exact rfl)); (case k5 => assumption); k_whole))
  k_with "L:CellLoop" => (k_here; k_extra "CellLoop")
  k_with "L:newTuple" => (k_here; k_extra "newTuple")
  k_with "L:call builtin:list.append" => (k_here; k_extra "call builtin:list.append")
  k_with "L:binaryOp Mult int int" => (k_here; k_extra "binaryOp Mult int int")
  k_with "L:IntOut" => (k_dflt (refine' intOut_mk ?F ?N ?hn ?_; (case F => k_asm); (case N => k_asm); (case hn => kcf_all)))
  k_with "L:call builtin:sum" => (k_here; (with_reducible show wpAny _ _ (call (Value.builtin "sum") [Value.ref _]) _ _ _); k_dflt (refine' PyProof.Rows.LSm.sum_ints ?F ?N ?hh ?hl ?hi ?_; (case F => k_asm); (case N => k_asm); (case hh => exact rfl); (case hl => exact News.isList (by k_asm) (by k_mem)); (case hi => assumption)); intro h' tk' t' F' N'; (try dsimp only))
  k_with "L:InvEndG" => (k_here; k_extra "InvEndG")
  k_with "L:compareOp NotEq ref ref" => (k_here; k_extra "compareOp NotEq ref ref")
  k_with "L:subscriptTail" => (k_here; (with_reducible show wpAny _ _ (subscriptTail _ _ (Value.ref _) (Value.int _ _)) _ _ _); k_dflt (refine' ints_item ?N ?hm ?hs ?hi ?h0 ?hk ?hl ?_ ?he; (case N => k_asm); (case hm => assumption); (case hs => kcf_all); (case hi => assumption); (case h0 => omega); (case hk => omega); (case hl => omega); (case he => with_unfolding_all rfl)); intro t9; (try dsimp only))
  k_with "L:subscriptTail" => (k_here; (with_reducible show wpAny _ _ (subscriptTail _ _ (Value.ref _) (Value.int _ _)) _ _ _); k_dflt (refine' ders_item ?N ?hm ?hs ?hD ?hp ?h0 ?hk ?hl ?_ ?he; (case N => k_asm); (case hm => assumption); (case hs => kcf_all); (case hD => assumption); (case hp => assumption); (case h0 => omega); (case hk => omega); (case hl => omega); (case he => with_unfolding_all rfl)); intro b9 hb9; (try dsimp only))
  k_with "L:execs cons Assign cons" => (k_here; k_extra "stop")
  k_with "L:execs cons For cons" => (k_here; k_extra "stop")
  k_with "L:execs cons If cons" => (k_here; k_extra "stop")
  k_with "L:call ref" => (k_here; (with_reducible show wpAny _ _ (call (Value.ref 173) _) _ _ _); k_dflt (refine' steps_use ?p0 ?p1 ?p2 ?p3 ?k1 ?k2 ?k3 ?k4 ?k5 ?kK ?kd ?ku ?_; (case k1 => k_asm); (case k2 => k_asm); (case k3 => k_asm); (case k4 => k_asm); (case k5 => k_asm); (case kK => first | exact rfl | assumption); (case p0 => omega); (case p1 => omega); (case p2 => omega); (case p3 => first | omega | exact Hide.out (by assumption)); (case kd => ktr_room); (case ku => ktr_units); k_whole); intro r9 tl9 h9 tk9 F9 N9 hA9 hO9; (obtain ⟨t9, e9, hp9, hq9⟩ := hO9; subst e9); (try dsimp only); (try k_fold))
  k_with "L:call ref" => (k_here; (with_reducible show wpAny _ _ (call (Value.ref 128) _) _ _ _); k_dflt (refine' smul_use ?p0 ?p1 ?p2 ?p3 ?p4 ?p5 ?p6 ?p7 ?p8 ?p9 ?p10 ?k1 ?k2 ?k3 ?k4 ?k5 ?kK ?kd ?ku ?_; (case k1 => k_asm); (case k2 => k_asm); (case k3 => k_asm); (case k4 => k_asm); (case k5 => k_asm); (case kK => first | exact rfl | assumption); (case p0 => assumption); (case p1 => kcf_all); (case p2 => assumption); (case p3 => kcf_all); (case p4 => first | omega | (simp only [derS_length, scaS_length, addS_length, derZ_length, smulS_length]; omega)); (case p5 => first | omega | (simp only [derS_length, scaS_length, addS_length, derZ_length, smulS_length]; omega)); (case p6 => omega); (case p7 => omega); (case p8 => omega); (case p9 => first | assumption | solve_by_elim); (case p10 => first | assumption | solve_by_elim); (case kd => ktr_room); (case ku => ktr_units); k_whole); intro r9 tl9 h9 tk9 F9 N9 hA9 hO9; ((try rw [show (1 : Int) * 1 = 1 from rfl] at hO9); obtain ⟨b8, e8⟩ := SerOut.ref hO9; subst e8; have hR9 := SerOut.at hO9 F9); (try dsimp only); (try k_fold))
  k_with "L:call ref" => (k_here; (with_reducible show wpAny _ _ (call (Value.ref 180) _) _ _ _); k_dflt (refine' derived_use ?p0 ?p1 ?p2 ?p3 ?p4 ?k1 ?k2 ?k3 ?k4 ?k5 ?kK ?kd ?ku ?_; (case k1 => k_asm); (case k2 => k_asm); (case k3 => k_asm); (case k4 => k_asm); (case k5 => k_asm); (case kK => first | exact rfl | assumption); (case p0 => assumption); (case p1 => kcf_all); (case p2 => omega); (case p3 => omega); (case p4 => assumption); (case kd => ktr_room); (case ku => ktr_units); k_whole); intro r9 tl9 h9 tk9 F9 N9 hA9 hO9; (obtain ⟨D9, vs9, nn9, e9, hm9, hd9⟩ := hO9; subst e9); (try dsimp only); (try k_fold))
  revert X; k_fill; intro X
  unfold lawBody lawScope lawDef PySem.Challenge.pw_tk0030_01 at *
  dsimp only [lastOf, bodyOf, scopeOf, List.drop] at *
  have hpa := ha.at F
  have hpb := hb.at F
  have hne' : ∀ p ∈ (L + 1 + 1 + 1 + 1, o2) :: (L + 1 + 1 + 1, o1) :: (L + 1 + 1, on) :: led, p.1 ≠ L + 1 + 1 + 1 + 1 + 1 := by
    intro p hp
    simp only [List.mem_cons] at hp
    rcases hp with h | h | h | h
    · subst h; exact Nat.ne_of_lt (Nat.lt_succ_self _)
    · subst h; exact Nat.ne_of_lt (Nat.lt_succ_of_lt (Nat.lt_succ_self _))
    · subst h; exact Nat.ne_of_lt (Nat.lt_succ_of_lt (Nat.lt_succ_of_lt (Nat.lt_succ_self _)))
    · exact hne p h
  (try k_fold)
  k_with "CellLoop" => ((rename Fr _ _ _ _ => lF'); (rename News _ _ _ _ => lN'); k_dflt (refine' due_loop (cst := (L + 1 + 1 + 1 + 1, o2) :: (L + 1 + 1 + 1, o1) :: (L + 1 + 1, on) :: led) (fd := fd) (g := dueF n one other) (ps := [(Str.ofString "due", .ref fd), (Str.ofString "a", .ref pa), (Str.ofString "b", .ref pb), (Str.ofString "size", .int sz ts), (Str.ofString "c", .int c tc), (Str.ofString "left", .int (sz - n) tl), (Str.ofString "slopes", .ref Ls), (Str.ofString "others", .ref Lo)]) ?r1 ?r2 ?r3 ?r4 lF' lN' ?r5 hoj hne' hfj hfd (fun i₁ t₁ oj₁ vs₁ nn₁ tl₁ u₁ h₁ tk₁ own₁ hi₁ hoff₁ hoj₁ hj₁ hf₁ hR₁ F' N' => ?cturn) (fun oj₁ vs₁ nn₁ tl₁ u₁ h₁ tk₁ hR₁ F' N' => ?cdone); (case r1 => rfl); (case r2 => assumption); (case r3 => exact small_one (by omega) (by omega) (by omega) (by omega)); (case r4 => exact rangeSize_nat _ _); (case r5 => exact all_cons rfl (all_cons rfl (all_cons rfl (all_cons rfl (all_cons rfl (all_cons rfl (all_cons rfl (all_cons rfl all_nil))))))))); (all_goals (try clear lF' lN')); (case' cturn => have hv₁ := hR₁.length; rw [ov_length, List.length_map, List.length_range] at hv₁); k_dflt (case' cdone => (have hS₁ : SerAt h₀ ((fd, listOf vs₁.toArray nn₁) :: tl₁) (.ref fd) (ov 1 ((List.range (sz - n - 0).toNat).map (dueF n one other))) := SerAt.made (.head _) (hR₁ _ _ fun _ h => .tail _ h))); (all_goals (try k_fold)))
  k_with "CompSrc" => (k_dflt (refine' LCg.CompSrc.range ?s1 ?s2 ?s3 ?s4 ?s5 ?s6 ?s7 ?_; (case s1 => rfl); (case s2 => k_asm); (case s3 => k_asm); (case s4 => assumption); (case s5 => exact small_one (by omega) (by omega) (by omega) (by omega)); (case s6 => exact rangeSize_nat _ _); (case s7 => (rw [PySem.sizeLine_eq]; omega))); intro g9; (k_dflt (refine' comp_ints (fun (a : Nat) => one.getD (0 + (a : Int)).toNat 0 * other.getD (n + (0 + (i₁ : Int)) - (0 + (a : Int))).toNat 0) (fun _ => True.intro) (fun i' v' I' oI' C' oC' D' m' ys' h' tk' E' hi' hP' hC' hx' F' N' => ?eturn) (fun ys' hO' => ?efin))); (case' eturn => (obtain ⟨t', hv'⟩ := hP'; subst hv')); (all_goals (try k_fold)))
  k_with "binaryOp Mult int int" => (refine mul_int ?_ (hMul _ _))
  k_with "newTuple" => (k_dflt (refine' newTuple_mine ?F ?N ?z ?_; (case F => k_asm); (case N => k_asm); (case z => exact Nat.le_of_ble_eq_true rfl)); intro D₃ h₃ l₃ F₃ N₃; (try dsimp only))
  k_with "call builtin:list.append" => (k_dflt (refine' append_mine (fa := fd) (K := (L + 1 + 1 + 1 + 1 + 1, oj₁) :: (((L + 1 + 1 + 1 + 1, o2) :: (L + 1 + 1 + 1, o1) :: (L + 1 + 1, on) :: led) ++ (tl₁ ++ [(D₃, _)]) ++ own₁)) ?F ?N ?hm ?hK ?hKn ?hl ?_; (case F => k_asm); (case N => exact N₃); (case hm => k_mem); (case hK => kcf_all); (case hKn => exact due_off hoff₁ hj₁ hf₁ l₃ (by k_mem)); (case hl => omega)); intro h₄ n₄ F₄ N₄; (try dsimp only))
  k_with "InvEndG" => (k_dflt (refine' due_end (D := D₃) ?F ?N l₃ hoff₁ hoj₁ hj₁ hf₁ hR₁ ?hl ?hn ?ho ?hps ?_; (case F => k_asm); (case N => k_asm); (case hl => kcf_all); (case hn => kcf_all); (case ho => kcf_all); (case hps => exact all_cons rfl (all_cons rfl (all_cons rfl (all_cons rfl (all_cons rfl (all_cons rfl (all_cons rfl (all_cons rfl all_nil)))))))))) 
  k_with "stop" => ((with_reducible show wpAny _ _ (execs (Stmt.Assign _ _ { line := 111, col := _, endLine := _, endCol := _ } :: _) _) _ _ _); k_dflt (refine' cont _ _ _ ((fd, listOf vs₁.toArray nn₁) :: (led ++ tl₁)) ?hs ?hS ?F ?N; (case hs => kcf_all); (case hS => exact SerOut.lst hR₁ (by kcf_all) (.head _)); (case F => exact over_fr (by assumption) _ (all_cons rfl (all_cons rfl (all_cons rfl (all_cons rfl (all_cons rfl (all_cons rfl (all_cons rfl all_nil)))))))); (case N => exact kst_newsOf (by assumption) (by kcf_all))))
  k_with "compareOp NotEq ref ref" => (k_dflt (refine' ser_ne_false ?hR ?hs ?hR2 ?hs2 ?F ?X ?N ?hu hc5 ?_; (case F => k_asm); (case X => k_asm); (case N => k_asm); (case hR => assumption); (case hs => kcf_all); (case hR2 => exact hS₁); (case hs2 => kcf_all); (case hu => ktr_units)); (try dsimp only))
  k_steps
  all_goals (first
    | exact rfl
    | (exfalso; omega)
    | trace_state)

end
end Mine

namespace Mine
open PySem.Calls PySem.Spec
theorem newList_mine {h₀ : Heap} {L : Addr} {m : Str → Option Value} {news : List (Addr × Obj)} {M : Model} {A : Around} {E : Value → Shared → Prop} {s : Shared} {vs : List Value} {Q : Value → Shared → Prop} (F : Fr h₀ L s.heap m) (N : News h₀ L s.heap news) (hsz : vs.length ≤ 100)
    (h : ∀ D h', (∀ p ∈ news, p.1 < D) → Fr h₀ L h' m → News h₀ L h' ((D, listOf vs.toArray 0) :: news) → Q (.ref D) { s with heap := h' }) : wpAny M A (newList vs) Q E s :=
  newList_N F N (fun h' F' N' => h _ h' (fun p hp => Heap.lt_size (N p hp).1) F' N') (by rw [sizeLine_eq]; omega)
theorem off_app {c : Addr} {o : Obj} {led t1 t2 X1 X2 : List (Addr × Obj)} (h : ∀ p ∈ led, p.1 ≠ c) (h1 : Apart X1 t1) (h2 : Apart X2 t2) (m1 : (c, o) ∈ X1) (m2 : (c, o) ∈ X2) : ∀ p ∈ led ++ t1 ++ t2, p.1 ≠ c := fun p hp => by
  simp only [List.mem_append] at hp
  rcases hp with (hp | hp) | hp
  · exact h p hp
  · exact fun e => h1 _ m1 p hp e.symm
  · exact fun e => h2 _ m2 p hp e.symm
theorem new_off {D : Addr} {X Y : List (Addr × Obj)} (h : ∀ p ∈ X, p.1 < D) (hs : ∀ p ∈ Y, p ∈ X) : ∀ p ∈ Y, p.1 ≠ D := fun p hp => Nat.ne_of_lt (h p (hs p hp))
section
variable {w : World} {mean : ExcName → Option Value} {mg mb : Str → Option Value} {fa : Addr} {cd : Value} {base h₀ : Heap} {L : Addr} {s : Shared} {E : Value → Shared → Prop} {Q : Flow → Shared → Prop} {u : Str → Option Value}
set_option maxHeartbeats 8000000 in
theorem phase3 {pa pb : Addr} {ts tn tc : Tok} {n sz c : Int} {one other : List Int} {oj o2 o1 on : Obj} {led : List (Addr × Obj)} (B : Below callerA base [] h₀) (X : (hd.heap_39 w.params).In h₀) (T : Top hd.view_39 (looseW hd.view_39 []) mean mg mb h₀)
    (F : Fr h₀ L s.heap (over u [(Str.ofString "a", .ref pa), (Str.ofString "b", .ref pb), (Str.ofString "size", .int sz ts), (Str.ofString "c", .int c tc)]))
    (N : News h₀ L s.heap ((L + 1 + 1 + 1 + 1 + 1, oj) :: (L + 1 + 1 + 1 + 1, o2) :: (L + 1 + 1 + 1, o1) :: (L + 1 + 1, on) :: led)) (hon : on.data = .cell (some (.int n tn)))
    (hne : ∀ p ∈ led, p.1 ≠ L + 1 + 1 + 1 + 1 + 1) (n0 : 1 ≤ n) (n1 : n ≤ 50)
    (ha : SerOut led (.ref pa) (ov 1 one)) (hb : SerOut led (.ref pb) (ov 1 other))
    (hokA : ∀ j : Nat, (j : Int) < n → DerOk (derN (ov 1 one) j)) (hokB : ∀ j : Nat, (j : Int) < n → DerOk (derN (ov 1 other) j))
    (hE : PassesOwn (model PySem.Challenge.rw_tk0030_01.row.prog w) (callerA.deeper (envOfC (Str.ofString "law") lawScope L fa cd)) (envOfC (Str.ofString "law") lawScope L fa cd) E)
    (cont : ∀ u' h tk led' fd Ls Lo vs vs₂ nn nn₂ nn₀ tl, (∀ p ∈ led, p ∈ led') → (∀ p ∈ led', p.1 ≠ L + 1 + 1 + 1 + 1 + 1) → fd ≠ L + 1 + 1 + 1 + 1 + 1 → (∀ p ∈ (L + 1 + 1 + 1 + 1, o2) :: (L + 1 + 1 + 1, o1) :: (L + 1 + 1, on) :: led', p.1 ≠ fd) →
      (Ls, listOf vs.toArray nn) ∈ led' → Ders led' pa (ov 1 one) n.toNat vs → (Lo, listOf vs₂.toArray nn₂) ∈ led' → Ders led' pb (ov 1 other) n.toNat vs₂ →
      Fr h₀ L h (over u' [(Str.ofString "due", .ref fd), (Str.ofString "a", .ref pa), (Str.ofString "b", .ref pb), (Str.ofString "size", .int sz ts), (Str.ofString "c", .int c tc), (Str.ofString "left", .int (sz - n) tl), (Str.ofString "slopes", .ref Ls), (Str.ofString "others", .ref Lo)]) → News h₀ L h ((L + 1 + 1 + 1 + 1 + 1, oj) :: (fd, listOf ([] : List Value).toArray nn₀) :: (L + 1 + 1 + 1 + 1, o2) :: (L + 1 + 1 + 1, o1) :: (L + 1 + 1, on) :: led') →
      wpAny (model PySem.Challenge.rw_tk0030_01.row.prog w) (callerA.deeper (envOfC (Str.ofString "law") lawScope L fa cd)) (execs (lawBody.drop 7) (envOfC (Str.ofString "law") lawScope L fa cd)) Q E { s with heap := h, toks := tk }) : wpAny (model PySem.Challenge.rw_tk0030_01.row.prog w) (callerA.deeper (envOfC (Str.ofString "law") lawScope L fa cd)) (execs (lawBody.drop 5) (envOfC (Str.ofString "law") lawScope L fa cd)) Q E s := by
  k_with_none
  w_top off
  k_with "L:ktn_open" => ((case kA => exact rfl); (case kF => exact rfl); (case kK => first | exact rfl | assumption); (case k1 => k_asm); (case k2 => k_asm); (case k3 => k_asm); (case k4 => k_asm); (case k5 => k_asm); (case k6 => k_is); (case k7 => k_is); (case k8 => ktr_room); (case k9 => exact BindsTo.of_eq rfl); (case c5 => decide); (case kB => exact locs rfl); (case c2 => exact rfl); (case c3 => exact rfl); (case c4 => exact rfl); k_whole)
  k_with "L:exec For Name Call cons nil" => (k_here; (rename Fr _ _ _ _ => lF'); (with_unfolding_all refine' For_invVF lF' ?k1 ?k2 ?_; (case k1 => exact rfl); (case k2 => exact rfl); k_whole))
  k_with "L:pyIter ref" => (k_here; k_extra "pyIter ref")
  k_with "L:RetOf" => (k_dflt (refine' retOf_mk ?rF ?rN ?_; (case rF => k_asm); (case rN => k_asm)); (try dsimp only))
  k_with "L:subscriptTail" => (k_here; (first | ((with_reducible show wpAny _ _ (subscriptTail _ _ (Value.ref _) (Value.int 0 _)) _ _ _); k_dflt (refine' rat_item0 ?hR ?hs ?F ?X ?N ?_ ?he; (case hR => assumption); (case F => k_asm); (case X => k_asm); (case N => k_asm); (case hs => kcf_all); (case he => with_unfolding_all rfl))) | ((with_reducible show wpAny _ _ (subscriptTail _ _ (Value.ref _) (Value.int 1 _)) _ _ _); k_dflt (refine' rat_item1 ?hR ?hs ?F ?X ?N ?_ ?he; (case hR => assumption); (case F => k_asm); (case X => k_asm); (case N => k_asm); (case hs => kcf_all); (case he => with_unfolding_all rfl)))); intro t9; (try dsimp only))
  k_with "L:execs cons Assign cons" => (k_here; k_extra "stop")
  k_with "L:execs cons For cons" => (k_here; k_extra "stop")
  k_with "L:execs cons If cons" => (k_here; k_extra "stop")
  k_with "L:call ref" => (k_here; k_extra "call ref")
  k_with "L:newList" => (k_here; k_extra "newList")
  revert X; k_fill; intro X
  unfold lawBody lawScope lawDef PySem.Challenge.pw_tk0030_01 at *
  dsimp only [lastOf, bodyOf, scopeOf, List.drop] at *
  have hpa := ha.at F
  have hpb := hb.at F
  (try k_fold)
  k_with "call ref" => ((with_reducible show wpAny _ _ (call (Value.ref 180) [Value.ref _, _]) _ _ _); k_dflt (refine' derived_use (pa := pb) ?p0 ?p1 ?p2 ?p3 ?p4 ?k1 ?k2 ?k3 ?k4 ?k5 ?kK ?kd ?ku ?_; (case k1 => k_asm); (case k2 => k_asm); (case k3 => k_asm); (case k4 => k_asm); (case k5 => k_asm); (case kK => exact rfl); (case p0 => assumption); (case p1 => kcf_all); (case p2 => omega); (case p3 => omega); (case p4 => assumption); (case kd => ktr_room); (case ku => ktr_units); k_whole); intro r₂ tl₂ h₂ tk₂ F₂ N₂ hA₂ hO₂; obtain ⟨D₂, vs₂, nn₂, e₂, hm₂, hd₂⟩ := hO₂; subst e₂; (try dsimp only); (try k_fold))
  k_with "call ref" => ((with_reducible show wpAny _ _ (call (Value.ref 180) [Value.ref _, _]) _ _ _); k_dflt (refine' derived_use (pa := pa) ?p0 ?p1 ?p2 ?p3 ?p4 ?k1 ?k2 ?k3 ?k4 ?k5 ?kK ?kd ?ku ?_; (case k1 => k_asm); (case k2 => k_asm); (case k3 => k_asm); (case k4 => k_asm); (case k5 => k_asm); (case kK => exact rfl); (case p0 => assumption); (case p1 => kcf_all); (case p2 => omega); (case p3 => omega); (case p4 => assumption); (case kd => ktr_room); (case ku => ktr_units); k_whole); intro r₁ tl₁ h₁ tk₁ F₁ N₁ hA₁ hO₁; obtain ⟨D₁, vs₁, nn₁, e₁, hm₁, hd₁⟩ := hO₁; subst e₁; (try dsimp only); (try k_fold))
  k_with "newList" => (k_dflt (refine' newList_mine ?F ?N ?z ?_; (case F => k_asm); (case N => k_asm); (case z => exact Nat.le_of_ble_eq_true rfl)); intro D₃ h₃ l₃ F₃ N₃; (try dsimp only))
  k_with "stop" => ((with_reducible show wpAny _ _ (execs (Stmt.For _ _ _ _ { line := 106, col := _, endLine := _, endCol := _ } :: _) _) _ _ _); k_dflt (refine' cont _ _ _ (led ++ tl₁ ++ tl₂) D₃ D₁ D₂ vs₁ vs₂ nn₁ nn₂ 0 tk₂ ?hs ?h1 ?h2 ?h3 ?h4 ?h5 ?h6 ?h7 ?F ?N; (case hs => kcf_all); (case h1 => exact off_app hne hA₁ hA₂ (by k_mem) (by k_mem)); (case h2 => exact Nat.ne_of_gt (l₃ (L + 1 + 1 + 1 + 1 + 1, oj) (by k_mem))); (case h3 => exact new_off l₃ (by kcf_all)); (case h4 => exact List.mem_append.mpr (.inl (List.mem_append.mpr (.inr hm₁)))); (case h5 => exact hd₁.mono (by kcf_all)); (case h6 => exact List.mem_append.mpr (.inr hm₂)); (case h7 => exact hd₂.mono (by kcf_all)); (case F => exact over_fr (by assumption) _ (all_cons rfl (all_cons rfl (all_cons rfl (all_cons rfl (all_cons rfl (all_cons rfl (all_cons rfl (all_cons rfl all_nil))))))))); (case N => exact kst_newsOf (by assumption) (by kcf_all))))
  k_steps
  all_goals (first
    | exact rfl
    | (exfalso; omega)
    | trace_state)

end
end Mine

namespace Mine
open PySem.Calls PySem.Spec
section
variable {prog : Program} {w : World} {A A₀ : Around} {E : Value → Shared → Prop} {s : Shared} {K : Frag} {L Bx : Addr} {oB : Obj} {h₀ base : Heap} {m mg mb : Str → Option Value} {news : List (Addr × Obj)} {p : Program} {loose : List Str} {mean : ExcName → Option Value} {Q : Value → Shared → Prop}
theorem enterM {env : Env} {outer : List Env} {name qual : Str} {params : Arguments} {body : List Stmt} {scope : Scope} {dV kV doc pm cdv ct oc : Value} {an od : Option Addr} {osl : Array (Option Value)} {f : Addr} {vs : List Value} {binds : List (Str × Value)} (P : List (Addr × Obj) → Value → Prop)
    (B : Below A₀ base outer h₀) (F : Fr h₀ L s.heap m) (X₀ : K.In h₀) (N : News h₀ L s.heap news) (T : Top p loose mean mg mb h₀) (hB : (Bx, oB) ∈ news) (hA : A.frames = some (env :: outer)) (hf : env.frame = some L) (hke : env.scope.kind = .function)
    (ho : K.lookup f = some ⟨oc, od, .func (fnOf name qual params body scope dV kV doc pm an cdv ct), osl⟩) (hcd : codeIn K cdv qual = true) (hroom : A.depth < recursionLimit)
    (hbind : BindsTo s (fnOf name qual params body scope dV kV doc pm an cdv ct) ⟨vs, []⟩ binds) (hloc : ∀ y ∈ binds, scope.names.lookup y.1 = some .local)
    (hret : ∀ r tl h' tk', Fr h₀ L h' m → (∀ q ∈ news, q.1 ≠ Bx → h'.get? q.1 = some q.2 ∧ q.1 ≠ L ∧ h₀.get? q.1 = none) → News h₀ L h' tl → P tl r → Q r { s with heap := h', toks := tk' })
    (h : ∀ g L' h₁ tk, (∀ b o, b ≠ Bx → s.heap.get? b = some o → g.get? b = some o) → Fr g L' h₁ (fun y => binds.reverse.lookup y) → News g L' h₁ [(Bx, oB)] → Below A base (env :: outer) g → K.In g → Top p loose mean mg mb g →
      wpAny (model prog w) (A.deeper (envOf qual scope L' f cdv)) (execs body (envOf qual scope L' f cdv))
        (fun fl s' => RetOf g s P (match fl with | .ret v => v | _ => .none) s')
        (fun e s' => wpAny (model prog w) (A.deeper (envOf qual scope L' f cdv)) (leaving (envOf qual scope L' f cdv) e) (fun _ s'' => E e s'') (fun e' s'' => E e' s'') s')
        { s with heap := h₁, toks := tk })
    (hco : scope.isCoroutine = false) (hgen : scope.isGenerator = false) (hk : scope.kind = .function)
    (hcell : ∀ x ∈ scope.names, x.2 ≠ .cell) : wpAny (model prog w) A (call (.ref f) vs) Q E s := by
  refine wpAny_call (code_defG B F X₀ (news := [(Bx, oB)]) (fun q hq => by rw [List.mem_singleton.mp hq]; exact N _ hB) T hA hf hke ho hcd hroom hbind hloc (fun g L' h₁ FG F' N' B' X' T' kG => ?_) hco hgen hk hcell)
  have hg : ∀ b o, b ≠ Bx → s.heap.get? b = some o → g.get? b = some o := fun b o hb e => kG b o e (by simpa using hb)
  refine wpAny_mono (h g L' h₁ _ hg F' N' B' X' T') (fun fl s' hr => ?_) fun _ _ e => e
  obtain ⟨L'', m', tl, h', tk, rfl, F'', N'', hP⟩ := hr
  exact ⟨L'', m', tl, F'', N'', fun kF kN => hret _ tl h' tk kF (fun q hq hne => ⟨F''.keep _ _ (hg _ _ hne (N q hq).1), (N q hq).2⟩) kN hP⟩
end
theorem base_len' {prog : Program} {w : World} {A : Around} {E : Value → Shared → Prop} {s : Shared} {h₀ : Heap} {L : Addr} {m : Str → Option Value} {a : Addr} {vs : List Value} {ns : List Int} {Q : Value → Shared → Prop} (hL : h₀.IsList a vs.toArray) (hi : IntsAre vs ns) (F : Fr h₀ L s.heap m) (hl : ns.length ≤ 1000) (h : Q (.int (ns.length : Int) (s.toks + 1)) { s with toks := s.toks + 1 + 1 }) :
    wpAny (model prog w) A (call (.builtin "len") [.ref a]) Q E s := by
  have e := hi.length
  refine base_len hL F (by omega) ?_
  rw [e]; exact h
theorem base_item {prog : Program} {w : World} {A : Around} {E : Value → Shared → Prop} {s : Shared} {h₀ : Heap} {L : Addr} {m : Str → Option Value} {a : Addr} {ws : List Value} {ns : List Int} {Q : Value → Shared → Prop} {value slice : PySem.Expr} {u : Tok} {k : Int} (hL : h₀.IsList a ws.toArray) (hi : IntsAre ws ns) (F : Fr h₀ L s.heap m) (h0 : 0 ≤ k) (hk : k < ns.length) (hl : ns.length ≤ 1000) (h : ∀ t, Q (.int (ns.getD k.toNat 0) t) s)
    (he : subscripted slice false (.ref a) (.int k u) = operate [.ref a, .int k u] (getItem (.ref a) (.int k u))) :
    wpAny (model prog w) A (subscriptTail value slice (.ref a) (.int k u)) Q E s := by
  have hL' : s.heap.IsList a ws.toArray := hL.at fun o e => F.keep a o e
  have hlt : k.toNat < ns.length := by omega
  obtain ⟨t, hx⟩ := hi.get k.toNat (ns.getD k.toNat 0) (by simp [List.getD_eq_getElem?_getD, hlt])
  exact tail_any hL'.typeIs slot_list_getitem.lookup (wpAny_getItem_list hL' h0 (by omega) (by simpa using hx) (h t)) he
theorem fmod_in {a b : Int} (hb : 0 < b) : 0 ≤ a.fmod b ∧ a.fmod b < b := by
  refine ⟨?_, Int.fmod_lt_of_pos a hb⟩
  rw [Int.fmod_eq_emod_of_nonneg _ (by omega)]
  exact Int.emod_nonneg _ (by omega)
section
variable {w : World} {mean : ExcName → Option Value} {mg mb : Str → Option Value} {dp un : Nat} {gd : Option (List Code)} {cn : Str} {cs : Scope} {a : Addr} {ccd : Value} {cl : List (Str × Addr)} {outer : List Env} {A₀ : Around} {base h₀ : Heap} {L : Addr} {m : Str → Option Value} {news : List (Addr × Obj)} {s : Shared} {Q E : Value → Shared → Prop}
set_option maxHeartbeats 4000000 in
theorem take0_use {Bx S : Addr} {vs : List Value} {ns : List Int} {k M : Int} {t₀ u₀ : Tok} {nB nS : Nat} (hB : (Bx, listOf [.ref S, .int k t₀].toArray nB) ∈ news) (hS : (S, listOf vs.toArray nS) ∈ news) (hSB : S ≠ Bx) (hi : IntsAre vs ns) (hl : ns.length ≤ 100) (k0 : 0 ≤ k) (k1 : k ≤ 1000) (hM : 0 < M) (B : Below A₀ base outer h₀) (F : Fr h₀ L s.heap m) (X : (hd.heap_39 w.params).In h₀) (N : News h₀ L s.heap news) (T : Top hd.view_39 (looseW hd.view_39 []) mean mg mb h₀) (hk : cs.kind = .function)
    (hdp : dp + 1 < recursionLimit) (hun : un + 8 + 64 < cLine)
    (hret : ∀ r tl h' tk', Fr h₀ L h' m → (∀ q ∈ news, q.1 ≠ Bx → h'.get? q.1 = some q.2 ∧ q.1 ≠ L ∧ h₀.get? q.1 = none) → News h₀ L h' tl → (∃ v t t₁ n₁, r = .int v t ∧ 0 ≤ v ∧ v < M ∧ (Bx, listOf [.ref S, .int (k + 1) t₁].toArray n₁) ∈ tl) → Q r { s with heap := h', toks := tk' }) :
    wpAny (model PySem.Challenge.rw_tk0030_01.row.prog w) (ktrTop dp un gd cn cs L a ccd cl outer) (call (.ref 159) [.ref Bx, .int M u₀]) Q E s := by
  k_with_none
  w_top off
  k_with "L:ktn_open" => ((case kA => exact rfl); (case kF => exact rfl); (case kK => first | exact rfl | assumption); (case k1 => k_asm); (case k2 => k_asm); (case k3 => k_asm); (case k4 => k_asm); (case k5 => k_asm); (case k6 => k_is); (case k7 => k_is); (case k8 => ktr_room); (case k9 => exact BindsTo.of_eq rfl); (case c5 => decide); (case kB => exact locs rfl); (case c2 => exact rfl); (case c3 => exact rfl); (case c4 => exact rfl); k_whole)
  k_with "L:exec For Name Call cons nil" => (k_here; (rename Fr _ _ _ _ => lF'); (with_unfolding_all refine' For_invVF lF' ?k1 ?k2 ?_; (case k1 => exact rfl); (case k2 => exact rfl); k_whole))
  k_with "L:pyIter ref" => (k_here; k_extra "pyIter ref")
  k_with "L:RetOf" => (k_dflt (refine' retOf_mk ?rF ?rN ?_; (case rF => k_asm); (case rN => k_asm)); (try dsimp only))
  k_with "L:subscriptTail" => (k_here; (first | ((with_reducible show wpAny _ _ (subscriptTail _ _ (Value.ref _) (Value.int 0 _)) _ _ _); k_dflt (refine' rat_item0 ?hR ?hs ?F ?X ?N ?_ ?he; (case hR => assumption); (case F => k_asm); (case X => k_asm); (case N => k_asm); (case hs => kcf_all); (case he => with_unfolding_all rfl))) | ((with_reducible show wpAny _ _ (subscriptTail _ _ (Value.ref _) (Value.int 1 _)) _ _ _); k_dflt (refine' rat_item1 ?hR ?hs ?F ?X ?N ?_ ?he; (case hR => assumption); (case F => k_asm); (case X => k_asm); (case N => k_asm); (case hs => kcf_all); (case he => with_unfolding_all rfl)))); intro t9; (try dsimp only))
  k_with "L:call builtin:len" => (k_here; k_extra "call builtin:len")
  k_with "L:subscriptTail" => (k_here; k_extra "subscriptTail")
  revert X; k_fill; intro X
  k_dflt (refine' enterM (fun tl r => (∃ v t t₁ n₁, r = .int v t ∧ 0 ≤ v ∧ v < M ∧ (Bx, listOf [.ref S, .int (k + 1) t₁].toArray n₁) ∈ tl)) ?k1 ?k2 ?k3 ?k4 ?k5 hB ?kA ?kF ?kK ?k6 ?k7 ?k8 ?k9 ?kB hret ?_ ?c2 ?c3 ?c4 ?c5; ktn_open)
  intro g' L' h' tk' hg' F' N' B' X' T'
  clear hret
  have hL : g'.IsList S vs.toArray := ⟨_, hg' _ _ hSB (N _ hS).1, rfl, _, rfl⟩
  (try dsimp only); (try k_fold)
  k_with "call builtin:len" => (k_dflt (refine' base_len' hL hi ?F ?l ?_; (case F => k_asm); (case l => omega)); (try dsimp only))
  k_with "subscriptTail" => ((with_reducible show wpAny _ _ (subscriptTail _ _ (Value.ref _) (Value.int (_ - _) _)) _ _ _); k_dflt (refine' base_item hL hi ?F ?h0 ?hk ?l ?_ ?he; (case F => k_asm); (case h0 => omega); (case hk => omega); (case l => omega); (case he => with_unfolding_all rfl)); intro t9; (try dsimp only))
  k_steps
  all_goals (first
    | exact ⟨_, _, _, _, rfl, (fmod_in hM).1, (fmod_in hM).2, by k_mem⟩
    | trace_state)
end
end Mine

namespace Mine
open PySem.Calls PySem.Spec
section
variable {w : World} {mean : ExcName → Option Value} {mg mb : Str → Option Value} {dp un : Nat} {gd : Option (List Code)} {cn : Str} {cs : Scope} {a : Addr} {ccd : Value} {cl : List (Str × Addr)} {outer : List Env} {A₀ : Around} {base h₀ : Heap} {L : Addr} {m : Str → Option Value} {news K : List (Addr × Obj)} {s : Shared} {Q E : Value → Shared → Prop}
theorem take_use {Bx S : Addr} {vs : List Value} {ns : List Int} {k M : Int} {t₀ u₀ : Tok} {nB nS : Nat} (hS : (S, listOf vs.toArray nS) ∈ K) (hB : (Bx, listOf [.ref S, .int k t₀].toArray nB) ∈ news) (hK : ∀ q ∈ K, q ∈ news) (hne : ∀ q ∈ K, q.1 ≠ Bx) (hi : IntsAre vs ns) (hl : ns.length ≤ 100) (k0 : 0 ≤ k) (k1 : k ≤ 1000) (hM : 0 < M) (B : Below A₀ base outer h₀) (F : Fr h₀ L s.heap m) (X : (hd.heap_39 w.params).In h₀) (N : News h₀ L s.heap news) (T : Top hd.view_39 (looseW hd.view_39 []) mean mg mb h₀) (hk : cs.kind = .function)
    (hdp : dp + 1 < recursionLimit) (hun : un + 8 + 64 < cLine)
    (hret : ∀ v t t₁ n₁ h' tk', 0 ≤ v → v < M → Fr h₀ L h' m → News h₀ L h' ((Bx, listOf [.ref S, .int (k + 1) t₁].toArray n₁) :: K) → Q (.int v t) { s with heap := h', toks := tk' }) :
    wpAny (model PySem.Challenge.rw_tk0030_01.row.prog w) (ktrTop dp un gd cn cs L a ccd cl outer) (call (.ref 159) [.ref Bx, .int M u₀]) Q E s := by
  refine take0_use hB (hK _ hS) (hne _ hS) hi hl k0 k1 hM B F X N T hk hdp hun fun r tl h' tk' F' kq N' hr => ?_
  obtain ⟨v, t, t₁, n₁, rfl, v0, v1, hm⟩ := hr
  refine hret v t t₁ n₁ h' tk' v0 v1 F' fun q hq => ?_
  rcases List.mem_cons.mp hq with rfl | hq
  · exact N' _ hm
  · exact kq q (hK q hq) (hne q hq)
end
/-! a comprehension of what the box gives -/
def TakeOut (h₀ : Heap) (L : Addr) (m : Str → Option Value) (s₁ : Shared) (b3 K : List (Addr × Obj)) (Bx S : Addr) (k lo hi : Int) (y : Value) (s₂ : Shared) : Prop :=
  ∃ v t t₁ n₁ h' tk, y = .int v t ∧ lo ≤ v ∧ v < hi ∧ s₂ = { s₁ with heap := h', toks := tk } ∧ Fr h₀ L h' m ∧ News h₀ L h' (b3 ++ (Bx, listOf [.ref S, .int k t₁].toArray n₁) :: K)
section
variable {h₀ : Heap} {L : Addr} {m : Str → Option Value}
theorem takeOut_mk {s₁ : Shared} {b3 K all : List (Addr × Obj)} {Bx S : Addr} {k lo hi v k' : Int} {t t₁ : Tok} {n₁ : Nat} {h' : Heap} {tk : Nat} (F : Fr h₀ L h' m) (N : News h₀ L h' all) (hm : (Bx, listOf [.ref S, .int k' t₁].toArray n₁) ∈ all) (hk : k' = k) (h0 : lo ≤ v) (h1 : v < hi) (hn : ∀ r ∈ b3, r ∈ all) (hn₂ : ∀ r ∈ K, r ∈ all) :
    TakeOut h₀ L m s₁ b3 K Bx S k lo hi (.int v t) { s₁ with heap := h', toks := tk } := by
  subst hk
  refine ⟨v, t, t₁, n₁, h', tk, rfl, h0, h1, rfl, F, fun r hr => ?_⟩
  rcases List.mem_append.mp hr with hr | hr
  · exact N r (hn r hr)
  · rcases List.mem_cons.mp hr with rfl | hr
    · exact N _ hm
    · exact N r (hn₂ r hr)
variable {prog : Program} {w : World} {A : Around} {env : Env} {elt : Expr} {x : Str} {scope : Scope} {cl : List (Str × Addr)} {s : Shared} {S : List (Addr × Obj) → Prop} {P : Nat → Value → Prop} {Fin : List Value → List (Addr × Obj) → Prop} {news K : List (Addr × Obj)} {Bx Sx : Addr}
theorem comp_takes {n n₀ : Nat} {k₀ : Int} {t₀ : Tok} (lo hi : Int) (hK : ∀ q ∈ K, q.1 ≠ Bx) (hS : ∀ nw, S nw)
    (turn : ∀ (i : Nat) v I oI C oC D m₂ ys h tk t n₁ (E' : Value → Shared → Prop), i < n → P i v → LCg.NsObj oC m₂ → m₂ x = some v → Fr h₀ L h m → News h₀ L h ((I, oI) :: (C, oC) :: (D, LCg.lst ys) :: (Bx, listOf [.ref Sx, .int (k₀ + (i : Int)) t].toArray n₁) :: K) → (∀ q ∈ (I, oI) :: (C, oC) :: (D, LCg.lst ys) :: K, q.1 ≠ Bx) →
      wpAny (model prog w) A (eval elt (compEnvC scope cl C env)) (TakeOut h₀ L m { s with heap := h, toks := tk } [(I, oI), (C, oC), (D, LCg.lst ys)] K Bx Sx (k₀ + (i : Int) + 1) lo hi) E' { s with heap := h, toks := tk })
    (fin : ∀ ys ns t n₁, IntsAre ys ns → ns.length = n → (∀ z ∈ ns, lo ≤ z ∧ z < hi) → Fin ys ((Bx, listOf [.ref Sx, .int (k₀ + (n : Int)) t].toArray n₁) :: K)) : LCg.CompRest prog w A h₀ L m env elt x scope cl s S P Fin n 0 [] ((Bx, listOf [.ref Sx, .int k₀ t₀].toArray n₀) :: K) := by
  have key : ∀ (j i : Nat) (ys : List Value) (ns : List Int) (t : Tok) (n₁ : Nat), i + j = n → IntsAre ys ns → ns.length = i → (∀ z ∈ ns, lo ≤ z ∧ z < hi) → LCg.CompRest prog w A h₀ L m env elt x scope cl s S P Fin j i ys ((Bx, listOf [.ref Sx, .int (k₀ + (i : Int)) t].toArray n₁) :: K) := by
    intro j
    induction j with
    | zero =>
      intro i ys ns t n₁ hi' hy hl hb
      have e : i = n := by lia
      subst e
      exact LCg.CompRest.zero (fin ys ns t n₁ hy hl hb)
    | succ j ih =>
      intro i ys ns t n₁ hi' hy hl hb
      refine LCg.CompRest.succ ?_
      intro v I oI C oC D m₂ h tk E' hv hC hx F N off ne
      have hoff := off.mem
      have hb0 := hoff _ (.head _)
      have hall : ∀ q ∈ (I, oI) :: (C, oC) :: (D, LCg.lst ys) :: K, q.1 ≠ Bx := fun q hq => by
        rcases List.mem_cons.mp hq with rfl | hq
        · exact Ne.symm hb0.1
        · rcases List.mem_cons.mp hq with rfl | hq
          · exact Ne.symm hb0.2.1
          · rcases List.mem_cons.mp hq with rfl | hq
            · exact Ne.symm hb0.2.2
            · exact hK q hq
      refine wpAny_mono (turn i v I oI C oC D m₂ ys h tk t n₁ E' (by lia) hv hC hx F N hall) (fun y s₂ hq => ?_) fun _ _ e => e
      obtain ⟨v', t', t₁, n₂, h', tk', rfl, v0, v1, e, F', N'⟩ := hq
      refine ⟨h', tk', (Bx, listOf [.ref Sx, .int (k₀ + ((i + 1 : Nat) : Int)) t₁].toArray n₂) :: K, e, F', fun q hq => ?_, LCg.Off3.of fun q hq => ?_, hS _, ih (i + 1) (ys ++ [.int v' t']) (ns ++ [v']) t₁ n₂ (by lia) (hy.append (.cons v' t' .nil)) (by rw [List.length_append, hl]; rfl) ?_⟩
      · refine N' q ?_
        rw [show k₀ + (i : Int) + 1 = k₀ + ((i + 1 : Nat) : Int) by lia]
        exact hq
      · rcases List.mem_cons.mp hq with rfl | hq
        · exact hb0
        · exact hoff q (.tail _ hq)
      · intro z hz
        rcases List.mem_append.mp hz with hz | hz
        · exact hb z hz
        · rw [List.mem_singleton.mp hz]; exact ⟨v0, v1⟩
  have := key n 0 [] [] t₀ n₀ (by lia) .nil rfl (fun _ h => nomatch h)
  rwa [show k₀ + ((0 : Nat) : Int) = k₀ by lia] at this
/-! a comprehension of pairs over a list of ints -/
theorem compOut_tup {s₁ : Shared} {b3 X : List (Addr × Obj)} {p : Int × Int} {x : Int} {t u : Tok} {D : Addr} {h' : Heap} {tk : Nat} (F : Fr h₀ L h' m) (N : News h₀ L h' ((D, tupOf x 1 t u) :: X)) (l : ∀ q ∈ X, q.1 < D) (hs : ∀ r ∈ b3, r ∈ X) (hq : Leaf (p = (x, 1))) :
    CompOut h₀ L m s₁ b3 p (.ref D) { s₁ with heap := h', toks := tk } := by
  have hq' : p = (x, 1) := hq
  subst hq'
  refine ⟨h', tk, [(D, tupOf x 1 t u)], rfl, F, fun r hr => ?_, fun a ha b hb => ?_, fun g' led hs => ratAt_int (RatAt.made (hs _ (.head _)))⟩
  · rcases List.mem_append.mp hr with hr | hr
    · exact N r (.tail _ (hs r hr))
    · rw [List.mem_singleton.mp hr]; exact N _ (.head _)
  · rw [List.mem_singleton.mp hb]
    exact Nat.ne_of_lt (l a (hs a ha))
theorem ov_range (ns : List Int) : (List.range ns.length).map (fun i => (ns.getD i 0, (1 : Int))) = ov 1 ns := by
  rw [ov]
  apply List.ext_getElem
  · simp
  · intro i h1 h2
    simp at h1 h2
    simp [List.getD_eq_getElem?_getD, h1]
theorem comp_pairs {vs : List Value} {ns : List Int} (hv : IntsAre vs ns) (hS : ∀ tl, S (news ++ tl))
    (turn : ∀ (i : Nat) t I oI C oC D m₂ ys h tk tl (E' : Value → Shared → Prop), i < ns.length → LCg.NsObj oC m₂ → m₂ x = some (.int (ns.getD i 0) t) → Fr h₀ L h m → News h₀ L h ((I, oI) :: (C, oC) :: (D, LCg.lst ys) :: (news ++ tl)) →
      wpAny (model prog w) A (eval elt (compEnvC scope cl C env)) (CompOut h₀ L m { s with heap := h, toks := tk } ((I, oI) :: (C, oC) :: (D, LCg.lst ys) :: (news ++ tl)) (ns.getD i 0, 1)) E' { s with heap := h, toks := tk })
    (fin : ∀ ys tl, RatsOut tl ys (ov 1 ns) → Apart news tl → Fin ys (news ++ tl)) : LCg.CompRest prog w A h₀ L m env elt x scope cl s S (fun i v => vs.toArray[i]? = some v) Fin vs.toArray.size 0 [] news := by
  have hlen : vs.toArray.size = ns.length := by rw [List.size_toArray]; exact hv.length
  have key : ∀ (j i : Nat) (ys : List Value) (tl : List (Addr × Obj)), i + j = ns.length → RatsOut tl ys ((List.range i).map fun i => (ns.getD i 0, (1 : Int))) → Apart news tl → LCg.CompRest prog w A h₀ L m env elt x scope cl s S (fun i v => vs.toArray[i]? = some v) Fin j i ys (news ++ tl) := by
    intro j
    induction j with
    | zero =>
      intro i ys tl hi hy hA
      have e : i = ns.length := by lia
      subst e
      rw [ov_range] at hy
      exact LCg.CompRest.zero (fin ys tl hy hA)
    | succ j ih =>
      intro i ys tl hi hy hAp
      refine LCg.CompRest.succ ?_
      intro v I oI C oC D m₂ h tk E' hv' hC hx F N off ne
      obtain ⟨t, ht⟩ := hv.get i (ns.getD i 0) (by simp [List.getD_eq_getElem?_getD, show i < ns.length by lia])
      have e : v = .int (ns.getD i 0) t := by
        have h1 : vs[i]? = some v := by simpa using hv'
        rw [ht] at h1
        exact (Option.some.inj h1).symm
      subst e
      refine wpAny_mono (turn i t I oI C oC D m₂ ys h tk tl E' (by lia) hC hx F N) (fun y s₂ hq => ?_) fun _ _ e => e
      obtain ⟨h', tk', tl', e, F', N', hA, hO⟩ := hq
      have hsub : ∀ q ∈ (I, oI) :: (C, oC) :: (D, LCg.lst ys) :: (news ++ (tl ++ tl')), q ∈ ((I, oI) :: (C, oC) :: (D, LCg.lst ys) :: (news ++ tl)) ++ tl' := by
        intro q hq
        simp only [List.mem_cons, List.mem_append, List.cons_append] at hq ⊢
        rcases hq with h | h | h | h | h | h <;> simp only [h, true_or, or_true]
      refine ⟨h', tk', news ++ (tl ++ tl'), e, F', fun q hq => N' q (hsub q hq), LCg.Off3.of fun q hq => ?_, hS _, ?_⟩
      · have hoff := off.mem
        rcases List.mem_append.mp hq with h1 | h1
        · exact hoff q (List.mem_append.mpr (.inl h1))
        · rcases List.mem_append.mp h1 with h1 | h1
          · exact hoff q (List.mem_append.mpr (.inr h1))
          · exact ⟨fun e => hA _ (List.Mem.head _) q h1 e.symm, fun e => hA _ (List.Mem.tail _ (List.Mem.head _)) q h1 e.symm, fun e => hA _ (List.Mem.tail _ (List.Mem.tail _ (List.Mem.head _))) q h1 e.symm⟩
      · refine ih (i + 1) (ys ++ [y]) (tl ++ tl') (by lia) ?_ fun a ha b hb => ?_
        · rw [List.range_succ, List.map_append]
          exact hy.snoc hO
        · rcases List.mem_append.mp hb with hb | hb
          · exact hAp a ha b hb
          · exact hA a (.tail _ (.tail _ (.tail _ (List.mem_append.mpr (.inl ha))))) b hb
  have := key ns.length 0 [] [] (by lia) (fun _ _ _ => by exact .nil) (fun _ _ _ h => nomatch h)
  rw [List.append_nil] at this
  rwa [hlen]
/-- two held things at one address are one thing -/
theorem news_same {h : Heap} {led : List (Addr × Obj)} {p q : Addr × Obj} (N : News h₀ L h led) (hp : p ∈ led) (hq : q ∈ led) (e : p.1 = q.1) : p.2 = q.2 := by
  have h1 := (N p hp).1
  rw [e, (N q hq).1] at h1
  exact (Option.some.inj h1).symm
theorem news_off_cell {h : Heap} {led : List (Addr × Obj)} {c d : Addr} {o o' : Obj} {v : Option Value} (N : News h₀ L h led) (hc : (c, o) ∈ led) (hd : (d, o') ∈ led) (h1 : o.data = .cell v) (h2 : ∀ v, o'.data ≠ .cell v) : d ≠ c := fun e => by
  have := news_same N hd hc e
  dsimp only at this
  subst this
  exact h2 v h1
theorem list_no_cell (xs : Array Value) (n : Nat) : ∀ v, (listOf xs n).data ≠ .cell v := fun v e => nomatch e
end
end Mine

namespace Mine
open PySem.Calls PySem.Spec
theorem tup5_item {prog : Program} {w : World} {A : Around} {E : Value → Shared → Prop} {s : Shared} {h₀ : Heap} {L : Addr} {news : List (Addr × Obj)} {Q : Value → Shared → Prop} {value slice : PySem.Expr} {u : Tok} {k : Int} {vs : List Value} {D : Addr} (N : News h₀ L s.heap news) (hm : (D, { cls := .type "tuple", data := .seq vs.toArray }) ∈ news) (hi : IntsAre vs [2, -1, 3, -2, 1]) (h0 : 0 ≤ k) (h5 : k < 5) (h : ∀ c t, -3 ≤ c → c ≤ 3 → Q (.int c t) s)
    (he : subscripted slice false (.ref D) (.int k u) = operate [.ref D, .int k u] (getItem (.ref D) (.int k u))) : wpAny (model prog w) A (subscriptTail value slice (.ref D) (.int k u)) Q E s := by
  have T := News.isTup N hm
  cases hi with | cons _ _ hi => cases hi with | cons _ _ hi => cases hi with | cons _ _ hi => cases hi with | cons _ _ hi => cases hi with | cons _ _ hi => cases hi with | nil =>
  obtain rfl | rfl | rfl | rfl | rfl : k = 0 ∨ k = 1 ∨ k = 2 ∨ k = 3 ∨ k = 4 := by lia
  · exact item_tupleT T (by decide) (by decide) rfl rfl (h _ _ (by decide) (by decide)) he
  · exact item_tupleT T (by decide) (by decide) rfl rfl (h _ _ (by decide) (by decide)) he
  · exact item_tupleT T (by decide) (by decide) rfl rfl (h _ _ (by decide) (by decide)) he
  · exact item_tupleT T (by decide) (by decide) rfl rfl (h _ _ (by decide) (by decide)) he
  · exact item_tupleT T (by decide) (by decide) rfl rfl (h _ _ (by decide) (by decide)) he
theorem cells_off {L Bx S : Addr} {oS oj o2 o1 on ob : Obj} (dS : @Ne Nat S Bx) (d1 : @Ne Nat Bx (L + 1)) (d2 : @Ne Nat Bx (L + 1 + 1)) (d3 : @Ne Nat Bx (L + 1 + 1 + 1)) (d4 : @Ne Nat Bx (L + 1 + 1 + 1 + 1)) (d5 : @Ne Nat Bx (L + 1 + 1 + 1 + 1 + 1)) :
    ∀ q ∈ [(S, oS), (L + 1 + 1 + 1 + 1 + 1, oj), (L + 1 + 1 + 1 + 1, o2), (L + 1 + 1 + 1, o1), (L + 1 + 1, on), (L + 1, ob)], q.1 ≠ Bx := by
  intro q hq
  simp only [List.mem_cons, List.not_mem_nil, or_false] at hq
  rcases hq with h | h | h | h | h | h <;> subst h
  · exact dS
  · exact Ne.symm d5
  · exact Ne.symm d4
  · exact Ne.symm d3
  · exact Ne.symm d2
  · exact Ne.symm d1
section
variable {w : World} {mean : ExcName → Option Value} {mg mb : Str → Option Value} {dp un : Nat} {gd : Option (List Code)} {cn : Str} {cs : Scope} {a : Addr} {ccd : Value} {cl : List (Str × Addr)} {outer : List Env} {A₀ : Around} {base h₀ : Heap} {L : Addr} {m : Str → Option Value} {news K : List (Addr × Obj)} {s : Shared} {Q E : Value → Shared → Prop}
theorem take_useD {D Bx S : Addr} {oD : Obj} {vs : List Value} {ns : List Int} {k M : Int} {t₀ u₀ : Tok} {nB nS : Nat} (hD : (D, oD) ∈ news) (hDB : D ≠ Bx) (hS : (S, listOf vs.toArray nS) ∈ K) (hB : (Bx, listOf [.ref S, .int k t₀].toArray nB) ∈ news) (hK : ∀ q ∈ K, q ∈ news) (hne : ∀ q ∈ K, q.1 ≠ Bx) (hi : IntsAre vs ns) (hl : ns.length ≤ 100) (k0 : 0 ≤ k) (k1 : k ≤ 1000) (hM : 0 < M) (B : Below A₀ base outer h₀) (F : Fr h₀ L s.heap m) (X : (hd.heap_39 w.params).In h₀) (N : News h₀ L s.heap news) (T : Top hd.view_39 (looseW hd.view_39 []) mean mg mb h₀) (hk : cs.kind = .function)
    (hdp : dp + 1 < recursionLimit) (hun : un + 8 + 64 < cLine)
    (hret : ∀ v t t₁ n₁ h' tk', 0 ≤ v → v < M → Fr h₀ L h' m → News h₀ L h' ((Bx, listOf [.ref S, .int (k + 1) t₁].toArray n₁) :: (D, oD) :: K) → Q (.int v t) { s with heap := h', toks := tk' }) :
    wpAny (model PySem.Challenge.rw_tk0030_01.row.prog w) (ktrTop dp un gd cn cs L a ccd cl outer) (call (.ref 159) [.ref Bx, .int M u₀]) Q E s :=
  take_use (K := (D, oD) :: K) (.tail _ hS) hB (List.forall_mem_cons.mpr ⟨hD, hK⟩) (List.forall_mem_cons.mpr ⟨hDB, hne⟩) hi hl k0 k1 hM B F X N T hk hdp hun hret
end
section
variable {w : World} {mean : ExcName → Option Value} {mg mb : Str → Option Value} {fa : Addr} {cd : Value} {base h₀ : Heap} {L : Addr} {s : Shared} {E : Value → Shared → Prop} {Q : Flow → Shared → Prop} {u : Str → Option Value}
set_option maxHeartbeats 8000000 in
theorem phase2a {Bx S : Addr} {vs : List Value} {ns : List Int} {t₀ : Tok} {nB nS : Nat} {oj o2 o1 on ob : Obj} (B : Below callerA base [] h₀) (X : (hd.heap_39 w.params).In h₀) (T : Top hd.view_39 (looseW hd.view_39 []) mean mg mb h₀)
    (F : Fr h₀ L s.heap u)
    (N : News h₀ L s.heap ((Bx, listOf [.ref S, .int 0 t₀].toArray nB) :: (S, listOf vs.toArray nS) :: (L + 1 + 1 + 1 + 1 + 1, oj) :: (L + 1 + 1 + 1 + 1, o2) :: (L + 1 + 1 + 1, o1) :: (L + 1 + 1, on) :: [(L + 1, ob)]))
    (hob : ob.data = .cell (some (.ref Bx))) (hon : on.data = .cell none) (hi : IntsAre vs ns) (hl : ns.length ≤ 100)
    (dS : @Ne Nat S Bx) (d1 : @Ne Nat Bx (L + 1)) (d2 : @Ne Nat Bx (L + 1 + 1)) (d3 : @Ne Nat Bx (L + 1 + 1 + 1)) (d4 : @Ne Nat Bx (L + 1 + 1 + 1 + 1)) (d5 : @Ne Nat Bx (L + 1 + 1 + 1 + 1 + 1)) (e1 : @Ne Nat S (L + 1)) (e2 : @Ne Nat S (L + 1 + 1)) (e3 : @Ne Nat S (L + 1 + 1 + 1)) (e4 : @Ne Nat S (L + 1 + 1 + 1 + 1)) (e5 : @Ne Nat S (L + 1 + 1 + 1 + 1 + 1))
    (hE : PassesOwn (model PySem.Challenge.rw_tk0030_01.row.prog w) (callerA.deeper (envOfC (Str.ofString "law") lawScope L fa cd)) (envOfC (Str.ofString "law") lawScope L fa cd) E)
    (cont : ∀ u' h tk on' nB' sz n c ts tn tc tb, 5 ≤ sz → sz ≤ 6 → 1 ≤ n → n ≤ 3 → -3 ≤ c → c ≤ 3 → on'.data = .cell (some (.int n tn)) →
      Fr h₀ L h (over u' [(Str.ofString "size", .int sz ts), (Str.ofString "c", .int c tc)]) → News h₀ L h ((Bx, listOf [.ref S, .int (0 + 1 + 1 + 1) tb].toArray nB') :: (S, listOf vs.toArray nS) :: (L + 1 + 1 + 1 + 1 + 1, oj) :: (L + 1 + 1 + 1 + 1, o2) :: (L + 1 + 1 + 1, o1) :: (L + 1 + 1, on') :: [(L + 1, ob)]) →
      wpAny (model PySem.Challenge.rw_tk0030_01.row.prog w) (callerA.deeper (envOfC (Str.ofString "law") lawScope L fa cd)) (execs (lawBody.drop 2) (envOfC (Str.ofString "law") lawScope L fa cd)) Q E { s with heap := h, toks := tk }) : wpAny (model PySem.Challenge.rw_tk0030_01.row.prog w) (callerA.deeper (envOfC (Str.ofString "law") lawScope L fa cd)) (execs (lawBody.drop 1) (envOfC (Str.ofString "law") lawScope L fa cd)) Q E s := by
  k_with_none
  w_top off
  k_with "L:ktn_open" => ((case kA => exact rfl); (case kF => exact rfl); (case kK => first | exact rfl | assumption); (case k1 => k_asm); (case k2 => k_asm); (case k3 => k_asm); (case k4 => k_asm); (case k5 => k_asm); (case k6 => k_is); (case k7 => k_is); (case k8 => ktr_room); (case k9 => exact BindsTo.of_eq rfl); (case c5 => decide); (case kB => exact locs rfl); (case c2 => exact rfl); (case c3 => exact rfl); (case c4 => exact rfl); k_whole)
  k_with "L:exec For Name Call cons nil" => (k_here; (rename Fr _ _ _ _ => lF'); (with_unfolding_all refine' For_invVF lF' ?k1 ?k2 ?_; (case k1 => exact rfl); (case k2 => exact rfl); k_whole))
  k_with "L:pyIter ref" => (k_here; k_extra "pyIter ref")
  k_with "L:RetOf" => (k_dflt (refine' retOf_mk ?rF ?rN ?_; (case rF => k_asm); (case rN => k_asm)); (try dsimp only))
  k_with "L:subscriptTail" => (k_here; (first | ((with_reducible show wpAny _ _ (subscriptTail _ _ (Value.ref _) (Value.int 0 _)) _ _ _); k_dflt (refine' rat_item0 ?hR ?hs ?F ?X ?N ?_ ?he; (case hR => assumption); (case F => k_asm); (case X => k_asm); (case N => k_asm); (case hs => kcf_all); (case he => with_unfolding_all rfl))) | ((with_reducible show wpAny _ _ (subscriptTail _ _ (Value.ref _) (Value.int 1 _)) _ _ _); k_dflt (refine' rat_item1 ?hR ?hs ?F ?X ?N ?_ ?he; (case hR => assumption); (case F => k_asm); (case X => k_asm); (case N => k_asm); (case hs => kcf_all); (case he => with_unfolding_all rfl)))); intro t9; (try dsimp only))
  k_with "L:execs cons Assign cons" => (k_here; k_extra "stop")
  k_with "L:execs cons For cons" => (k_here; k_extra "stop")
  k_with "L:execs cons If cons" => (k_here; k_extra "stop")
  k_with "L:call ref" => (k_here; k_extra "call ref")
  k_with "L:newTuple" => (k_here; k_extra "newTuple")
  k_with "L:subscriptTail" => (k_here; k_extra "subscriptTail")
  revert X; k_fill; intro X
  unfold lawBody lawScope lawDef PySem.Challenge.pw_tk0030_01 at *
  dsimp only [lastOf, bodyOf, scopeOf, List.drop] at *
  have hSK : (S, listOf vs.toArray nS) ∈ (S, listOf vs.toArray nS) :: (L + 1 + 1 + 1 + 1 + 1, oj) :: (L + 1 + 1 + 1 + 1, o2) :: (L + 1 + 1 + 1, o1) :: (L + 1 + 1, on) :: [(L + 1, ob)] := .head _
  have hne : ∀ q ∈ (S, listOf vs.toArray nS) :: (L + 1 + 1 + 1 + 1 + 1, oj) :: (L + 1 + 1 + 1 + 1, o2) :: (L + 1 + 1 + 1, o1) :: (L + 1 + 1, on) :: [(L + 1, ob)], q.1 ≠ Bx := cells_off dS d1 d2 d3 d4 d5
  (try k_fold)
  k_with "call ref" => ((with_reducible show wpAny _ _ (call (Value.ref 159) [Value.ref _, Value.int 2 _]) _ _ _); k_dflt (refine' take_use ?pS ?p0 ?pK ?pn hi hl ?p1 ?p2 ?p3 ?k1 ?k2 ?k3 ?k4 ?k5 ?kK ?kd ?ku ?_; (case k1 => k_asm); (case k2 => k_asm); (case k3 => k_asm); (case k4 => k_asm); (case k5 => k_asm); (case kK => exact rfl); (case pS => exact hSK); (case pn => exact hne); (case p0 => k_mem); (case pK => kcf_all);  (case p1 => omega); (case p2 => omega); (case p3 => omega); (case kd => ktr_room); (case ku => ktr_units); k_whole); intro v₁ t₁ u₁ n₁ h₁ tk₁ hv₁ hw₁ F₁ N₁; (try dsimp only); (try k_fold))
  k_with "call ref" => ((with_reducible show wpAny _ _ (call (Value.ref 159) [Value.ref _, Value.int 3 _]) _ _ _); k_dflt (refine' take_use ?pS ?p0 ?pK ?pn hi hl ?p1 ?p2 ?p3 ?k1 ?k2 ?k3 ?k4 ?k5 ?kK ?kd ?ku ?_; (case k1 => k_asm); (case k2 => k_asm); (case k3 => k_asm); (case k4 => k_asm); (case k5 => k_asm); (case kK => exact rfl); (case pS => exact hSK); (case pn => exact hne); (case p0 => k_mem); (case pK => kcf_all);  (case p1 => omega); (case p2 => omega); (case p3 => omega); (case kd => ktr_room); (case ku => ktr_units); k_whole); intro v₂ t₂ u₂ n₂ h₂ tk₂ hv₂ hw₂ F₂ N₂; (try dsimp only); (try k_fold))
  k_with "newTuple" => (k_dflt (refine' newTuple_mine ?F ?N ?z ?_; (case F => k_asm); (case N => k_asm); (case z => exact Nat.le_of_ble_eq_true rfl)); intro D₃ h₃ l₃ F₃ N₃; (try dsimp only); (have q₃ := l₃); (try k_lt q₃))
  k_with "call ref" => ((with_reducible show wpAny _ _ (call (Value.ref 159) [Value.ref _, Value.int 5 _]) _ _ _); k_dflt (refine' take_useD (D := D₃) ?pD ?pE ?pS ?p0 ?pK ?pn hi hl ?p1 ?p2 ?p3 ?k1 ?k2 ?k3 ?k4 ?k5 ?kK ?kd ?ku ?_; (case k1 => k_asm); (case k2 => k_asm); (case k3 => k_asm); (case k4 => k_asm); (case k5 => k_asm); (case kK => exact rfl); (case pD => k_mem); (case pE => exact Nat.ne_of_gt (l₃ (Bx, _) (.head _))); (case pS => exact hSK); (case pn => exact hne); (case p0 => k_mem); (case pK => kcf_all);  (case p1 => omega); (case p2 => omega); (case p3 => omega); (case kd => ktr_room); (case ku => ktr_units); k_whole); intro v₄ t₄ u₄ n₄ h₄ tk₄ hv₄ hw₄ F₄ N₄; (try dsimp only); (try k_fold))
  k_with "subscriptTail" => (k_dflt (refine' tup5_item ?N ?hm ?hi ?h0 ?h5 ?_ ?he; (case N => k_asm); (case hm => k_mem); (case hi => exact .cons _ _ (.cons _ _ (.cons _ _ (.cons _ _ (.cons _ _ .nil))))); (case h0 => omega); (case h5 => omega); (case he => with_unfolding_all rfl)); intro c₅ t₅ lc₅ hc₅; (try dsimp only))
  k_with "stop" => ((with_reducible show wpAny _ _ (execs (Stmt.Assign _ _ { line := 101, col := _, endLine := _, endCol := _ } :: _) _) _ _ _); k_dflt (refine' cont _ _ _ _ n₄ (5 + v₁) (1 + v₂) c₅ tk₁ tk₂ t₅ u₄ ?h1 ?h2 ?h3 ?h4 ?h5 ?h6 ?ho ?F ?N; (case F => exact over_fr (by assumption) _ (all_cons rfl (all_cons rfl all_nil))); (case N => exact kst_newsOf (by assumption) (by kcf_all)); (case ho => assumption); (case h1 => omega); (case h2 => omega); (case h3 => omega); (case h4 => omega); (case h5 => omega); (case h6 => omega)))
  k_steps
  all_goals (first
    | exact rfl
    | (exfalso; lia)
    | trace_state)

end
end Mine

namespace Mine
open PySem.Calls PySem.Spec
theorem takes_a {k z : Int} (h : 0 ≤ k) : 0 ≤ k + (z.toNat : Int) := by lia
theorem takes_b {k z : Int} (h : z ≤ 6) : k + ((z - 0).toNat : Int) ≤ k + 6 := by lia
theorem takes_c {l : Nat} {z : Int} (h : l = (z - 0).toNat) (h5 : 5 ≤ z) : (l : Int) = z := by lia
section
variable {w : World} {mean : ExcName → Option Value} {mg mb : Str → Option Value} {fa : Addr} {cd : Value} {base h₀ : Heap} {L : Addr} {s : Shared} {E : Value → Shared → Prop} {Q : Flow → Shared → Prop} {u : Str → Option Value}
set_option maxHeartbeats 8000000 in
theorem phase2b {Bx S : Addr} {vs : List Value} {ns : List Int} {k₀ sz n c : Int} {t₀ ts tc : Tok} {nB nS : Nat} {oj o2 o1 on ob : Obj} (B : Below callerA base [] h₀) (X : (hd.heap_39 w.params).In h₀) (T : Top hd.view_39 (looseW hd.view_39 []) mean mg mb h₀)
    (F : Fr h₀ L s.heap (over u [(Str.ofString "size", .int sz ts), (Str.ofString "c", .int c tc)]))
    (N : News h₀ L s.heap ((Bx, listOf [.ref S, .int k₀ t₀].toArray nB) :: (S, listOf vs.toArray nS) :: (L + 1 + 1 + 1 + 1 + 1, oj) :: (L + 1 + 1 + 1 + 1, o2) :: (L + 1 + 1 + 1, o1) :: (L + 1 + 1, on) :: [(L + 1, ob)]))
    (hob : ob.data = .cell (some (.ref Bx))) (hon : o1.data = .cell none) (hi : IntsAre vs ns) (hl : ns.length ≤ 100) (s5 : 5 ≤ sz) (s6 : sz ≤ 6) (k0 : 0 ≤ k₀) (k1 : k₀ ≤ 50)
    (dS : @Ne Nat S Bx) (d1 : @Ne Nat Bx (L + 1)) (d2 : @Ne Nat Bx (L + 1 + 1)) (d3 : @Ne Nat Bx (L + 1 + 1 + 1)) (d4 : @Ne Nat Bx (L + 1 + 1 + 1 + 1)) (d5 : @Ne Nat Bx (L + 1 + 1 + 1 + 1 + 1)) (e1 : @Ne Nat S (L + 1)) (e2 : @Ne Nat S (L + 1 + 1)) (e3 : @Ne Nat S (L + 1 + 1 + 1)) (e4 : @Ne Nat S (L + 1 + 1 + 1 + 1)) (e5 : @Ne Nat S (L + 1 + 1 + 1 + 1 + 1)) 
    (hE : PassesOwn (model PySem.Challenge.rw_tk0030_01.row.prog w) (callerA.deeper (envOfC (Str.ofString "law") lawScope L fa cd)) (envOfC (Str.ofString "law") lawScope L fa cd) E)
    (cont : ∀ u' h tk o' nB' D w1 xs (k : Int) tb, 0 ≤ k → k ≤ k₀ + 6 → IntsAre w1 xs → (xs.length : Int) = sz → (∀ z ∈ xs, -3 ≤ z ∧ z < 4) → o'.data = .cell (some (.ref D)) → D ≠ Bx →
      Fr h₀ L h (over u' [(Str.ofString "size", .int sz ts), (Str.ofString "c", .int c tc)]) → News h₀ L h ((Bx, listOf [.ref S, .int k tb].toArray nB') :: (D, LCg.lst w1) :: (S, listOf vs.toArray nS) :: (L + 1 + 1 + 1 + 1 + 1, oj) :: (L + 1 + 1 + 1 + 1, o2) :: (L + 1 + 1 + 1, o') :: (L + 1 + 1, on) :: [(L + 1, ob)]) →
      wpAny (model PySem.Challenge.rw_tk0030_01.row.prog w) (callerA.deeper (envOfC (Str.ofString "law") lawScope L fa cd)) (execs (lawBody.drop 3) (envOfC (Str.ofString "law") lawScope L fa cd)) Q E { s with heap := h, toks := tk }) : wpAny (model PySem.Challenge.rw_tk0030_01.row.prog w) (callerA.deeper (envOfC (Str.ofString "law") lawScope L fa cd)) (execs (lawBody.drop 2) (envOfC (Str.ofString "law") lawScope L fa cd)) Q E s := by
  k_with_none
  w_top off
  k_with "L:ktn_open" => ((case kA => exact rfl); (case kF => exact rfl); (case kK => first | exact rfl | assumption); (case k1 => k_asm); (case k2 => k_asm); (case k3 => k_asm); (case k4 => k_asm); (case k5 => k_asm); (case k6 => k_is); (case k7 => k_is); (case k8 => ktr_room); (case k9 => exact BindsTo.of_eq rfl); (case c5 => decide); (case kB => exact locs rfl); (case c2 => exact rfl); (case c3 => exact rfl); (case c4 => exact rfl); k_whole)
  k_with "L:exec For Name Call cons nil" => (k_here; (rename Fr _ _ _ _ => lF'); (with_unfolding_all refine' For_invVF lF' ?k1 ?k2 ?_; (case k1 => exact rfl); (case k2 => exact rfl); k_whole))
  k_with "L:pyIter ref" => (k_here; k_extra "pyIter ref")
  k_with "L:RetOf" => (k_dflt (refine' retOf_mk ?rF ?rN ?_; (case rF => k_asm); (case rN => k_asm)); (try dsimp only))
  k_with "L:subscriptTail" => (k_here; (first | ((with_reducible show wpAny _ _ (subscriptTail _ _ (Value.ref _) (Value.int 0 _)) _ _ _); k_dflt (refine' rat_item0 ?hR ?hs ?F ?X ?N ?_ ?he; (case hR => assumption); (case F => k_asm); (case X => k_asm); (case N => k_asm); (case hs => kcf_all); (case he => with_unfolding_all rfl))) | ((with_reducible show wpAny _ _ (subscriptTail _ _ (Value.ref _) (Value.int 1 _)) _ _ _); k_dflt (refine' rat_item1 ?hR ?hs ?F ?X ?N ?_ ?he; (case hR => assumption); (case F => k_asm); (case X => k_asm); (case N => k_asm); (case hs => kcf_all); (case he => with_unfolding_all rfl)))); intro t9; (try dsimp only))
  k_with "L:ktr_unf" => ((case kA => exact rfl); (case kF => exact rfl); (case kK => first | exact rfl | assumption); (case k1 => k_asm); (case k2 => k_asm); (case k3 => k_asm); (case k4 => k_asm); (case k5 => k_asm); (case k6 => k_is); (case k7 => k_is); (case k8 => ktr_room); (case k9 => exact BindsTo.of_eq rfl); (case kB => exact rfl); (case kD => decide +kernel); (case c2 => exact rfl); (case c3 => exact rfl); (case c4 => exact rfl); k_whole)
  k_with "L:CompSrc" => (k_here; k_extra "CompSrc")
  k_with "L:eval ListComp" => (k_here; k_dflt (refine LCg.ListComp_U (F₀ := by k_asm) (by with_unfolding_all rfl) (by decide) (by rfl) (by decide) (by rfl) ?_))
  k_with "L:CompOut" => (k_dflt (refine' compOut_mk ?F ?N ?hO ?hA ?hs ?hn ?ht ?_; (case F => k_asm); (case N => k_asm); (case hO => assumption); (case hA => assumption); (case hs => kcf_all); (case hn => kcf_all); (case ht => kcf_all)))
  k_with "L:execs cons Assign cons" => (k_here; k_extra "stop")
  k_with "L:execs cons For cons" => (k_here; k_extra "stop")
  k_with "L:execs cons If cons" => (k_here; k_extra "stop")
  k_with "L:call ref" => (k_here; k_extra "call ref")
  k_with "L:TakeOut" => (k_dflt (refine' takeOut_mk ?F ?N ?hm ?hk ?h0 ?h1 ?hn ?hn₂; (case F => k_asm); (case N => k_asm); (case hm => k_mem); (case hk => exact rfl); (case h0 => omega); (case h1 => omega); (case hn => kcf_all); (case hn₂ => kcf_all)))
  revert X; k_fill; intro X
  unfold lawBody lawScope lawDef PySem.Challenge.pw_tk0030_01 at *
  dsimp only [lastOf, bodyOf, scopeOf, List.drop] at *
  have hne : ∀ q ∈ (S, listOf vs.toArray nS) :: (L + 1 + 1 + 1 + 1 + 1, oj) :: (L + 1 + 1 + 1 + 1, o2) :: (L + 1 + 1 + 1, o1) :: (L + 1 + 1, on) :: [(L + 1, ob)], q.1 ≠ Bx := cells_off dS d1 d2 d3 d4 d5
  (try k_fold)
  k_with "CompSrc" => (k_dflt (refine' LCg.CompSrc.range ?s1 ?s2 ?s3 ?s4 ?s5 ?s6 ?s7 ?_; (case s1 => rfl); (case s2 => k_asm); (case s3 => k_asm); (case s4 => assumption); (case s5 => exact small_one (by omega) (by omega) (by omega) (by omega)); (case s6 => exact rangeSize_nat _ _); (case s7 => (rw [PySem.sizeLine_eq]; omega))); intro g9; (k_dflt (refine' comp_takes (-3) 4 hne (fun _ => True.intro) (fun i' v' I' oI' C' oC' D' m' ys' h' tk' t' n' E' hi' hP' hC' hx' F' N' hall' => ?cturn) (fun ys' xs' t' n' hO' hl' hb' => ?cfin))); (case' cturn => (obtain ⟨t', hv'⟩ := hP'; subst hv')); (all_goals (try k_fold)))
  k_with "call ref" => ((with_reducible show wpAny _ _ (call (Value.ref 159) [Value.ref _, Value.int _ _]) _ _ _); k_dflt (refine' take_use ?pS ?p0 ?pK ?pn hi hl ?p1 ?p2 ?p3 ?k1 ?k2 ?k3 ?k4 ?k5 ?kK ?kd ?ku ?_; (case k1 => k_asm); (case k2 => k_asm); (case k3 => k_asm); (case k4 => k_asm); (case k5 => k_asm); (case kK => exact rfl); (case pn => exact hall'); (case pS => k_mem); (case p0 => k_mem); (case pK => kcf_all);  (case p1 => omega); (case p2 => omega); (case p3 => omega); (case kd => ktr_room); (case ku => ktr_units); k_whole); intro v₁ t₁ u₁ n₁ h₁ tk₁ hv₁ hw₁ F₁ N₁; (try dsimp only); (try k_fold))
  k_with "stop" => ((with_reducible show wpAny _ _ (execs (Stmt.Assign _ _ { line := 102, col := _, endLine := _, endCol := _ } :: _) _) _ _ _); (rename (Obj.data _ = Data.cell (some _)) => d9); k_dflt (refine' cont _ _ _ _ n' _ ys' xs' (k₀ + ((sz - 0).toNat : Int)) t' ?a ?b hO' ?c hb' d9 ?e ?F ?N; (case a => exact takes_a k0); (case b => exact takes_b s6); (case c => exact takes_c hl' s5); (case e => exact fun q => absurd q.symm (And.left (by assumption))); (case F => assumption); (case N => exact kst_newsOf (by assumption) (by kcf_all))))
  k_steps
  all_goals (first
    | exact rfl
    | (exfalso; omega)
    | trace_state)

set_option maxHeartbeats 8000000 in
theorem phase2c {Bx S : Addr} {vs : List Value} {ns : List Int} {k₀ sz n c : Int} {t₀ ts tc : Tok} {nB nS : Nat} {oj o2 o1 on ob : Obj} {D1 : Addr} {w0 : List Value} (B : Below callerA base [] h₀) (X : (hd.heap_39 w.params).In h₀) (T : Top hd.view_39 (looseW hd.view_39 []) mean mg mb h₀)
    (F : Fr h₀ L s.heap (over u [(Str.ofString "size", .int sz ts), (Str.ofString "c", .int c tc)]))
    (N : News h₀ L s.heap ((Bx, listOf [.ref S, .int k₀ t₀].toArray nB) :: (D1, LCg.lst w0) :: (S, listOf vs.toArray nS) :: (L + 1 + 1 + 1 + 1 + 1, oj) :: (L + 1 + 1 + 1 + 1, o2) :: (L + 1 + 1 + 1, o1) :: (L + 1 + 1, on) :: [(L + 1, ob)]))
    (hob : ob.data = .cell (some (.ref Bx))) (hon : o2.data = .cell none) (hi : IntsAre vs ns) (hl : ns.length ≤ 100) (s5 : 5 ≤ sz) (s6 : sz ≤ 6) (k0 : 0 ≤ k₀) (k1 : k₀ ≤ 50)
    (dS : @Ne Nat S Bx) (d1 : @Ne Nat Bx (L + 1)) (d2 : @Ne Nat Bx (L + 1 + 1)) (d3 : @Ne Nat Bx (L + 1 + 1 + 1)) (d4 : @Ne Nat Bx (L + 1 + 1 + 1 + 1)) (d5 : @Ne Nat Bx (L + 1 + 1 + 1 + 1 + 1)) (e1 : @Ne Nat S (L + 1)) (e2 : @Ne Nat S (L + 1 + 1)) (e3 : @Ne Nat S (L + 1 + 1 + 1)) (e4 : @Ne Nat S (L + 1 + 1 + 1 + 1)) (e5 : @Ne Nat S (L + 1 + 1 + 1 + 1 + 1)) (f0 : @Ne Nat D1 Bx) (f4 : @Ne Nat D1 (L + 1 + 1 + 1 + 1))
    (hE : PassesOwn (model PySem.Challenge.rw_tk0030_01.row.prog w) (callerA.deeper (envOfC (Str.ofString "law") lawScope L fa cd)) (envOfC (Str.ofString "law") lawScope L fa cd) E)
    (cont : ∀ u' h tk o' nB' D w1 xs (k : Int) tb, 0 ≤ k → k ≤ k₀ + 6 → IntsAre w1 xs → (xs.length : Int) = sz → (∀ z ∈ xs, -2 ≤ z ∧ z < 3) → o'.data = .cell (some (.ref D)) → D ≠ Bx →
      Fr h₀ L h (over u' [(Str.ofString "size", .int sz ts), (Str.ofString "c", .int c tc)]) → News h₀ L h ((Bx, listOf [.ref S, .int k tb].toArray nB') :: (D, LCg.lst w1) :: (D1, LCg.lst w0) :: (S, listOf vs.toArray nS) :: (L + 1 + 1 + 1 + 1 + 1, oj) :: (L + 1 + 1 + 1 + 1, o') :: (L + 1 + 1 + 1, o1) :: (L + 1 + 1, on) :: [(L + 1, ob)]) →
      wpAny (model PySem.Challenge.rw_tk0030_01.row.prog w) (callerA.deeper (envOfC (Str.ofString "law") lawScope L fa cd)) (execs (lawBody.drop 4) (envOfC (Str.ofString "law") lawScope L fa cd)) Q E { s with heap := h, toks := tk }) : wpAny (model PySem.Challenge.rw_tk0030_01.row.prog w) (callerA.deeper (envOfC (Str.ofString "law") lawScope L fa cd)) (execs (lawBody.drop 3) (envOfC (Str.ofString "law") lawScope L fa cd)) Q E s := by
  k_with_none
  w_top off
  k_with "L:ktn_open" => ((case kA => exact rfl); (case kF => exact rfl); (case kK => first | exact rfl | assumption); (case k1 => k_asm); (case k2 => k_asm); (case k3 => k_asm); (case k4 => k_asm); (case k5 => k_asm); (case k6 => k_is); (case k7 => k_is); (case k8 => ktr_room); (case k9 => exact BindsTo.of_eq rfl); (case c5 => decide); (case kB => exact locs rfl); (case c2 => exact rfl); (case c3 => exact rfl); (case c4 => exact rfl); k_whole)
  k_with "L:exec For Name Call cons nil" => (k_here; (rename Fr _ _ _ _ => lF'); (with_unfolding_all refine' For_invVF lF' ?k1 ?k2 ?_; (case k1 => exact rfl); (case k2 => exact rfl); k_whole))
  k_with "L:pyIter ref" => (k_here; k_extra "pyIter ref")
  k_with "L:RetOf" => (k_dflt (refine' retOf_mk ?rF ?rN ?_; (case rF => k_asm); (case rN => k_asm)); (try dsimp only))
  k_with "L:subscriptTail" => (k_here; (first | ((with_reducible show wpAny _ _ (subscriptTail _ _ (Value.ref _) (Value.int 0 _)) _ _ _); k_dflt (refine' rat_item0 ?hR ?hs ?F ?X ?N ?_ ?he; (case hR => assumption); (case F => k_asm); (case X => k_asm); (case N => k_asm); (case hs => kcf_all); (case he => with_unfolding_all rfl))) | ((with_reducible show wpAny _ _ (subscriptTail _ _ (Value.ref _) (Value.int 1 _)) _ _ _); k_dflt (refine' rat_item1 ?hR ?hs ?F ?X ?N ?_ ?he; (case hR => assumption); (case F => k_asm); (case X => k_asm); (case N => k_asm); (case hs => kcf_all); (case he => with_unfolding_all rfl)))); intro t9; (try dsimp only))
  k_with "L:ktr_unf" => ((case kA => exact rfl); (case kF => exact rfl); (case kK => first | exact rfl | assumption); (case k1 => k_asm); (case k2 => k_asm); (case k3 => k_asm); (case k4 => k_asm); (case k5 => k_asm); (case k6 => k_is); (case k7 => k_is); (case k8 => ktr_room); (case k9 => exact BindsTo.of_eq rfl); (case kB => exact rfl); (case kD => decide +kernel); (case c2 => exact rfl); (case c3 => exact rfl); (case c4 => exact rfl); k_whole)
  k_with "L:CompSrc" => (k_here; k_extra "CompSrc")
  k_with "L:eval ListComp" => (k_here; k_dflt (refine LCg.ListComp_U (F₀ := by k_asm) (by with_unfolding_all rfl) (by decide) (by rfl) (by decide) (by rfl) ?_))
  k_with "L:CompOut" => (k_dflt (refine' compOut_mk ?F ?N ?hO ?hA ?hs ?hn ?ht ?_; (case F => k_asm); (case N => k_asm); (case hO => assumption); (case hA => assumption); (case hs => kcf_all); (case hn => kcf_all); (case ht => kcf_all)))
  k_with "L:execs cons Assign cons" => (k_here; k_extra "stop")
  k_with "L:execs cons For cons" => (k_here; k_extra "stop")
  k_with "L:execs cons If cons" => (k_here; k_extra "stop")
  k_with "L:call ref" => (k_here; k_extra "call ref")
  k_with "L:TakeOut" => (k_dflt (refine' takeOut_mk ?F ?N ?hm ?hk ?h0 ?h1 ?hn ?hn₂; (case F => k_asm); (case N => k_asm); (case hm => k_mem); (case hk => exact rfl); (case h0 => omega); (case h1 => omega); (case hn => kcf_all); (case hn₂ => kcf_all)))
  revert X; k_fill; intro X
  unfold lawBody lawScope lawDef PySem.Challenge.pw_tk0030_01 at *
  dsimp only [lastOf, bodyOf, scopeOf, List.drop] at *
  have hne : ∀ q ∈ (D1, LCg.lst w0) :: (S, listOf vs.toArray nS) :: (L + 1 + 1 + 1 + 1 + 1, oj) :: (L + 1 + 1 + 1 + 1, o2) :: (L + 1 + 1 + 1, o1) :: (L + 1 + 1, on) :: [(L + 1, ob)], q.1 ≠ Bx := List.forall_mem_cons.mpr ⟨f0, cells_off dS d1 d2 d3 d4 d5⟩
  (try k_fold)
  k_with "CompSrc" => (k_dflt (refine' LCg.CompSrc.range ?s1 ?s2 ?s3 ?s4 ?s5 ?s6 ?s7 ?_; (case s1 => rfl); (case s2 => k_asm); (case s3 => k_asm); (case s4 => assumption); (case s5 => exact small_one (by omega) (by omega) (by omega) (by omega)); (case s6 => exact rangeSize_nat _ _); (case s7 => (rw [PySem.sizeLine_eq]; omega))); intro g9; (k_dflt (refine' comp_takes (-2) 3 hne (fun _ => True.intro) (fun i' v' I' oI' C' oC' D' m' ys' h' tk' t' n' E' hi' hP' hC' hx' F' N' hall' => ?cturn) (fun ys' xs' t' n' hO' hl' hb' => ?cfin))); (case' cturn => (obtain ⟨t', hv'⟩ := hP'; subst hv')); (all_goals (try k_fold)))
  k_with "call ref" => ((with_reducible show wpAny _ _ (call (Value.ref 159) [Value.ref _, Value.int _ _]) _ _ _); k_dflt (refine' take_use ?pS ?p0 ?pK ?pn hi hl ?p1 ?p2 ?p3 ?k1 ?k2 ?k3 ?k4 ?k5 ?kK ?kd ?ku ?_; (case k1 => k_asm); (case k2 => k_asm); (case k3 => k_asm); (case k4 => k_asm); (case k5 => k_asm); (case kK => exact rfl); (case pn => exact hall'); (case pS => k_mem); (case p0 => k_mem); (case pK => kcf_all);  (case p1 => omega); (case p2 => omega); (case p3 => omega); (case kd => ktr_room); (case ku => ktr_units); k_whole); intro v₁ t₁ u₁ n₁ h₁ tk₁ hv₁ hw₁ F₁ N₁; (try dsimp only); (try k_fold))
  k_with "stop" => ((with_reducible show wpAny _ _ (execs (Stmt.Assign _ _ { line := 103, col := _, endLine := _, endCol := _ } :: _) _) _ _ _); (rename (Obj.data _ = Data.cell (some _)) => d9); k_dflt (refine' cont _ _ _ _ n' _ ys' xs' (k₀ + ((sz - 0).toNat : Int)) t' ?a ?b hO' ?c hb' d9 ?e ?F ?N; (case a => exact takes_a k0); (case b => exact takes_b s6); (case c => exact takes_c hl' s5); (case e => exact fun q => absurd q.symm (And.left (by assumption))); (case F => assumption); (case N => exact kst_newsOf (by assumption) (by kcf_all))))
  k_steps
  all_goals (first
    | exact rfl
    | (exfalso; omega)
    | trace_state)

end
end Mine

namespace Mine
open PySem.Calls PySem.Spec
theorem led_off {h₀ h : Heap} {L c Da Db : Addr} {oj : Obj} {v : Option Value} {ya yb : List Value} {all base tla tlb X1 X2 : List (Addr × Obj)} (N : News h₀ L h all) (hoj : oj.data = .cell v) (hc : (c, oj) ∈ all) (hb : ∀ p ∈ base, p.1 ≠ c) (hDa : (Da, LCg.lst ya) ∈ all) (hDb : (Db, LCg.lst yb) ∈ all) (hA : Apart X1 tla) (m1 : (c, oj) ∈ X1) (hB : Apart X2 tlb) (m2 : (c, oj) ∈ X2) :
    ∀ p ∈ (Da, LCg.lst ya) :: (Db, LCg.lst yb) :: (base ++ tla ++ tlb), p.1 ≠ c := fun p hp => by
  simp only [List.mem_cons, List.mem_append] at hp
  rcases hp with h | h | (h | h) | h
  · subst h; exact news_off_cell N hc hDa hoj fun _ e => nomatch e
  · subst h; exact news_off_cell N hc hDb hoj fun _ e => nomatch e
  · exact hb p h
  · exact fun e => hA _ m1 p h e.symm
  · exact fun e => hB _ m2 p h e.symm
section
variable {w : World} {mean : ExcName → Option Value} {mg mb : Str → Option Value} {fa : Addr} {cd : Value} {base h₀ : Heap} {L : Addr} {s : Shared} {E : Value → Shared → Prop} {Q : Flow → Shared → Prop} {u : Str → Option Value}
set_option maxHeartbeats 8000000 in
theorem phase2d {Bx S D1 D2 : Addr} {vs w1 w2 : List Value} {one other : List Int} {k₀ sz c : Int} {t₀ ts tc : Tok} {nB nS : Nat} {oj o2 o1 on ob : Obj} (B : Below callerA base [] h₀) (X : (hd.heap_39 w.params).In h₀) (T : Top hd.view_39 (looseW hd.view_39 []) mean mg mb h₀)
    (F : Fr h₀ L s.heap (over u [(Str.ofString "size", .int sz ts), (Str.ofString "c", .int c tc)]))
    (N : News h₀ L s.heap ((Bx, listOf [.ref S, .int k₀ t₀].toArray nB) :: (D2, LCg.lst w2) :: (D1, LCg.lst w1) :: (S, listOf vs.toArray nS) :: (L + 1 + 1 + 1 + 1 + 1, oj) :: (L + 1 + 1 + 1 + 1, o2) :: (L + 1 + 1 + 1, o1) :: (L + 1 + 1, on) :: [(L + 1, ob)]))
    (hoj : oj.data = .cell none) (ho1 : o1.data = .cell (some (.ref D1))) (ho2 : o2.data = .cell (some (.ref D2)))
    (hi1 : IntsAre w1 one) (hi2 : IntsAre w2 other) (hl1 : one.length ≤ 90) (hl2 : other.length ≤ 90)
    (hE : PassesOwn (model PySem.Challenge.rw_tk0030_01.row.prog w) (callerA.deeper (envOfC (Str.ofString "law") lawScope L fa cd)) (envOfC (Str.ofString "law") lawScope L fa cd) E)
    (cont : ∀ u' h tk led pa pb, (∀ p ∈ led, p.1 ≠ L + 1 + 1 + 1 + 1 + 1) → SerOut led (.ref pa) (ov 1 one) → SerOut led (.ref pb) (ov 1 other) → (D1, LCg.lst w1) ∈ led → (D2, LCg.lst w2) ∈ led →
      Fr h₀ L h (over u' [(Str.ofString "a", .ref pa), (Str.ofString "b", .ref pb), (Str.ofString "size", .int sz ts), (Str.ofString "c", .int c tc)]) → News h₀ L h ((L + 1 + 1 + 1 + 1 + 1, oj) :: (L + 1 + 1 + 1 + 1, o2) :: (L + 1 + 1 + 1, o1) :: (L + 1 + 1, on) :: led) →
      wpAny (model PySem.Challenge.rw_tk0030_01.row.prog w) (callerA.deeper (envOfC (Str.ofString "law") lawScope L fa cd)) (execs (lawBody.drop 5) (envOfC (Str.ofString "law") lawScope L fa cd)) Q E { s with heap := h, toks := tk }) : wpAny (model PySem.Challenge.rw_tk0030_01.row.prog w) (callerA.deeper (envOfC (Str.ofString "law") lawScope L fa cd)) (execs (lawBody.drop 4) (envOfC (Str.ofString "law") lawScope L fa cd)) Q E s := by
  k_with_none
  w_top off
  k_with "L:ktn_open" => ((case kA => exact rfl); (case kF => exact rfl); (case kK => first | exact rfl | assumption); (case k1 => k_asm); (case k2 => k_asm); (case k3 => k_asm); (case k4 => k_asm); (case k5 => k_asm); (case k6 => k_is); (case k7 => k_is); (case k8 => ktr_room); (case k9 => exact BindsTo.of_eq rfl); (case c5 => decide); (case kB => exact locs rfl); (case c2 => exact rfl); (case c3 => exact rfl); (case c4 => exact rfl); k_whole)
  k_with "L:exec For Name Call cons nil" => (k_here; (rename Fr _ _ _ _ => lF'); (with_unfolding_all refine' For_invVF lF' ?k1 ?k2 ?_; (case k1 => exact rfl); (case k2 => exact rfl); k_whole))
  k_with "L:pyIter ref" => (k_here; k_extra "pyIter ref")
  k_with "L:RetOf" => (k_dflt (refine' retOf_mk ?rF ?rN ?_; (case rF => k_asm); (case rN => k_asm)); (try dsimp only))
  k_with "L:subscriptTail" => (k_here; (first | ((with_reducible show wpAny _ _ (subscriptTail _ _ (Value.ref _) (Value.int 0 _)) _ _ _); k_dflt (refine' rat_item0 ?hR ?hs ?F ?X ?N ?_ ?he; (case hR => assumption); (case F => k_asm); (case X => k_asm); (case N => k_asm); (case hs => kcf_all); (case he => with_unfolding_all rfl))) | ((with_reducible show wpAny _ _ (subscriptTail _ _ (Value.ref _) (Value.int 1 _)) _ _ _); k_dflt (refine' rat_item1 ?hR ?hs ?F ?X ?N ?_ ?he; (case hR => assumption); (case F => k_asm); (case X => k_asm); (case N => k_asm); (case hs => kcf_all); (case he => with_unfolding_all rfl)))); intro t9; (try dsimp only))
  k_with "L:ktr_unf" => ((case kA => exact rfl); (case kF => exact rfl); (case kK => first | exact rfl | assumption); (case k1 => k_asm); (case k2 => k_asm); (case k3 => k_asm); (case k4 => k_asm); (case k5 => k_asm); (case k6 => k_is); (case k7 => k_is); (case k8 => ktr_room); (case k9 => exact BindsTo.of_eq rfl); (case kB => exact rfl); (case kD => decide +kernel); (case c2 => exact rfl); (case c3 => exact rfl); (case c4 => exact rfl); k_whole)
  k_with "L:CompSrc" => (k_here; k_extra "CompSrc")
  k_with "L:eval ListComp" => (k_here; k_dflt (refine LCg.ListComp_U (F₀ := by k_asm) (by with_unfolding_all rfl) (by decide) (by rfl) (by decide) (by rfl) ?_))
  k_with "L:CompOut" => (k_dflt (refine' compOut_mk ?F ?N ?hO ?hA ?hs ?hn ?ht ?_; (case F => k_asm); (case N => k_asm); (case hO => assumption); (case hA => assumption); (case hs => kcf_all); (case hn => kcf_all); (case ht => kcf_all)))
  k_with "L:execs cons Assign cons" => (k_here; k_extra "stop")
  k_with "L:execs cons For cons" => (k_here; k_extra "stop")
  k_with "L:execs cons If cons" => (k_here; k_extra "stop")
  k_with "L:newTuple" => (k_here; k_extra "newTuple")
  k_with "L:CompOut" => (k_extra "CompOut")
  revert X; k_fill; intro X
  unfold lawBody lawScope lawDef PySem.Challenge.pw_tk0030_01 at *
  dsimp only [lastOf, bodyOf, scopeOf, List.drop] at *
  have hz1 : w1.toArray.size ≤ sizeLine := by rw [List.size_toArray, hi1.length, sizeLine_eq]; lia
  have hz2 : w2.toArray.size ≤ sizeLine := by rw [List.size_toArray, hi2.length, sizeLine_eq]; lia
  have hbase : ∀ p ∈ [(Bx, listOf [.ref S, .int k₀ t₀].toArray nB), (D2, LCg.lst w2), (D1, LCg.lst w1), (S, listOf vs.toArray nS), (L + 1, ob)], p.1 ≠ L + 1 + 1 + 1 + 1 + 1 := by
    have hc : (L + 1 + 1 + 1 + 1 + 1, oj) ∈ (Bx, listOf [.ref S, .int k₀ t₀].toArray nB) :: (D2, LCg.lst w2) :: (D1, LCg.lst w1) :: (S, listOf vs.toArray nS) :: (L + 1 + 1 + 1 + 1 + 1, oj) :: (L + 1 + 1 + 1 + 1, o2) :: (L + 1 + 1 + 1, o1) :: (L + 1 + 1, on) :: [(L + 1, ob)] := .tail _ (.tail _ (.tail _ (.tail _ (.head _))))
    intro p hp
    simp only [List.mem_cons, List.not_mem_nil, or_false] at hp
    rcases hp with h | h | h | h | h <;> subst h
    · exact news_off_cell N hc (.head _) hoj fun _ e => nomatch e
    · exact news_off_cell N hc (.tail _ (.head _)) hoj fun _ e => nomatch e
    · exact news_off_cell N hc (.tail _ (.tail _ (.head _))) hoj fun _ e => nomatch e
    · exact news_off_cell N hc (.tail _ (.tail _ (.tail _ (.head _)))) hoj fun _ e => nomatch e
    · exact Nat.ne_of_lt (Nat.lt_succ_of_lt (Nat.lt_succ_of_lt (Nat.lt_succ_of_lt (Nat.lt_succ_self _))))
  (try k_fold)
  k_with "CompSrc" => (k_dflt (refine' LCg.CompSrc.ledger (ax := D1) (its := w1.toArray) ?s1 ?s2 ?s3 ?s4 hz1 ?_; (case s1 => rfl); (case s2 => k_asm); (case s3 => k_asm); (case s4 => k_mem)); intro g9; (k_dflt (refine' comp_pairs hi1 (fun tl' => ?cturnS) (fun i' t' I' oI' C' oC' D' m' ys' h' tk' tl' E' hi' hC' hx' F' N' => ?cturn) (fun ys₁ tl₁ hO₁ hA₁ => ?cfin); (case' cturnS => exact .inr ⟨_, List.mem_append.mpr (.inl (by k_mem)), rfl, _, rfl⟩))); (all_goals (try k_fold)))
  k_with "CompSrc" => (k_dflt (refine' LCg.CompSrc.ledger (ax := D2) (its := w2.toArray) ?s1 ?s2 ?s3 ?s4 hz2 ?_; (case s1 => rfl); (case s2 => k_asm); (case s3 => k_asm); (case s4 => k_mem)); intro g9; (k_dflt (refine' comp_pairs hi2 (fun tl' => ?dturnS) (fun i' t' I' oI' C' oC' D' m' ys' h' tk' tl' E' hi' hC' hx' F' N' => ?dturn) (fun ys₂ tl₂ hO₂ hA₂ => ?dfin); (case' dturnS => exact .inr ⟨_, List.mem_append.mpr (.inl (by k_mem)), rfl, _, rfl⟩))); (all_goals (try k_fold)))
  k_with "newTuple" => (k_dflt (refine' newTuple_mine ?F ?N ?z ?_; (case F => k_asm); (case N => k_asm); (case z => exact Nat.le_of_ble_eq_true rfl)); intro D₃ h₃ l₃ F₃ N₃; (try dsimp only))
  k_with "CompOut" => (k_dflt (refine' compOut_tup ?F ?N l₃ ?hs ?hq; (case F => k_asm); (case N => exact N₃); (case hs => kcf_all); (case hq => exact rfl)))
  k_with "stop" => ((with_reducible show wpAny _ _ (execs (Stmt.Assign _ _ { line := 104, col := _, endLine := _, endCol := _ } :: _) _) _ _ _); (rename_i Da z1 z2 z3 Db z4 z5 z6 z7 z8 z9 F9 N9); k_dflt (refine' cont _ _ _ ((Da, LCg.lst ys₁) :: (Db, LCg.lst ys₂) :: ([(Bx, listOf [.ref S, .int k₀ t₀].toArray nB), (D2, LCg.lst w2), (D1, LCg.lst w1), (S, listOf vs.toArray nS), (L + 1, ob)] ++ tl₁ ++ tl₂)) Da Db ?h1 ?sa ?sb ?m1 ?m2 ?F ?N; (case h1 => exact led_off N9 hoj (by k_mem) hbase (by k_mem) (by k_mem) hA₁ (by k_mem) hA₂ (by k_mem)); (case sa => exact SerOut.lst hO₁ (by kcf_all) (.head _)); (case sb => exact SerOut.lst hO₂ (by kcf_all) (.tail _ (.head _))); (case m1 => exact .tail _ (.tail _ (.tail _ (.tail _ (.head _))))); (case m2 => exact .tail _ (.tail _ (.tail _ (.head _)))); (case F => exact over_fr (by assumption) _ (all_cons rfl (all_cons rfl (all_cons rfl (all_cons rfl all_nil))))); (case N => exact kst_newsOf N9 (by kcf_all))))
  k_steps
  all_goals (first
    | exact rfl
    | (exfalso; lia)
    | trace_state)

end
end Mine

namespace Mine
open PySem.Calls PySem.Spec
/-! what the phases ask of the numbers -/
def Pl3 (n : Int) (one other : List Int) : Prop := (∀ j : Nat, (j : Int) < n → DerOk (derN (ov 1 one) j)) ∧ ∀ j : Nat, (j : Int) < n → DerOk (derN (ov 1 other) j)
def Pl4 (sz n : Int) (one other : List Int) : Prop := (∀ i j, IntMulOk (one.getD i 0) (other.getD j 0)) ∧ (∀ i, Bd (one.getD i 0)) ∧ (∀ k m, Bd (conv one other k m)) ∧ (∀ j : Nat, (j : Int) < n → DerOk (derN (ov 1 (smulS one other)) j)) ∧
    (derN (ov 1 (smulS one other)) n.toNat).map red = (ov 1 ((List.range (sz - n - 0).toNat).map (dueF n one other))).map red
def Pl5 (sz n : Int) (one other : List Int) : Prop := (∀ j : Nat, j ≤ 3 → ∀ i, Bd ((derZ one j).getD i 0)) ∧ (∀ j j₂ : Nat, j ≤ 3 → j₂ ≤ 3 → ∀ k m, Bd (conv (derZ one j) (derZ other j₂) k m)) ∧ (∀ j : Nat, j ≤ 3 → Bd (binS n j)) ∧
    (ov 1 (totS n one other (sz - n).toNat (n + 1).toNat)).map red = (ov 1 ((List.range (sz - n - 0).toNat).map (dueF n one other))).map red
def Pl6 (sz n c : Int) (one : List Int) : Prop := ((cutS c sz).length = sz.toNat) ∧ ((cutS c sz).length ≤ 6) ∧ (∀ i : Nat, (i : Int) < n → DerOk (ov 1 (turnS c one i))) ∧ (∀ i, Bd ((expS c (cutS c sz).length).getD i 0)) ∧ (∀ k m, Bd (conv (expS c (cutS c sz).length) one k m)) ∧
    (∀ k m, Bd (conv (expS c (cutS c sz).length) (turnS c one n.toNat) k m)) ∧ (∀ j : Nat, (j : Int) < n → DerOk (derN (ov (120 * 1) (smulS (expS c (cutS c sz).length) one)) j)) ∧
    (derN (ov (120 * 1) (smulS (expS c (cutS c sz).length) one)) n.toNat).map red = (ov (120 * 1) (smulS (expS c (cutS c sz).length) (turnS c one n.toNat))).map red
def Pl7 (sz n : Int) (one : List Int) : Prop := (∀ i : Nat, (i : Int) < n → IntOk (intN (ov 1 one) i)) ∧
    ((intN (ov 1 one) n.toNat).map red = (List.replicate n.toNat (0, 1) ++ (List.range (sz - 0).toNat).map fun (j : Nat) => (one.getD (0 + (j : Int)).toNat 0, stepS (0 + (j : Int)) n.toNat)).map red) ∧
    (∀ j : Nat, (j : Int) < n → DerOk (derN (intN (ov 1 one) n.toNat) j)) ∧ (derN (intN (ov 1 one) n.toNat) n.toNat).map red = (ov 1 one).map red
def Plain : Prop := ∀ (sz n c : Int) (one other : List Int), 5 ≤ sz → sz ≤ 6 → 1 ≤ n → n ≤ 3 → -3 ≤ c → c ≤ 3 → (one.length : Int) = sz → (other.length : Int) = sz → (∀ z ∈ one, -3 ≤ z ∧ z < 4) → (∀ z ∈ other, -2 ≤ z ∧ z < 3) →
    Pl3 n one other ∧ Pl4 sz n one other ∧ Pl5 sz n one other ∧ Pl6 sz n c one ∧ Pl7 sz n one
section
variable {w : World} {mean : ExcName → Option Value} {mg mb : Str → Option Value} {fa : Addr} {cd : Value} {base h₀ : Heap} {L : Addr} {s : Shared} {E : Value → Shared → Prop} {Q : Flow → Shared → Prop} {u : Str → Option Value}
theorem chain (hP : Plain) {Bx S : Addr} {vs : List Value} {ns : List Int} {t₀ : Tok} {nB nS : Nat} {oj o2 o1 on ob : Obj} (B : Below callerA base [] h₀) (X : (hd.heap_39 w.params).In h₀) (T : Top hd.view_39 (looseW hd.view_39 []) mean mg mb h₀)
    (F : Fr h₀ L s.heap u)
    (N : News h₀ L s.heap ((Bx, listOf [.ref S, .int 0 t₀].toArray nB) :: (S, listOf vs.toArray nS) :: (L + 1 + 1 + 1 + 1 + 1, oj) :: (L + 1 + 1 + 1 + 1, o2) :: (L + 1 + 1 + 1, o1) :: (L + 1 + 1, on) :: [(L + 1, ob)]))
    (hob : ob.data = .cell (some (.ref Bx))) (hon : on.data = .cell none) (ho1 : o1.data = .cell none) (ho2 : o2.data = .cell none) (hoj : oj.data = .cell none) (hi : IntsAre vs ns) (hl : ns.length ≤ 100)
    (hE : PassesOwn (model PySem.Challenge.rw_tk0030_01.row.prog w) (callerA.deeper (envOfC (Str.ofString "law") lawScope L fa cd)) (envOfC (Str.ofString "law") lawScope L fa cd) E)
    (hQ : ∀ h' tk m' nx, Fr h₀ L h' m' → News h₀ L h' nx → Q (.ret (.bool true)) { s with heap := h', toks := tk }) :
    wpAny (model PySem.Challenge.rw_tk0030_01.row.prog w) (callerA.deeper (envOfC (Str.ofString "law") lawScope L fa cd)) (execs (lawBody.drop 1) (envOfC (Str.ofString "law") lawScope L fa cd)) Q E s := by
  have mB : (Bx, listOf [.ref S, .int 0 t₀].toArray nB) ∈ (Bx, listOf [.ref S, .int 0 t₀].toArray nB) :: (S, listOf vs.toArray nS) :: (L + 1 + 1 + 1 + 1 + 1, oj) :: (L + 1 + 1 + 1 + 1, o2) :: (L + 1 + 1 + 1, o1) :: (L + 1 + 1, on) :: [(L + 1, ob)] := .head _
  have mS := List.Mem.tail (Bx, listOf [.ref S, .int 0 t₀].toArray nB) (List.Mem.head (a := (S, listOf vs.toArray nS)) ((L + 1 + 1 + 1 + 1 + 1, oj) :: (L + 1 + 1 + 1 + 1, o2) :: (L + 1 + 1 + 1, o1) :: (L + 1 + 1, on) :: [(L + 1, ob)]))
  have dS : S ≠ Bx := fun e => by
    have h1 := news_same N mS mB e
    dsimp only at h1
    have h2 : Data.seq vs.toArray nS = Data.seq [Value.ref S, .int 0 t₀].toArray nB := congrArg Obj.data h1
    injection h2 with h3 _
    have h4 : vs = [Value.ref S, .int 0 t₀] := by simpa using congrArg Array.toList h3
    subst h4
    cases hi
  have lb : ∀ (a : Array Value) (n : Nat) (v : Option Value), (listOf a n).data ≠ .cell v := fun _ _ _ e => nomatch e
  have d1 := Ne.symm (Ne.symm (news_off_cell N (.tail _ (.tail _ (.tail _ (.tail _ (.tail _ (.tail _ (.head _))))))) mB hob (lb _ _)))
  have d2 := news_off_cell N (.tail _ (.tail _ (.tail _ (.tail _ (.tail _ (.head _)))))) mB hon (lb _ _)
  have d3 := news_off_cell N (.tail _ (.tail _ (.tail _ (.tail _ (.head _))))) mB ho1 (lb _ _)
  have d4 := news_off_cell N (.tail _ (.tail _ (.tail _ (.head _)))) mB ho2 (lb _ _)
  have d5 := news_off_cell N (.tail _ (.tail _ (.head _))) mB hoj (lb _ _)
  have e1 := news_off_cell N (.tail _ (.tail _ (.tail _ (.tail _ (.tail _ (.tail _ (.head _))))))) mS hob (lb _ _)
  have e2 := news_off_cell N (.tail _ (.tail _ (.tail _ (.tail _ (.tail _ (.head _)))))) mS hon (lb _ _)
  have e3 := news_off_cell N (.tail _ (.tail _ (.tail _ (.tail _ (.head _))))) mS ho1 (lb _ _)
  have e4 := news_off_cell N (.tail _ (.tail _ (.tail _ (.head _)))) mS ho2 (lb _ _)
  have e5 := news_off_cell N (.tail _ (.tail _ (.head _))) mS hoj (lb _ _)
  refine phase2a B X T F N hob hon hi hl dS d1 d2 d3 d4 d5 e1 e2 e3 e4 e5 hE (fun u1 h1 tk1 on1 nB1 sz n c ts tn tc tb s5 s6 n1 n3 c0 c3 hon1 F1 N1 => ?_)
  refine phase2b (n := n) B X T F1 N1 hob ho1 hi hl s5 s6 (by decide) (by decide) dS d1 d2 d3 d4 d5 e1 e2 e3 e4 e5 hE (fun u2 h2 tk2 o1' nB2 D1 w1 one k tb2 k0 k6 hi1 hl1 hb1 ho1' f0 F2 N2 => ?_)
  have k9 : k ≤ 40 := Int.le_trans k6 (by decide)
  have f4 := news_off_cell N2 (.tail _ (.tail _ (.tail _ (.tail _ (.head _))))) (.tail _ (.head _)) ho2 (fun _ e => nomatch e)
  refine phase2c (n := n) B X T F2 N2 hob ho2 hi hl s5 s6 k0 (by lia) dS d1 d2 d3 d4 d5 e1 e2 e3 e4 e5 f0 f4 hE (fun u3 h3 tk3 o2' nB3 D2 w2 other k' tb3 k0' k6' hi2 hl2 hb2 ho2' g0 F3 N3 => ?_)
  obtain ⟨⟨q1, q2⟩, ⟨q3, q4, q5, q6, q7⟩, ⟨q8, q9, q10, q11⟩, ⟨q12, q13, q14, q15, q16, q17, q18, q19⟩, ⟨q20, q21, q22, q23⟩⟩ := hP sz n c one other s5 s6 n1 n3 c0 c3 hl1 hl2 hb1 hb2
  refine phase2d B X T F3 N3 hoj ho1' ho2' hi1 hi2 (by lia) (by lia) hE (fun u4 h4 tk4 led pa pb hne ha hb m1 m2 F4 N4 => ?_)
  refine phase3 B X T F4 N4 hon1 hne n1 (by lia) ha hb q1 q2 hE (fun u5 h5 tk5 led' fd Ls Lo v1 v2 nn nn2 nn0 tl hsub hne' hfj hfd mLs dLs mLo dLo F5 N5 => ?_)
  refine phase4 B X T F5 N5 hoj hon1 ho1' ho2' (hsub _ m1) hi1 (hsub _ m2) hi2 hne' hfj hfd hl1 hl2 (by lia) s5 n1 (by lia) n3 (by lia) (ha.mono hsub) (hb.mono hsub) q3 q4 q5 q6 q7 hE (fun u6 h6 tk6 led2 hsub2 hd' F6 N6 => ?_)
  refine phase5 B X T F6 N6 hon1 hl1 hl2 (by lia) s5 n1 (by lia) n3 (by lia) ((ha.mono hsub).mono hsub2) ((hb.mono hsub).mono hsub2) hd' (hsub2 _ mLs) (dLs.mono hsub2) (hsub2 _ mLo) (dLo.mono hsub2) q8 q9 q10 q11 hE (fun u7 h7 tk7 F7 N7 => ?_)
  refine phase6 B X T F7 N7 hon1 hl1 (by lia) s5 n1 (by lia) n3 c0 c3 q12 q13 ((ha.mono hsub).mono hsub2) q14 q15 q16 q17 q18 q19 hE (fun u8 h8 tk8 F8 N8 => ?_)
  exact phase7 B X T F8 N8 hon1 ho1' (hsub2 _ (hsub _ m1)) hi1 hl1 (by lia) n1 (by lia) n3 ((ha.mono hsub).mono hsub2) q20 q21 q22 q23 hE (fun h' tk m' nx F' N' => hQ h' tk m' nx F' N')
end
end Mine

namespace Mine
open PySem.Calls PySem.Spec
set_option maxHeartbeats 8000000 in
theorem top0 (hP : Plain) : PySem.Challenge.rw_tk0030_01.Holds := hd (by (w_strict (k_with_none; (k_with "L:ktn_open" => (((case kA => exact rfl); (case kF => exact rfl); (case kK => first | exact rfl | assumption); (case k1 => k_asm); (case k2 => k_asm); (case k3 => k_asm); (case k4 => k_asm); (case k5 => k_asm); (case k6 => k_is); (case k7 => k_is); (case k8 => ktr_room); (case k9 => exact BindsTo.of_eq rfl); (case c5 => decide); (case kB => exact locs rfl); (case c2 => exact rfl); (case c3 => exact rfl); (case c4 => exact rfl); k_whole))); (k_with "L:exec For Name Call cons nil" => ((k_here; (rename Fr _ _ _ _ => lF'); (with_unfolding_all refine' For_invVF lF' ?k1 ?k2 ?_; (case k1 => exact rfl); (case k2 => exact rfl); k_whole)))); (k_with "L:pyIter ref" => ((k_here; k_extra "pyIter ref"))); (k_with "L:RetOf" => ((k_dflt (refine' retOf_mk ?rF ?rN ?_; (case rF => k_asm); (case rN => k_asm)); (try dsimp only)))); (k_with "L:subscriptTail" => ((k_here; (first | ((with_reducible show wpAny _ _ (subscriptTail _ _ (Value.ref _) (Value.int 0 _)) _ _ _); k_dflt (refine' rat_item0 ?hR ?hs ?F ?X ?N ?_ ?he; (case hR => assumption); (case F => k_asm); (case X => k_asm); (case N => k_asm); (case hs => kcf_all); (case he => with_unfolding_all rfl))) | ((with_reducible show wpAny _ _ (subscriptTail _ _ (Value.ref _) (Value.int 1 _)) _ _ _); k_dflt (refine' rat_item1 ?hR ?hs ?F ?X ?N ?_ ?he; (case hR => assumption); (case F => k_asm); (case X => k_asm); (case N => k_asm); (case hs => kcf_all); (case he => with_unfolding_all rfl)))); intro t9; (try dsimp only)))); (k_with "L:execs cons Assign cons" => ((k_here; k_extra "stop"))); (k_with "L:execs cons For cons" => ((k_here; k_extra "stop"))); (k_with "L:execs cons If cons" => ((k_here; k_extra "stop"))); k_go0; (all_goals try k_fold); (k_with "stop" => ((with_reducible show wpAny _ _ (execs (Stmt.Assign _ _ { line := 100, col := _, endLine := _, endCol := _ } :: _) _) _ _ _); rename_i w4 w3 w2 w1 w0 c4 c3 c2 c1 c0 x0 D0 ws z1 hI z2 z3 z4 DS cS z5 z6 DB z7 z8 z9 ob F9 N9 dB; k_dflt (refine' chain hP (Bx := DB) (S := DS) (vs := ws) (nS := cS) (nB := 0) (oj := w4) (o2 := w3) (o1 := w2) (on := w1) (ob := ob) ?B ?X ?T ?F ?N ?b0 ?b1 ?b2 ?b3 ?b4 ?hi ?hl ?hE ?hQ); (case' B => try k_asm); (case' X => try k_asm); (case' T => try k_asm); (case' F => try k_asm); (case' N => try exact kst_newsOf (by assumption) (by kcf_all)); (case' b0 => try assumption); (case' b1 => try exact c1); (case' b2 => try exact c2); (case' b3 => try exact c3); (case' b4 => try exact c4); (case' hi => try exact hI); (case' hl => try omega); (case' hE => try passes_own); (case' hQ => intro h8 tk8 m8 nx8 F8 N8))); k_steps)))
end Mine

namespace Mine
open PySem.Calls PySem.Spec
/-! sizes -/
/-- every number of the list lies between -k and k -/
def Le (k : Int) (ys : List Int) : Prop := ∀ i, -k ≤ ys.getD i 0 ∧ ys.getD i 0 ≤ k
theorem Le.of_mem {k : Int} {ys : List Int} (k0 : 0 ≤ k) (h : ∀ z ∈ ys, -k ≤ z ∧ z ≤ k) : Le k ys := fun i => by
  by_cases hi : i < ys.length
  · rw [List.getD_eq_getElem?_getD, List.getElem?_eq_getElem hi]
    exact h _ (List.getElem_mem hi)
  · rw [List.getD_eq_getElem?_getD, List.getElem?_eq_none (by lia)]
    exact ⟨by simpa using k0, by simpa using k0⟩
theorem Le.nonneg {k : Int} {ys : List Int} (h : Le k ys) : 0 ≤ k := by have := h 0; lia
theorem mul_le {a b y z : Int} (ha : -y ≤ a ∧ a ≤ y) (hb : -z ≤ b ∧ b ≤ z) : -(y * z) ≤ a * b ∧ a * b ≤ y * z := by
  have y0 : 0 ≤ y := by lia
  have z0 : 0 ≤ z := by lia
  have h : (a * b).natAbs ≤ y.natAbs * z.natAbs := by
    rw [Int.natAbs_mul]
    exact Nat.mul_le_mul (by lia) (by lia)
  have e : y * z = ((y.natAbs * z.natAbs : Nat) : Int) := by
    rw [Int.natCast_mul]
    rw [show ((y.natAbs : Nat) : Int) = y by lia, show ((z.natAbs : Nat) : Int) = z by lia]
  rw [e]
  lia
theorem Le.bd {k : Int} {ys : List Int} (h : Le k ys) (hk : k < 2 ^ 62) (i : Nat) : Bd (ys.getD i 0) := by
  have := h i
  exact ⟨by lia, by lia⟩
/-- the product's number is no greater than its summands together -/
theorem conv_le {y z : Int} {ys zs : List Int} (hy : Le y ys) (hz : Le z zs) (k : Int) (m : Nat) : -((ys.length : Int) * (y * z)) ≤ conv ys zs k m ∧ conv ys zs k m ≤ (ys.length : Int) * (y * z) := by
  have yz : 0 ≤ y * z := Int.mul_nonneg hy.nonneg hz.nonneg
  have key : ∀ m, -(((min m ys.length : Nat) : Int) * (y * z)) ≤ conv ys zs k m ∧ conv ys zs k m ≤ ((min m ys.length : Nat) : Int) * (y * z) := by
    intro m
    induction m with
    | zero => simp [conv]
    | succ m ih =>
      rw [conv]
      rw [show (0 + (m : Int)).toNat = m by lia]
      by_cases h : m < ys.length
      · have h1 := mul_le (hy m) (hz (k - (0 + (m : Int))).toNat)
        rw [show min (m + 1) ys.length = min m ys.length + 1 by lia, Int.natCast_add, Int.add_mul]
        simp only [Int.natCast_one, Int.one_mul]
        generalize ((min m ys.length : Nat) : Int) * (y * z) = P at *
        lia
      · rw [show min (m + 1) ys.length = min m ys.length by lia, List.getD_eq_getElem?_getD, List.getElem?_eq_none (by lia)]
        simpa using ih
  have h1 := key m
  have h2 : ((min m ys.length : Nat) : Int) * (y * z) ≤ (ys.length : Int) * (y * z) := Int.mul_le_mul_of_nonneg_right (by lia) yz
  lia
theorem Le.der {k : Int} {ys : List Int} (h : Le k ys) {l : Nat} (hl : ys.length ≤ l) : Le ((l : Int) * k) (derS ys) := fun i => by
  have k0 := h.nonneg
  by_cases hi : i < ys.length - 1
  · rw [derS, List.getD_eq_getElem?_getD, List.getElem?_map, List.getElem?_range hi]
    exact mul_le (y := l) (by lia) (h _)
  · rw [derS, List.getD_eq_getElem?_getD, List.getElem?_map, List.getElem?_eq_none (by simpa using hi)]
    have : 0 ≤ (l : Int) * k := Int.mul_nonneg (by lia) k0
    exact ⟨by simpa using this, by simpa using this⟩
theorem Le.to {k k' : Int} {ys : List Int} (h : Le k ys) (hk : k ≤ k') : Le k' ys := fun i => by have := h i; lia
theorem Le.derZ {k : Int} {ys : List Int} (h : Le k ys) (hl : ys.length ≤ 6) : ∀ j : Nat, j ≤ 3 → Le (216 * k) (derZ ys j)
  | 0, _ => h.to (by have := h.nonneg; lia)
  | 1, _ => (h.der hl).to (by have := h.nonneg; lia)
  | 2, _ => (Le.der (l := 6) (h.der hl) (by rw [derS_length]; lia)).to (by have := h.nonneg; lia)
  | 3, _ => (Le.der (l := 6) (Le.der (l := 6) (h.der hl) (by rw [derS_length]; lia)) (by rw [derS_length, derS_length]; lia)).to (by have := h.nonneg; lia)
  | j + 4, h => absurd h (by lia)
theorem derOk_ov {d : Int} {zs : List Int} (d0 : 0 < d) (d1 : d < 1073741824) (h1 : 1 ≤ zs.length) (h2 : zs.length ≤ 100) : DerOk (ov d zs) := by
  refine ⟨by rw [ov_length]; exact h2, by rw [ov_length]; exact h1, fun i => ?_, fun i => ?_⟩
  all_goals
    by_cases hi : i < zs.length
    · rw [ov_get hi]; simp only []; lia
    · rw [List.getD_eq_getElem?_getD, List.getElem?_eq_none (by rw [ov_length]; lia)]; decide
/-! the first phase -/
theorem pl3 {n : Int} {one other : List Int} (n3 : n ≤ 3) (h1 : 5 ≤ one.length) (h2 : one.length ≤ 6) (h3 : 5 ≤ other.length) (h4 : other.length ≤ 6) : Pl3 n one other :=
  ⟨fun j hj => by rw [derN_ov]; exact derOk_ov (by decide) (by decide) (by rw [derZ_length]; lia) (by rw [derZ_length]; lia),
   fun j hj => by rw [derN_ov]; exact derOk_ov (by decide) (by decide) (by rw [derZ_length]; lia) (by rw [derZ_length]; lia)⟩
end Mine

namespace Mine
open PySem.Calls PySem.Spec
theorem ext_getD {xs ys : List Int} (h : xs.length = ys.length) (k : ∀ j, j < xs.length → xs.getD j 0 = ys.getD j 0) : xs = ys := by
  apply List.ext_getElem h
  intro i h1 h2
  have := k i h1
  rwa [List.getD_eq_getElem?_getD, List.getD_eq_getElem?_getD, List.getElem?_eq_getElem h1, List.getElem?_eq_getElem h2] at this
theorem getD_map_range (f : Nat → Int) {n j : Nat} (h : j < n) : ((List.range n).map f).getD j 0 = f j := by
  simp [List.getD_eq_getElem?_getD, h]
theorem derS_get {ys : List Int} {j : Nat} (h : j + 1 < ys.length) : (derS ys).getD j 0 = (1 + (j : Int)) * ys.getD (j + 1) 0 := by
  rw [derS, getD_map_range _ (by lia), show (1 + (j : Int)).toNat = j + 1 by lia]
theorem stepS_left (x : Int) (n : Nat) : stepS x (n + 1) = (1 + x) * stepS (1 + x) n := by
  induction n with
  | zero => simp only [stepS]; grind
  | succ n ih =>
    rw [stepS, ih, stepS]
    rw [show ((n + 1 : Nat) : Int) = (n : Int) + 1 by lia]
    grind
theorem derZ_get {ys : List Int} : ∀ (n j : Nat), j + n < ys.length → (derZ ys n).getD j 0 = stepS j n * ys.getD (j + n) 0
  | 0, j, _ => by rw [derZ, stepS, Int.one_mul]; rfl
  | n + 1, j, h => by
    rw [derZ, derS_get (by rw [derZ_length]; lia), derZ_get n (j + 1) (by lia), stepS_left, show ((j + 1 : Nat) : Int) = 1 + (j : Int) by lia, show j + 1 + n = j + (n + 1) by lia, Int.mul_assoc]
theorem derZ_all {ys : List Int} (n j : Nat) : (derZ ys n).getD j 0 = stepS j n * ys.getD (j + n) 0 := by
  by_cases h : j + n < ys.length
  · exact derZ_get n j h
  · rw [List.getD_eq_getElem?_getD, List.getD_eq_getElem?_getD, List.getElem?_eq_none (by rw [derZ_length]; lia), List.getElem?_eq_none (by lia)]
    exact (Int.mul_zero _).symm
theorem conv_sum (ys zs : List Int) (k : Int) (m : Nat) : conv ys zs k m = ((List.range m).map fun (a : Nat) => ys.getD (0 + (a : Int)).toNat 0 * zs.getD (k - (0 + (a : Int))).toNat 0).sum := by
  induction m with
  | zero => rfl
  | succ m ih =>
    rw [conv, ih, List.range_succ, List.map_append, List.sum_append]
    simp only [List.map_cons, List.map_nil, List.sum_cons, List.sum_nil, Int.add_zero]
theorem smulS_get {ys zs : List Int} {j : Nat} (h : j < ys.length) (h' : j < zs.length) : (smulS ys zs).getD j 0 = conv ys zs (0 + (j : Int)) (0 + (j : Int) + 1).toNat := by
  rw [smulS, getD_map_range _ (by lia)]
theorem due_law {sz n : Int} {one other : List Int} (n0 : 1 ≤ n) (hl : (one.length : Int) = sz) (hl₂ : (other.length : Int) = sz) : derZ (smulS one other) n.toNat = (List.range (sz - n - 0).toNat).map (dueF n one other) := by
  subst hl
  have he : other.length = one.length := Int.ofNat_inj.mp hl₂
  obtain ⟨k, rfl⟩ : ∃ k : Nat, n = k := Int.eq_ofNat_of_zero_le (Int.le_trans (by decide) n0)
  rw [show ((one.length : Int) - k - 0).toNat = one.length - k by rw [Int.sub_zero]; exact Int.toNat_sub _ _, Int.toNat_natCast]
  have hL : (derZ (smulS one other) k).length = one.length - k := by rw [derZ_length, smulS_length, he, Nat.min_self]
  refine ext_getD (by rw [hL, List.length_map, List.length_range]) fun j hj => ?_
  rw [hL] at hj
  have hj' : j + k < one.length := Nat.add_lt_of_lt_sub hj
  rw [derZ_all, smulS_get hj' (by rw [he]; exact hj'), getD_map_range _ hj, dueF, dueN, conv_sum, Int.mul_comm]
  rw [show 0 + ((j + k : Nat) : Int) = k + (0 + (j : Int)) by lia, Int.zero_add, Int.sub_zero, Int.toNat_natCast]
theorem mulOk_small {a b : Int} (h : -1000 ≤ a ∧ a ≤ 1000) : IntMulOk a b := IntMulOk.of_left (intBits_le_iff.mpr (by lia))
theorem pl4 {sz n : Int} {one other : List Int} (n0 : 1 ≤ n) (n3 : n ≤ 3) (s5 : 5 ≤ sz) (s6 : sz ≤ 6) (hl : (one.length : Int) = sz) (hl₂ : (other.length : Int) = sz) (h1 : Le 3 one) (h2 : Le 3 other) : Pl4 sz n one other := by
  refine ⟨fun i j => mulOk_small (by have := h1 i; lia), h1.bd (by decide), fun k m => ?_, fun j hj => ?_, ?_⟩
  · have := conv_le h1 h2 k m
    constructor <;> lia
  · rw [derN_ov]
    exact derOk_ov (by decide) (by decide) (by rw [derZ_length, smulS_length]; lia) (by rw [derZ_length, smulS_length]; lia)
  · rw [derN_ov, due_law n0 hl hl₂]
end Mine

namespace Mine
open PySem.Calls PySem.Spec
theorem addS_get {ys zs : List Int} {j : Nat} (h : j < ys.length) (h' : j < zs.length) : (addS ys zs).getD j 0 = ys.getD j 0 + zs.getD j 0 := by
  rw [addS, getD_map_range _ (by lia), show (0 + (j : Int)).toNat = j by lia]
theorem scaS_get {c : Int} {ys : List Int} {j : Nat} (h : j < ys.length) : (scaS c ys).getD j 0 = c * ys.getD j 0 := by
  rw [scaS, getD_map_range _ h]
/-- one number of the sum by binomials -/
def tS (n : Int) (ys zs : List Int) (j : Nat) : Nat → Int
  | 0 => 0
  | k + 1 => tS n ys zs j k + binS n k * conv (derZ ys k) (derZ zs (n.toNat - k)) j (j + 1)
theorem totS_len {n : Int} {ys zs : List Int} {left : Nat} : ∀ k : Nat, (∀ i, i < k → left ≤ ys.length - i ∧ left ≤ zs.length - (n.toNat - i)) → (totS n ys zs left k).length = left
  | 0, _ => by rw [totS, List.length_replicate]
  | k + 1, h => by
    have := h k (by lia)
    rw [totS, addS_length, totS_len k fun i hi => h i (by lia), scaS_length, smulS_length, derZ_length, derZ_length]
    rw [show (0 + (k : Int)).toNat = k by lia, show (n - (0 + (k : Int))).toNat = n.toNat - k by lia]
    lia
theorem totS_get {n : Int} {ys zs : List Int} {left j : Nat} (hj : j < left) : ∀ k : Nat, (∀ i, i < k → left ≤ ys.length - i ∧ left ≤ zs.length - (n.toNat - i)) → (totS n ys zs left k).getD j 0 = tS n ys zs j k
  | 0, _ => by rw [totS, tS]; simp [List.getD_eq_getElem?_getD, hj]
  | k + 1, h => by
    have h1 := h k (by lia)
    have e1 : (0 + (k : Int)).toNat = k := by lia
    have e2 : (n - (0 + (k : Int))).toNat = n.toNat - k := by lia
    rw [totS, e1, e2, addS_get, scaS_get, smulS_get, totS_get hj k fun i hi => h i (by lia), tS]
    · rw [show (0 + (j : Int)) = (j : Int) by lia, show ((j : Int) + 1).toNat = j + 1 by lia]
    · rw [derZ_length]; lia
    · rw [derZ_length]; lia
    · rw [smulS_length, derZ_length, derZ_length]; lia
    · rw [totS_len k fun i hi => h i (by lia)]; lia
    · rw [scaS_length, smulS_length, derZ_length, derZ_length]; lia
theorem leib1 {ys zs : List Int} {j : Nat} (h : j + 1 < ys.length) (h' : j + 1 < zs.length) (hj : j ≤ 4) : stepS j 1 * conv ys zs ((j + 1 : Nat) : Int) (j + 1 + 1) = tS 1 ys zs j 2 := by
  have b0 : binS 1 0 = 1 := by decide
  have b1 : binS 1 1 = 1 := by decide
  obtain rfl | rfl | rfl | rfl | rfl : j = 0 ∨ j = 1 ∨ j = 2 ∨ j = 3 ∨ j = 4 := by lia
  all_goals
    simp [tS, conv, b0, b1, derZ_all, stepS, -List.getD_eq_getElem?_getD]
    try grind
theorem leib2 {ys zs : List Int} {j : Nat} (h : j + 2 < ys.length) (h' : j + 2 < zs.length) (hj : j ≤ 3) : stepS j 2 * conv ys zs ((j + 2 : Nat) : Int) (j + 2 + 1) = tS 2 ys zs j 3 := by
  have b0 : binS 2 0 = 1 := by decide
  have b1 : binS 2 1 = 2 := by decide
  have b2 : binS 2 2 = 1 := by decide
  obtain rfl | rfl | rfl | rfl : j = 0 ∨ j = 1 ∨ j = 2 ∨ j = 3 := by lia
  all_goals
    simp [tS, conv, b0, b1, b2, derZ_all, stepS, -List.getD_eq_getElem?_getD]
    try grind
theorem leib3 {ys zs : List Int} {j : Nat} (h : j + 3 < ys.length) (h' : j + 3 < zs.length) (hj : j ≤ 2) : stepS j 3 * conv ys zs ((j + 3 : Nat) : Int) (j + 3 + 1) = tS 3 ys zs j 4 := by
  have b0 : binS 3 0 = 1 := by decide
  have b1 : binS 3 1 = 3 := by decide
  have b2 : binS 3 2 = 3 := by decide
  have b3 : binS 3 3 = 1 := by decide
  obtain rfl | rfl | rfl : j = 0 ∨ j = 1 ∨ j = 2 := by lia
  all_goals
    simp [tS, conv, b0, b1, b2, b3, derZ_all, stepS, -List.getD_eq_getElem?_getD]
    try grind
theorem leib {n : Int} {ys zs : List Int} {j : Nat} (n0 : 1 ≤ n) (n3 : n ≤ 3) (h : j + n.toNat < ys.length) (h' : j + n.toNat < zs.length) (hj : j + n.toNat ≤ 5) : stepS j n.toNat * conv ys zs ((j + n.toNat : Nat) : Int) (j + n.toNat + 1) = tS n ys zs j (n + 1).toNat := by
  obtain rfl | rfl | rfl : n = 1 ∨ n = 2 ∨ n = 3 := by lia
  · exact leib1 h h' (by simp at hj; lia)
  · exact leib2 h h' (by simp at hj; lia)
  · exact leib3 h h' (by simp at hj; lia)
theorem leib_law {sz n : Int} {one other : List Int} (n0 : 1 ≤ n) (n3 : n ≤ 3) (s5 : 5 ≤ sz) (s6 : sz ≤ 6) (hl : (one.length : Int) = sz) (hl₂ : (other.length : Int) = sz) : totS n one other (sz - n).toNat (n + 1).toNat = derZ (smulS one other) n.toNat := by
  subst hl
  have he : other.length = one.length := Int.ofNat_inj.mp hl₂
  obtain ⟨k, rfl⟩ : ∃ k : Nat, n = k := Int.eq_ofNat_of_zero_le (Int.le_trans (by decide) n0)
  rw [show ((one.length : Int) - k).toNat = one.length - k from Int.toNat_sub _ _, show ((k : Int) + 1).toNat = k + 1 from rfl, Int.toNat_natCast]
  have hh : ∀ i, i < k + 1 → one.length - k ≤ one.length - i ∧ one.length - k ≤ other.length - ((k : Int).toNat - i) := fun i hi => ⟨Nat.sub_le_sub_left (Nat.le_of_lt_succ hi) _, he ▸ Nat.sub_le_sub_left (Nat.sub_le _ _) _⟩
  have hlen := totS_len (ys := one) (zs := other) (k + 1) hh
  refine ext_getD (by rw [hlen, derZ_length, smulS_length, he, Nat.min_self]) fun j hj => ?_
  rw [hlen] at hj
  have hj' : j + k < one.length := Nat.add_lt_of_lt_sub hj
  have h5 : j + k ≤ 5 := by clear hj hh hlen he hl₂; lia
  rw [totS_get hj _ hh, derZ_all, smulS_get hj' (by rw [he]; exact hj'), Int.zero_add]
  exact (leib n0 n3 hj' (by rw [he]; exact hj') h5).symm
theorem pl5 {sz n : Int} {one other : List Int} (n0 : 1 ≤ n) (n3 : n ≤ 3) (s5 : 5 ≤ sz) (s6 : sz ≤ 6) (hl : (one.length : Int) = sz) (hl₂ : (other.length : Int) = sz) (h1 : Le 3 one) (h2 : Le 3 other) : Pl5 sz n one other := by
  refine ⟨fun j hj => (h1.derZ (by lia) j hj).bd (by decide), fun j j₂ hj hj₂ k m => ?_, fun j hj => ?_, ?_⟩
  · have := conv_le (h1.derZ (by lia) j hj) (h2.derZ (by lia) j₂ hj₂) k m
    have hl' := derZ_length one j
    constructor <;> lia
  · obtain rfl | rfl | rfl : n = 1 ∨ n = 2 ∨ n = 3 := by lia
    all_goals
      obtain rfl | rfl | rfl | rfl : j = 0 ∨ j = 1 ∨ j = 2 ∨ j = 3 := by lia
      all_goals exact ⟨by decide, by decide⟩
  · rw [leib_law n0 n3 s5 s6 hl hl₂, due_law n0 hl hl₂]
end Mine

namespace Mine
open PySem.Calls PySem.Spec
theorem Le.add {a b : Int} {ys zs : List Int} (h : Le a ys) (k : Le b zs) : Le (a + b) (addS ys zs) := fun i => by
  have a0 := h.nonneg
  have b0 := k.nonneg
  have h1 := h i
  have k1 := k i
  by_cases hi : i < min ys.length zs.length
  · rw [addS_get (by lia) (by lia)]; lia
  · rw [List.getD_eq_getElem?_getD, List.getElem?_eq_none (by rw [addS_length]; lia)]
    simp only [Option.getD_none]; lia
theorem Le.sca {c k b : Int} {ys : List Int} (h : Le k ys) (hc : -b ≤ c ∧ c ≤ b) : Le (b * k) (scaS c ys) := fun i => by
  by_cases hi : i < ys.length
  · rw [scaS_get hi]; exact mul_le hc (h i)
  · rw [List.getD_eq_getElem?_getD, List.getElem?_eq_none (by rw [scaS_length]; lia)]
    have : 0 ≤ b * k := Int.mul_nonneg (by lia) h.nonneg
    simp only [Option.getD_none]; lia
theorem turn_le {c k : Int} {ys : List Int} (h : Le k ys) (hl : ys.length ≤ 6) (c0 : -3 ≤ c) (c3 : c ≤ 3) : Le (9 * k) (addS (derS ys) (scaS c ys)) := by
  have := (h.der (l := 6) hl).add (h.sca (b := 3) (c := c) ⟨by lia, c3⟩)
  refine this.to ?_
  have := h.nonneg
  lia
theorem turnS_le {c k : Int} {ys : List Int} (h : Le k ys) (hl : ys.length ≤ 6) (c0 : -3 ≤ c) (c3 : c ≤ 3) : ∀ n : Nat, n ≤ 3 → Le (729 * k) (turnS c ys n)
  | 0, _ => h.to (by have := h.nonneg; lia)
  | 1, _ => (turn_le h hl c0 c3).to (by have := h.nonneg; lia)
  | 2, _ => (turn_le (ys := turnS c ys 1) (turn_le h hl c0 c3) (by rw [turnS_length]; lia) c0 c3).to (by have := h.nonneg; lia)
  | 3, _ => (turn_le (ys := turnS c ys 2) (turn_le (ys := turnS c ys 1) (turn_le h hl c0 c3) (by rw [turnS_length]; lia) c0 c3) (by rw [turnS_length]; lia) c0 c3).to (by have := h.nonneg; lia)
  | n + 4, h => absurd h (by lia)
theorem exp_le {c : Int} (c0 : -3 ≤ c) (c3 : c ≤ 3) (N : Nat) : Le 2000 (expS c N) := fun i => by
  by_cases hi : i < N
  · rw [expS_get hi]; have := eS_bound c0 c3 i; lia
  · rw [List.getD_eq_getElem?_getD, List.getElem?_eq_none (by rw [expS_length]; lia)]
    simp only [Option.getD_none]; lia
theorem turn1 {c : Int} {N j : Nat} {y : List Int} (h : j + 1 < y.length) (hy : y.length ≤ N) (hj : j ≤ 4) : (1 + (j : Int)) * conv (expS c N) y ((j + 1 : Nat) : Int) (j + 1 + 1) = conv (expS c N) (addS (derS y) (scaS c y)) (j : Int) (j + 1) := by
  have hE : ∀ i, i ≤ j + 1 → (expS c N).getD i 0 = eS c i := fun i hi => expS_get (by lia)
  have hT : ∀ i, i ≤ j → (addS (derS y) (scaS c y)).getD i 0 = (1 + (i : Int)) * y.getD (i + 1) 0 + c * y.getD i 0 := fun i hi => by
    rw [addS_get (by rw [derS_length]; lia) (by rw [scaS_length]; lia), derS_get (by lia), scaS_get (by lia)]
  clear h hy
  obtain rfl | rfl | rfl | rfl | rfl : j = 0 ∨ j = 1 ∨ j = 2 ∨ j = 3 ∨ j = 4 := by lia
  all_goals
    simp [conv, hE, hT, eS, -List.getD_eq_getElem?_getD]
    clear hE hT
    try grind
theorem turn_step {c : Int} {N : Nat} {y : List Int} (hy : y.length ≤ N) (h6 : y.length ≤ 6) : derS (smulS (expS c N) y) = smulS (expS c N) (addS (derS y) (scaS c y)) := by
  have l1 : (addS (derS y) (scaS c y)).length = y.length - 1 := by rw [addS_length, derS_length, scaS_length]; lia
  refine ext_getD (by rw [derS_length, smulS_length, smulS_length, l1, expS_length, Nat.min_eq_right hy, Nat.min_eq_right (Nat.le_trans (Nat.sub_le _ 1) hy)]) fun j hj => ?_
  rw [derS_length, smulS_length, expS_length, Nat.min_eq_right hy] at hj
  have hj : j + 1 < y.length := Nat.add_lt_of_lt_sub hj
  have hN : j + 1 < N := Nat.lt_of_lt_of_le hj hy
  have h5 : j ≤ 4 := Nat.le_of_add_le_add_right (b := 2) (Nat.le_trans hj h6)
  rw [derS_get (by rw [smulS_length, expS_length, Nat.min_eq_right hy]; exact hj), smulS_get (by rw [expS_length]; exact hN) hj, smulS_get (by rw [expS_length]; exact Nat.lt_of_succ_lt hN) (by rw [l1]; exact Nat.lt_sub_of_add_lt hj)]
  rw [Int.zero_add, Int.zero_add]
  exact turn1 hj hy h5
theorem turn_law {c : Int} {N : Nat} {y : List Int} (hy : y.length ≤ N) (h6 : y.length ≤ 6) : ∀ n : Nat, derZ (smulS (expS c N) y) n = smulS (expS c N) (turnS c y n)
  | 0 => rfl
  | n + 1 => by
    rw [derZ, turn_law hy h6 n, turnS]
    exact turn_step (by rw [turnS_length]; lia) (by rw [turnS_length]; lia)
theorem pl6 {sz n c : Int} {one : List Int} (n0 : 1 ≤ n) (n3 : n ≤ 3) (s5 : 5 ≤ sz) (s6 : sz ≤ 6) (c0 : -3 ≤ c) (c3 : c ≤ 3) (hl : (one.length : Int) = sz) (h1 : Le 3 one) : Pl6 sz n c one := by
  have hN : (cutS c sz).length = sz.toNat := cutS_length (by lia)
  unfold Pl6
  rw [hN]
  have hE := exp_le c0 c3 sz.toNat
  have hT := turnS_le (n := n.toNat) h1 (by lia) c0 c3 (by lia)
  refine ⟨rfl, by lia, fun i hi => ?_, hE.bd (by decide), fun k m => ?_, fun k m => ?_, fun j hj => ?_, ?_⟩
  · exact derOk_ov (by decide) (by decide) (by rw [turnS_length]; lia) (by rw [turnS_length]; lia)
  · have := conv_le hE h1 k m
    rw [expS_length] at this
    constructor <;> lia
  · have := conv_le hE hT k m
    rw [expS_length] at this
    constructor <;> lia
  · rw [derN_ov]
    exact derOk_ov (by decide) (by decide) (by rw [derZ_length, smulS_length, expS_length]; lia) (by rw [derZ_length, smulS_length, expS_length]; lia)
  · rw [derN_ov, turn_law (by lia) (by lia)]
end Mine

namespace Mine
open PySem.Calls PySem.Spec
theorem pairs_get (f : Nat → Int × Int) {n j : Nat} (h : j < n) : ((List.range n).map f).getD j (0, 1) = f j := by
  simp [List.getD_eq_getElem?_getD, h]
theorem pairs_off {ps : List (Int × Int)} {j : Nat} (h : ps.length ≤ j) : ps.getD j (0, 1) = (0, 1) := by
  rw [List.getD_eq_getElem?_getD, List.getElem?_eq_none h]; rfl
theorem intP_length (ps : List (Int × Int)) : (intP ps).length = ps.length + 1 := by simp [intP]
theorem intN_length (ps : List (Int × Int)) : ∀ n : Nat, (intN ps n).length = ps.length + n
  | 0 => rfl
  | n + 1 => by rw [intN, intP_length, intN_length ps n]; rfl
theorem intP_get {ps : List (Int × Int)} {j : Nat} (h : j < ps.length) : (intP ps).getD (j + 1) (0, 1) = ((ps.getD j (0, 1)).1, (ps.getD j (0, 1)).2 * ((j : Int) + 1)) := by
  rw [intP, List.getD_cons_succ, pairs_get _ h, Int.mul_one, show (0 + (j : Int)).toNat = j by lia, show (0 + (j : Int) + 1) = (j : Int) + 1 by lia]
/-- what an integral's number is -/
theorem intN_get {ys : List Int} : ∀ (n j : Nat), n ≤ 3 → ys.length ≤ 6 → j < ys.length + n →
    0 < ((intN (ov 1 ys) n).getD j (0, 1)).2 ∧ ((intN (ov 1 ys) n).getD j (0, 1)).2 ≤ 9 ^ n ∧ (j < n → ((intN (ov 1 ys) n).getD j (0, 1)).1 = 0) ∧ (n ≤ j → ((intN (ov 1 ys) n).getD j (0, 1)).1 = ys.getD (j - n) 0 ∧ ((intN (ov 1 ys) n).getD j (0, 1)).2 = stepS ((j - n : Nat) : Int) n)
  | 0, j, _, _, h => by
    rw [intN, ov_get (by lia)]
    exact ⟨(show (0 : Int) < 1 by decide), (show (1 : Int) ≤ 9 ^ 0 by decide), fun h => absurd h (by lia), fun _ => ⟨rfl, rfl⟩⟩
  | n + 1, 0, _, _, _ => by
    rw [intN]
    have e : (intP (intN (ov 1 ys) n)).getD 0 (0, 1) = (0, 1) := rfl
    rw [e]
    refine ⟨by decide, ?_, fun _ => rfl, fun h => absurd h (by lia)⟩
    show (1 : Int) ≤ 9 ^ (n + 1)
    obtain rfl | rfl | rfl : n = 0 ∨ n = 1 ∨ n = 2 := by lia
    all_goals decide
  | n + 1, j + 1, hn, hl, h => by
    obtain ⟨h1, h2, h3, h4⟩ := intN_get (ys := ys) n j (by lia) hl (by lia)
    rw [intN, intP_get (by rw [intN_length, ov_length]; lia)]
    dsimp only
    refine ⟨Int.mul_pos h1 (by lia), ?_, fun hj => h3 (by lia), fun hj => ?_⟩
    · rw [Int.pow_succ]
      exact Int.mul_le_mul h2 (by lia) (by lia) (by lia)
    · obtain ⟨h5, h6⟩ := h4 (by lia)
      rw [h5, h6, show j + 1 - (n + 1) = j - n by lia, stepS]
      refine ⟨rfl, ?_⟩
      congr 1
      lia
theorem derP_length (ps : List (Int × Int)) : (derP ps).length = ps.length - 1 := by rw [derP, List.length_map, List.length_range]
theorem derN_length (ps : List (Int × Int)) : ∀ n : Nat, (derN ps n).length = ps.length - n
  | 0 => rfl
  | n + 1 => by rw [derN, derP_length, derN_length ps n]; lia
theorem derP_get {ps : List (Int × Int)} {j : Nat} (h : j + 1 < ps.length) : (derP ps).getD j (0, 1) = ((1 + (j : Int)) * (ps.getD (j + 1) (0, 1)).1, (ps.getD (j + 1) (0, 1)).2) := by
  rw [derP, pairs_get _ (by lia), Int.one_mul, show (1 + (j : Int)).toNat = j + 1 by lia]
theorem derN_get {ps : List (Int × Int)} : ∀ (k j : Nat), j + k < ps.length → (derN ps k).getD j (0, 1) = (stepS (j : Int) k * (ps.getD (j + k) (0, 1)).1, (ps.getD (j + k) (0, 1)).2)
  | 0, j, _ => by rw [derN, stepS, Int.one_mul]; rfl
  | k + 1, j, h => by
    rw [derN, derP_get (by rw [derN_length]; lia), derN_get k (j + 1) (by lia), stepS_left, show j + 1 + k = j + (k + 1) by lia, show ((j + 1 : Nat) : Int) = 1 + (j : Int) by lia, Int.mul_assoc]
theorem map_red {ps qs : List (Int × Int)} (h : ps.length = qs.length) (k : ∀ j, j < ps.length → red (ps.getD j (0, 1)) = red (qs.getD j (0, 1))) : ps.map red = qs.map red := by
  apply List.ext_getElem
  · rw [List.length_map, List.length_map, h]
  · intro i h1 h2
    rw [List.length_map] at h1 h2
    have := k i h1
    rw [List.getD_eq_getElem?_getD, List.getD_eq_getElem?_getD, List.getElem?_eq_getElem h1, List.getElem?_eq_getElem h2] at this
    simpa using this
theorem nine {n : Nat} (h : n ≤ 3) : (9 : Int) ^ n ≤ 729 := by
  obtain rfl | rfl | rfl | rfl : n = 0 ∨ n = 1 ∨ n = 2 ∨ n = 3 := by lia
  all_goals decide
theorem pl7 {sz n : Int} {one : List Int} (n0 : 1 ≤ n) (n3 : n ≤ 3) (s5 : 5 ≤ sz) (s6 : sz ≤ 6) (hl : (one.length : Int) = sz) (h1 : Le 3 one) : Pl7 sz n one := by
  subst hl
  obtain ⟨k, rfl⟩ : ∃ k : Nat, n = k := Int.eq_ofNat_of_zero_le (Int.le_trans (by decide) n0)
  have k3 : k ≤ 3 := by clear s5 s6; lia
  have l6 : one.length ≤ 6 := by clear n0 n3 k3 s5; lia
  have l5 : 5 ≤ one.length := by clear n0 n3 k3 s6; lia
  have es : ((one.length : Int) - 0).toNat = one.length := by rw [Int.sub_zero, Int.toNat_natCast]
  clear n0 n3 s5 s6
  unfold Pl7
  rw [es, Int.toNat_natCast]
  have len : ∀ i : Nat, (intN (ov 1 one) i).length = one.length + i := fun i => by rw [intN_length, ov_length]
  have pos : ∀ i : Nat, i ≤ 3 → ∀ j, 0 < ((intN (ov 1 one) i).getD j (0, 1)).2 ∧ ((intN (ov 1 one) i).getD j (0, 1)).2 ≤ 729 ∧ -3 ≤ ((intN (ov 1 one) i).getD j (0, 1)).1 ∧ ((intN (ov 1 one) i).getD j (0, 1)).1 ≤ 3 := fun i hi j => by
    by_cases hj : j < one.length + i
    · obtain ⟨a1, a2, a3, a4⟩ := intN_get (ys := one) i j hi (by lia) hj
      have := nine hi
      refine ⟨a1, by lia, ?_⟩
      by_cases hij : j < i
      · rw [a3 hij]; decide
      · rw [(a4 (by lia)).1]; exact h1 _
    · rw [pairs_off (by rw [len]; lia)]; decide
  refine ⟨fun i hi => ⟨by rw [len]; lia, fun j => (pos i (by lia) j).1, fun j hj => ?_, fun j => ?_⟩, ?_, fun j hj => ⟨by rw [derN_length, len]; lia, by rw [derN_length, len]; lia, fun i => ?_, fun i => ?_⟩, ?_⟩
  · rw [len] at hj
    have hj' : j < 20 := by lia
    have := pos i (by lia) (0 + (j : Int)).toNat
    have h2 := Int.mul_le_mul this.2.1 (show (0 + (j : Int) + 1) ≤ 20 by lia) (by lia) (by decide)
    lia
  · have := pos i (by lia) j
    exact ⟨by lia, by lia⟩
  · refine map_red (by rw [len, List.length_append, List.length_replicate, List.length_map, List.length_range]; lia) fun j hj => ?_
    rw [len] at hj
    obtain ⟨a1, a2, a3, a4⟩ := intN_get (ys := one) k j (by lia) (by lia) hj
    by_cases hjn : j < k
    · have e : (List.replicate k ((0 : Int), (1 : Int)) ++ (List.range one.length).map fun (j : Nat) => (one.getD (0 + (j : Int)).toNat 0, stepS (0 + (j : Int)) k)).getD j (0, 1) = (0, 1) := by
        rw [List.getD_eq_getElem?_getD, List.getElem?_append_left (by rw [List.length_replicate]; exact hjn)]
        simp [hjn]
      rw [e]
      refine red_of_cross a1 (by decide) ?_
      rw [a3 hjn]; simp
    · have e : (List.replicate k ((0 : Int), (1 : Int)) ++ (List.range one.length).map fun (j : Nat) => (one.getD (0 + (j : Int)).toNat 0, stepS (0 + (j : Int)) k)).getD j (0, 1) = (one.getD (j - k) 0, stepS ((j - k : Nat) : Int) k) := by
        rw [List.getD_eq_getElem?_getD, List.getElem?_append_right (by rw [List.length_replicate]; lia), List.length_replicate, ← List.getD_eq_getElem?_getD, pairs_get _ (by lia)]
        rw [show (0 + ((j - k : Nat) : Int)) = ((j - k : Nat) : Int) by lia]
        rfl
      rw [e]
      obtain ⟨a5, a6⟩ := a4 (by lia)
      rw [← a5, ← a6]
  · by_cases hi : i + j < (intN (ov 1 one) k).length
    · rw [derN_get j i hi]; exact (pos k (by lia) _).1
    · rw [pairs_off (by rw [derN_length]; lia)]; decide
  · by_cases hi : i + j < (intN (ov 1 one) k).length
    · rw [derN_get j i hi]
      have := pos k (by lia) (i + j)
      dsimp only
      lia
    · rw [pairs_off (by rw [derN_length]; lia)]; decide
  · refine map_red (by rw [derN_length, len, ov_length]; lia) fun j hj => ?_
    rw [derN_length, len] at hj
    have hj' : j < one.length := by lia
    obtain ⟨a1, a2, a3, a4⟩ := intN_get (ys := one) k (j + k) (by lia) (by lia) (by lia)
    obtain ⟨a5, a6⟩ := a4 (by lia)
    rw [derN_get _ _ (by rw [len]; lia), ov_get hj']
    refine red_of_cross a1 (show (0 : Int) < 1 by decide) ?_
    dsimp only
    rw [a5, a6, show j + k - k = j by lia, Int.mul_one, Int.mul_comm]
theorem plain : Plain := fun sz n c one other s5 s6 n0 n3 c0 c3 hl hl₂ hb hb₂ => by
  have h1 : Le 3 one := Le.of_mem (by decide) fun z hz => by have := hb z hz; lia
  have h2 : Le 3 other := Le.of_mem (by decide) fun z hz => by have := hb₂ z hz; lia
  exact ⟨pl3 n3 (by lia) (by lia) (by lia) (by lia), pl4 n0 n3 s5 s6 hl hl₂ h1 h2, pl5 n0 n3 s5 s6 hl hl₂ h1 h2, pl6 n0 n3 s5 s6 c0 c3 hl h1, pl7 n0 n3 s5 s6 hl h1⟩
end Mine

theorem PySem.Challenge.cw_tk0030_01_holds : PySem.Challenge.rw_tk0030_01.Holds := by
  exact Mine.top0 Mine.plain
