import PyProof.Rows.All
import Wide.All
import OpenK.AllK
import Wide.FinOn
import PyProof.CollectIter
import PyProof.JoinWalk
import PyProof.AssignAttr
import PyProof.DictUpdate
import PySem.Challenge.RW_sa0151_01

section
open PySem PySem.W PyProof.Rows
set_option Elab.async false
set_option maxRecDepth 100000
set_option maxHeartbeats 8000000
namespace Mine
def seq9 (a : Array Lean.Syntax) : Lean.Syntax := .node .none ``Lean.Parser.Tactic.tacticSeq #[.node .none ``Lean.Parser.Tactic.tacticSeq1Indented #[.node .none `null a]]
def just9 : Lean.Syntax := .node .none ``Lean.Parser.Tactic.tacticRfl #[.atom .none "rfl"]
def name9 (s : String) (n : Lean.Name) : Lean.Syntax := .ident .none s.toRawSubstring n []
def exact9 (s : Lean.Syntax) : Lean.Syntax := seq9 #[.node .none ``Lean.Parser.Tactic.exact #[.atom .none "exact", s]]
def intros9 (s : Lean.Syntax) : Lean.Syntax := seq9 #[.node .none ``Lean.Parser.Tactic.intros #[.atom .none "intros", .node .none `null #[]], .atom .none ";", s]
def conf9 (k : Lean.Name) (w : String) (a : Array Lean.Syntax) : Lean.Syntax := seq9 #[.node .none k #[.atom .none w, .node .none ``Lean.Parser.Tactic.optConfig #[.node .none `null a]]]
def rfl9 : Lean.Syntax := seq9 #[just9]
def irfl9 : Lean.Syntax := intros9 just9
def unf9 : Lean.Syntax := intros9 (.node .none ``Lean.Parser.Tactic.withUnfoldingAll #[.atom .none "with_unfolding_all", rfl9])
def krn9 : Lean.Syntax := seq9 #[.node .none `PyProof.Rows.tacticKernel_rfl! #[.atom .none "kernel_rfl!"]]
def some9 : Lean.Syntax := exact9 (.node .none ``Lean.Parser.Term.anonymousCtor #[.atom .none "⟨", .node .none `null #[.node .none ``Lean.Parser.Term.hole #[.atom .none "_"], .atom .none ",", name9 "rfl" `rfl], .atom .none "⟩"])
def ble9 : Lean.Syntax := exact9 (.node .none ``Lean.Parser.Term.app #[name9 "Nat.le_of_ble_eq_true" `Nat.le_of_ble_eq_true, .node .none `null #[name9 "rfl" `rfl]])
def dec9 : Lean.Syntax := conf9 ``Lean.Parser.Tactic.decide "decide" #[]
def deck9 : Lean.Syntax := conf9 ``Lean.Parser.Tactic.decide "decide" #[.node .none ``Lean.Parser.Tactic.configItem #[.node .none ``Lean.Parser.Tactic.posConfigItem #[.atom .none "+", name9 "kernel" `kernel]]]
def om9 : Lean.Syntax := conf9 ``Lean.Parser.Tactic.omega "omega" #[]
noncomputable def bd : List Stmt := (Program.main PySem.Challenge.pw_sa0151_01).body
noncomputable def bd2 : List Stmt := List.append (List.take 1 bd) (List.append (List.take 1 (List.drop 2 bd)) (List.append (List.take 9 (List.drop 4 bd)) (List.append (List.take 11 (List.drop 14 bd)) (List.append (List.take 3 (List.drop 26 bd)) (List.drop 30 bd)))))
noncomputable def vw : Program := { PySem.Challenge.pw_sa0151_01 with main := { Program.main PySem.Challenge.pw_sa0151_01 with body := bd2 } }
theorem said_ok : PySem.W.OpenLaw.wellSaid PySem.Challenge.rw_sa0151_01 = true := by
  rewrite [PySem.W.Fast.te9446332074065402090]
  kernel_rfl
local macro_rules | `(tactic| o_law) => `(tactic| (refine holds_law (l := PySem.Challenge.rw_sa0151_01) Mine.said_ok fun said => ?_))
noncomputable abbrev xt9 (s : Shared) : Bool := xlAt vw [] s && recOk (RowW.records (OpenRow.toRowW PySem.Challenge.rw_sa0151_01.row)) s
theorem hx9 : ∀ s, xt9 s = true → XL vw [] (s.heap.nsMap mainGlobals) s.heap := fun s e => xl_of s (Bool.and_eq_true_iff.mp e).1
theorem hr9 : ∀ s, xt9 s = true → RecFacts (RowW.records (OpenRow.toRowW PySem.Challenge.rw_sa0151_01.row)) s.heap := fun s e => recFacts_of (Bool.and_eq_true_iff.mp e).2
theorem hs9 : PySem.Challenge.rw_sa0151_01.row.wellSaid = true := by first | assumption | decide +kernel
theorem ho9 : (chainsOk vw && opensWell PySem.Challenge.rw_sa0151_01.row.prog && (frees PySem.Challenge.rw_sa0151_01.row.toRowW && PySem.Challenge.rw_sa0151_01.row.within.isEmpty)) = true := by decide +kernel
theorem hb9 : PySem.Challenge.rw_sa0151_01.row.prog.bare := ⟨rfl, rfl, rfl, rfl, rfl, by decide +kernel⟩
theorem holds9 (H : Hook) {d : DefRec} {kwd : List (Str × Expr)} (hl : LeftO PySem.Challenge.rw_sa0151_01.row.prog vw [Str.ofString "LinkFault"] xt9 H.obs H.val 5154) (hdef : defOf vw PySem.Challenge.rw_sa0151_01.row.name = some (d, kwd))
    (hp : PySem.Challenge.rw_sa0151_01.row.prog.theDef PySem.Challenge.rw_sa0151_01.row.name = some (d.params, d.body, d.scope)) (hk : kwWritten? d.params.kwonlyargs d.params.kw_defaults = some kwd) (hw : PySem.Challenge.rw_sa0151_01.row.toRowW.promised)
    (hc : WalkO vw [Str.ofString "LinkFault"] (XL vw []) H.says PySem.Challenge.rw_sa0151_01.row.toRowW d kwd fun f vs => PySem.call f vs) : PySem.Challenge.rw_sa0151_01.row.Holds :=
  holds_open hl H.of H.keeps hx9 XL.keeps hdef hp hk hr9 (by rfl) hs9 ho9 hb9 hw hc
local macro_rules | `(tactic| o_head $H) => `(tactic| (
  refine Mine.holds9 $H ?hl (by rfl) (by rfl) (by rfl) ?hw ?hc
  (case hl => (intro w; delta openEnds fencedOpening topFrom; rewrite [PySem.W.Fast.te4187177175401517315, PySem.W.Fast.te5923862056798008813, PySem.W.Fast.te2368527892694137696, PySem.W.Fast.te10274390034422433532, PySem.W.Fast.te14364793385576792824, PySem.W.Fast.te1435165496053646825, PySem.W.Fast.te14289696077712309145, PySem.W.Fast.te14082659384304107361, PySem.W.Fast.te8920871248978507458]; kernel_rfl))))
open_top hd for PySem.Challenge.rw_sa0151_01
theorem top_off : True := by
  w_top off
  exact trivial
end Mine
end

section
open PySem PySem.W PySem.Spec PySem.Calls PyProof.Rows
set_option Elab.async false
set_option maxRecDepth 100000
set_option maxHeartbeats 8000000
namespace Mine

noncomputable def Spec (w : World) (f : Addr) (dp0 un0 : Nat) (args : List Value) (news : List (Addr × Obj)) (post : Value → List (Addr × Obj) → Prop) : Prop :=
  ∀ (p : Program) (loose : List Str) (mean : ExcName → Option Value) (mg mb : Str → Option Value) (dp un : Nat) (gd : Option (List Code)) (cn : Str) (cs : Scope) (a : Addr) (ccd : Value) (cl : List (Str × Addr)) (outer : List Env) (A₀ : Around) (base h₀ : Heap) (L : Addr) (m : Str → Option Value) (s : Shared) (Q E : Value → Shared → Prop),
    Below A₀ base outer h₀ → Fr h₀ L s.heap m → (hd.heap_1 w.params).In h₀ → News h₀ L s.heap news → Top p loose mean mg mb h₀ → cs.kind = .function → dp + dp0 < recursionLimit → un + un0 < cLine →
    (∀ r news' h' tk', Fr h₀ L h' m → News h₀ L h' news' → post r news' → Q r { s with heap := h', toks := tk' }) →
    wpAny (model PySem.Challenge.rw_sa0151_01.row.prog w) (ktrTop dp un gd cn cs L a ccd cl outer) (call (.ref f) args) Q E s

theorem News.sub {h₀ h : Heap} {L : Addr} {news news' : List (Addr × Obj)} (N : News h₀ L h news) (hs : ∀ p ∈ news', p ∈ news) : News h₀ L h news' := fun p hp => N p (hs p hp)

theorem spec_use {w : World} {f : Addr} {dp0 un0 : Nat} {args : List Value} {news : List (Addr × Obj)} {post : Value → List (Addr × Obj) → Prop}
    {p : Program} {loose : List Str} {mean : ExcName → Option Value} {mg mb : Str → Option Value} {dp un : Nat} {gd : Option (List Code)} {cn : Str} {cs : Scope} {a : Addr} {ccd : Value} {cl : List (Str × Addr)} {outer : List Env} {A₀ : Around} {base h₀ : Heap} {L : Addr} {m : Str → Option Value} {s : Shared} {Q E : Value → Shared → Prop}
    (C : Spec w f dp0 un0 args news post) (B : Below A₀ base outer h₀) (F : Fr h₀ L s.heap m) (X : (hd.heap_1 w.params).In h₀) (N : News h₀ L s.heap news) (T : Top p loose mean mg mb h₀) (hk : cs.kind = .function) (hd : dp + dp0 < recursionLimit) (hu : un + un0 < cLine)
    (ret : ∀ r news' h' tk', Fr h₀ L h' m → News h₀ L h' news' → post r news' → Q r { s with heap := h', toks := tk' }) :
    wpAny (model PySem.Challenge.rw_sa0151_01.row.prog w) (ktrTop dp un gd cn cs L a ccd cl outer) (call (.ref f) args) Q E s :=
  C _ _ _ _ _ _ _ _ _ _ _ _ _ _ _ _ _ _ _ _ _ _ B F X N T hk hd hu ret

theorem Spec.conv {w : World} {f : Addr} {dp0 un0 dp1 un1 : Nat} {args : List Value} {news news₁ : List (Addr × Obj)} {post post₁ : Value → List (Addr × Obj) → Prop}
    (C : Spec w f dp0 un0 args news post) (hd : dp0 ≤ dp1) (hu : un0 ≤ un1) (hs : ∀ p ∈ news, p ∈ news₁) (hp : ∀ r n, post r n → ∃ n₁, post₁ r n₁ ∧ ∀ p ∈ n₁, p ∈ n) : Spec w f dp1 un1 args news₁ post₁ :=
  fun p loose mean mg mb dp un gd cn cs a ccd cl outer A₀ base h₀ L m s Q E B F X N T hk hd' hu' ret =>
    C p loose mean mg mb dp un gd cn cs a ccd cl outer A₀ base h₀ L m s Q E B F X (News.sub N hs) T hk (by omega) (by omega) fun r news' h' tk' F' N' q =>
      let ⟨n₁, q₁, hs₁⟩ := hp r news' q
      ret r n₁ h' tk' F' (News.sub N' hs₁) q₁

theorem allLt_ne {d : Nat} {l : List (Addr × Obj)} (h : AllLt d l) : ∀ p ∈ l, p.1 ≠ d := fun p hp => by
  have := tb_ltOf h p hp
  exact Nat.ne_of_lt this

noncomputable abbrev tupOf (vs : List Value) : Obj := { cls := .type "tuple", data := .seq vs.toArray }

noncomputable def Above (tl news : List (Addr × Obj)) : Prop := ∀ p ∈ tl, ∀ q ∈ news, q.1 < p.1
theorem fill : True ∨ (PySem.Challenge.rw_sa0151_01 = PySem.Challenge.rw_sa0151_01 ∧ hd.heap_1 = hd.heap_1) := by
  k_fill
  exact .inl trivial
end Mine
end

section
open PySem PySem.W PySem.Spec PySem.Calls PyProof.Rows
set_option Elab.async false
namespace Mine

set_option genInjectivity false in
set_option genSizeOf false in
structure Reg where
  y : Bool
  n : Int
noncomputable def Reg.nm (r : Reg) : Str := if r.y then Str.ofString "y" else Str.ofString "x"
noncomputable def Reg.ok (r : Reg) : Prop := 1 ≤ r.n ∧ r.n ≤ 5

set_option genInjectivity false in
set_option genSizeOf false in
inductive Op where
  | reg (r : Reg)
  | int (i : Int)
  | con (i : Int)

set_option genInjectivity false in
set_option genSizeOf false in
inductive Row where
  | getList (h : Int) | getStructure (h : Int)
  | getVariable (r : Reg) (h : Int) | getValue (r : Reg) (h : Int) | getConstant (h : Int)
  | putValue (r : Reg) (h : Int) | putUnsafe (h : Int) | putVariable (r : Reg) (h : Int) | putConstant (h : Int)
  | putList (h : Int) | putStructure (h : Int) | putVoid (h : Int)
  | cutTo (r : Reg) | mark (r : Reg) | getLevel (r : Reg)
  | call (f : Int) (c : Int) | builtin (f : Int) | execute (f : Int)
  | allocate | neckCut | deallocate | proceed
  | famValue (g : Bool) (r : Reg) | famLocal (g : Bool) (r : Reg) | famVariable (g : Bool) (r : Reg) | famVoid (g : Bool) (n : Int) | famConstant (g : Bool)

noncomputable def X (h : Int) : Reg := ⟨false, h⟩
noncomputable def famPre (g : Bool) : String := if g then "unify_" else "set_"

noncomputable def Row.name : Row → Str
  | .getList _ => Str.ofString "get_list" | .getStructure _ => Str.ofString "get_structure"
  | .getVariable .. => Str.ofString "get_variable" | .getValue .. => Str.ofString "get_value" | .getConstant _ => Str.ofString "get_constant"
  | .putValue .. => Str.ofString "put_value" | .putUnsafe _ => Str.ofString "put_unsafe_value" | .putVariable .. => Str.ofString "put_variable" | .putConstant _ => Str.ofString "put_constant"
  | .putList _ => Str.ofString "put_list" | .putStructure _ => Str.ofString "put_structure" | .putVoid _ => Str.ofString "put_void"
  | .cutTo _ => Str.ofString "cut_to" | .mark _ => Str.ofString "mark" | .getLevel _ => Str.ofString "get_level"
  | .call .. => Str.ofString "call" | .builtin _ => Str.ofString "builtin" | .execute _ => Str.ofString "execute"
  | .allocate => Str.ofString "allocate" | .neckCut => Str.ofString "neck_cut" | .deallocate => Str.ofString "deallocate" | .proceed => Str.ofString "proceed"
  | .famValue true _ => Str.ofString "unify_value" | .famValue false _ => Str.ofString "set_value"
  | .famLocal true _ => Str.ofString "unify_local_value" | .famLocal false _ => Str.ofString "set_local_value"
  | .famVariable true _ => Str.ofString "unify_variable" | .famVariable false _ => Str.ofString "set_variable"
  | .famVoid true _ => Str.ofString "unify_void" | .famVoid false _ => Str.ofString "set_void"
  | .famConstant true => Str.ofString "unify_constant" | .famConstant false => Str.ofString "set_constant"

noncomputable def Row.ops : Row → List Op
  | .getList h => [.reg (X h)] | .getStructure h => [.int 0, .reg (X h)]
  | .getVariable r h => [.reg r, .reg (X h)] | .getValue r h => [.reg r, .reg (X h)] | .getConstant h => [.con 8, .reg (X h)]
  | .putValue r h => [.reg r, .reg (X h)] | .putUnsafe h => [.reg ⟨true, 1⟩, .reg (X h)] | .putVariable r h => [.reg r, .reg (X h)] | .putConstant h => [.con 8, .reg (X h)]
  | .putList h => [.reg (X h)] | .putStructure h => [.int 0, .reg (X h)] | .putVoid h => [.reg (X h)]
  | .cutTo r => [.reg r] | .mark r => [.reg r] | .getLevel r => [.reg r]
  | .call f c => [.int f, .int c] | .builtin f => [.int f] | .execute f => [.int f]
  | .allocate => [.int 3] | .neckCut => [] | .deallocate => [] | .proceed => []
  | .famValue _ r => [.reg r] | .famLocal _ r => [.reg r] | .famVariable _ r => [.reg r] | .famVoid _ n => [.int n] | .famConstant _ => [.con 3]

/-- the heap's facts of immutable data -/
noncomputable abbrev Led := List (Addr × Obj)
noncomputable def RegAt (L : Led) (v : Value) (r : Reg) : Prop := ∃ a t1 t2, v = .ref a ∧ (a, tupOf [.str r.nm t1, .int r.n t2]) ∈ L ∧ r.ok
noncomputable def OpAt (L : Led) (v : Value) : Op → Prop
  | .reg r => RegAt L v r
  | .int i => ∃ t, v = .int i t
  | .con i => ∃ a t1 t2, v = .ref a ∧ (a, tupOf [.int 5 t1, .int i t2]) ∈ L
inductive OpsAt (L : Led) : List Value → List Op → Prop
  | nil : OpsAt L [] []
  | cons {v vs o os} : OpAt L v o → OpsAt L vs os → OpsAt L (v :: vs) (o :: os)
noncomputable def RowAt (L : Led) (v : Value) (r : Row) : Prop := ∃ a t vs, v = .ref a ∧ (a, tupOf (.str r.name t :: vs)) ∈ L ∧ OpsAt L vs r.ops
inductive RowsAt (L : Led) : List Value → List Row → Prop
  | nil : RowsAt L [] []
  | cons {v vs r rs} : RowAt L v r → RowsAt L vs rs → RowsAt L (v :: vs) (r :: rs)
noncomputable def PairAt (L : Led) (v : Value) (rs : List Row) : Prop := ∃ a vs n, v = .ref a ∧ (a, listOf vs.toArray n) ∈ L ∧ RowsAt L vs rs
inductive PairsAt (L : Led) : List Value → List (List Row) → Prop
  | nil : PairsAt L [] []
  | cons {v vs r rs} : PairAt L v r → PairsAt L vs rs → PairsAt L (v :: vs) (r :: rs)

theorem RegAt.mono {L L' : Led} {v r} (hs : ∀ p ∈ L, p ∈ L') : RegAt L v r → RegAt L' v r := fun ⟨a, t1, t2, e, m, k⟩ => ⟨a, t1, t2, e, hs _ m, k⟩
theorem OpAt.mono {L L' : Led} {v o} (hs : ∀ p ∈ L, p ∈ L') (h : OpAt L v o) : OpAt L' v o := by
  cases o with
  | reg r => exact RegAt.mono hs h
  | int i => exact h
  | con i => obtain ⟨a, t1, t2, e, m⟩ := h; exact ⟨a, t1, t2, e, hs _ m⟩
theorem OpsAt.mono {L L' : Led} {vs os} (hs : ∀ p ∈ L, p ∈ L') (h : OpsAt L vs os) : OpsAt L' vs os := by
  induction h with
  | nil => exact .nil
  | cons h _ ih => exact .cons (h.mono hs) ih
theorem RowAt.mono {L L' : Led} {v r} (hs : ∀ p ∈ L, p ∈ L') : RowAt L v r → RowAt L' v r := fun ⟨a, t, vs, e, m, k⟩ => ⟨a, t, vs, e, hs _ m, k.mono hs⟩
theorem RowsAt.mono {L L' : Led} {vs os} (hs : ∀ p ∈ L, p ∈ L') (h : RowsAt L vs os) : RowsAt L' vs os := by
  induction h with
  | nil => exact .nil
  | cons h _ ih => exact .cons (h.mono hs) ih
theorem PairAt.mono {L L' : Led} {v r} (hs : ∀ p ∈ L, p ∈ L') : PairAt L v r → PairAt L' v r := fun ⟨a, vs, n, e, m, k⟩ => ⟨a, vs, n, e, hs _ m, k.mono hs⟩
theorem PairsAt.mono {L L' : Led} {vs os} (hs : ∀ p ∈ L, p ∈ L') (h : PairsAt L vs os) : PairsAt L' vs os := by
  induction h with
  | nil => exact .nil
  | cons h _ ih => exact .cons (h.mono hs) ih

/-- what the law draws: the row, and the rows beside it -/
inductive Pair : List Row → Prop
  | famV (g r) : r.ok → Pair [.famValue g r, .famLocal g r]
  | famX (g r) : r.ok → Pair [.famVariable g r, .famVariable g r]
  | famN (g) (n : Nat) : 1 ≤ n → n ≤ 3 → Pair (.famVoid g n :: List.replicate n (.famConstant g))
  | k0 (h) : Pair [.getList h, .getStructure h]
  | k1 (r h) : Pair [.getVariable r h, .cutTo (X h), .mark r]
  | k2 (r h) : Pair [.putValue r h, .cutTo r, .putVoid h]
  | k3 (h) : Pair [.putList h, .putStructure h]
  | k4 (r h) : Pair [.putVariable r h, .getLevel r, .putConstant h]
  | k5 (r h) : Pair [.getValue r h, .getConstant h, .cutTo r]
  | k6 (c) : 0 ≤ c → c ≤ 3 → Pair [.call 32 c, .builtin 32, .call 21 c]
  | k7 : Pair [.allocate, .neckCut, .allocate]
  | k8 : Pair [.deallocate, .deallocate, .builtin 21]
  | k9 (h) : Pair [.putUnsafe h, .putValue ⟨true, 1⟩ h]
  | k10 (r) : Pair [.mark r, .getLevel r]
  | k11 : Pair [.execute 32, .builtin 32, .execute 21]
  | k12 (h) : Pair [.cutTo (X h), .getValue (X h) h]
  | last : Pair [.proceed, .execute 21]
/-- the text that clause_fault gives back -/
noncomputable def ToldAt (told : Str) : Option Nat → Prop
  | none => told = Str.ofString ""
  | some n => ∃ fl, told = Str.empty ++ Str.ofString (toString (n : Int)) ++ Str.ofString ": " ++ fl ∧ fl.length ≤ 100
end Mine
end

section
open PySem PySem.W PySem.Spec PySem.Calls PyProof.Rows
set_option Elab.async false
namespace Mine
noncomputable abbrev ckEs (P : Params) (k : Nat → Tok) (sy xs ys sz du fm bl en fl : Value) : List DictEntry :=
  [⟨PyData.keyHash P (Str.ofString "symbols"), .str (Str.ofString "symbols") (k 0), sy⟩,
   ⟨PyData.keyHash P (Str.ofString "xs"), .str (Str.ofString "xs") (k 1), xs⟩,
   ⟨PyData.keyHash P (Str.ofString "ys"), .str (Str.ofString "ys") (k 2), ys⟩,
   ⟨PyData.keyHash P (Str.ofString "size"), .str (Str.ofString "size") (k 3), sz⟩,
   ⟨PyData.keyHash P (Str.ofString "due"), .str (Str.ofString "due") (k 4), du⟩,
   ⟨PyData.keyHash P (Str.ofString "family"), .str (Str.ofString "family") (k 5), fm⟩,
   ⟨PyData.keyHash P (Str.ofString "building"), .str (Str.ofString "building") (k 6), bl⟩,
   ⟨PyData.keyHash P (Str.ofString "ended"), .str (Str.ofString "ended") (k 7), en⟩,
   ⟨PyData.keyHash P (Str.ofString "fault"), .str (Str.ofString "fault") (k 8), fl⟩]
noncomputable abbrev ckObj (P : Params) (k : Nat → Tok) (sy xs ys sz du fm bl en fl : Value) : Obj := dictOf (ckEs P k sy xs ys sz du fm bl en fl) 9
end Mine
end

section
open PySem PySem.W PySem.Spec PySem.Calls PyProof.Rows PyProof.V
set_option Elab.async false
namespace Mine
noncomputable abbrev kvL (ks : List Int) : List (Int × Value) := ks.map fun k => (k, Value.bool true)
noncomputable abbrev dL (ks : List Int) : List (PyData × PyData) := ks.map fun k => (PyData.int k, PyData.bool true)
noncomputable def ins (ks : List Int) (i : Int) : List Int := if i ∈ ks then ks else ks ++ [i]
theorem flatL : ∀ ks : List Int, FlatPairs PyData.int (kvL ks) (dL ks)
  | [] => .nil
  | _ :: r => .cons (Flat.bool true) (flatL r)
theorem lookupL (i : Int) : ∀ ks : List Int, (PySem.Spec.lookup (.int i) (dL ks)).isSome = decide (i ∈ ks)
  | [] => by simp [PySem.Spec.lookup]
  | k :: r => by
    have ih := lookupL i r
    simp only [dL, List.map_cons, PySem.Spec.lookup, PySem.Spec.same] at ih ⊢
    by_cases h : i = k
    · subst h; simp [PySem.Spec.lookup, PySem.Spec.same]
    · have h' : ¬ k = i := fun e => h e.symm
      simp [PySem.Spec.lookup, PySem.Spec.same, h, h'] at ih ⊢
      first | exact ih | (rw [ih])
theorem storedL (i : Int) (ks : List Int) : stored (kvL ks) i (.bool true) = kvL (ins ks i) := by
  unfold stored ins
  by_cases h : i ∈ ks
  · rw [if_pos h, if_pos (by simp only [List.any_eq_true]; exact ⟨(i, .bool true), List.mem_map_of_mem h, by simp⟩)]
    unfold kvL
    rw [List.map_map]
    apply List.map_congr_left
    intro k _
    by_cases e : k = i
    · subst e; simp
    · simp [e]
  · rw [if_neg h, if_neg (by
      intro q
      obtain ⟨p, hp, e⟩ := List.any_eq_true.mp q
      obtain ⟨k, hk, rfl⟩ := List.mem_map.mp hp
      have : k = i := by simpa using e
      exact h (this ▸ hk))]
    simp [kvL]
section
variable {prog : Program} {w : World} {A : Around} {E : Value → Shared → Prop} {s : Shared} {h₀ : Heap} {L d : Addr} {m : Str → Option Value} {news : List (Addr × Obj)} {g : Obj → List (Addr × Obj)} {o : Obj} {ks : List Int} {i : Int} {t : Tok}
theorem notin_ks {Q : Value → Shared → Prop} (N : News h₀ L s.heap news) (hm : (d, o) ∈ news) (lo : (d == sysModules) = false) (hd : o.IsDictOf (intKind prog w) (kvL ks))
    (h : Q (.bool (decide (i ∉ ks))) { s with toks := s.toks + 1 }) : wpAny (model prog w) A (compareOp .NotIn (.int i t) (.ref d)) Q E s := by
  refine notin_intTab (D := dL ks) (TabAt.ofNews N hm lo hd (flatL ks)) ?_
  rw [lookupL]
  have : (!decide (i ∈ ks)) = decide (i ∉ ks) := by by_cases h : i ∈ ks <;> simp [h]
  rw [this]; exact h
theorem set_ks {Q : Unit → Shared → Prop} (F : Fr h₀ L s.heap m) (N : News h₀ L s.heap news) (U : UpdF d o news g) (hd : o.IsDictOf (intKind prog w) (kvL ks)) (hz : ks.length ≤ 1000)
    (h : ∀ h' o', Fr h₀ L h' m → News h₀ L h' (g o') → o'.IsDictOf (intKind prog w) (kvL (ins ks i)) → Q () { s with heap := h', toks := s.toks + 1 }) :
    wpAny (model prog w) A (setItem (.ref d) (.int i t) (.bool true)) Q E s :=
  setItem_K same_int (intKind_is _ _ _ _) (Flat.bool true) F N U hd (flatL ks) (fun h' o' F' N' hd' _ => h h' o' F' N' (storedL i ks ▸ hd')) (by rw [sizeLine_eq]; simp [dL]; omega)
end

set_option genSizeOf false in
structure CS where
  xs : List Int
  ys : List Int
  size : Int
  due : Int
  fam : Str
  bld : Int
  en : Bool
  bad : Bool

noncomputable abbrev PR := PySem.Challenge.rw_sa0151_01.row.prog
set_option genInjectivity false in
set_option genSizeOf false in
/-- the checker's objects, above the rest -/
structure CkD (w : World) (k : Nat → Tok) (sg dx : Addr) (S : CS) (rest : Led) where
  xa : Addr
  ya : Addr
  ox : Obj
  oy : Obj
  t1 : Tok
  t2 : Tok
  t3 : Tok
  t4 : Tok
  flt : Str
  t5 : Tok
  hflt : flt = Str.ofString "" ↔ S.bad = false
  hfl : flt.length ≤ 100
  hox : ox.IsDictOf (intKind PR w) (kvL S.xs)
  hoy : oy.IsDictOf (intKind PR w) (kvL S.ys)
  hlx : (xa == sysModules) = false
  hly : (ya == sysModules) = false
  hn1 : @Ne Nat dx xa
  hn2 : @Ne Nat dx ya
  hn3 : @Ne Nat xa ya
  hr1 : ∀ p ∈ rest, p.1 ≠ dx
  hr2 : ∀ p ∈ rest, p.1 ≠ xa
  hr3 : ∀ p ∈ rest, p.1 ≠ ya
noncomputable abbrev CkD.led {w : World} {k : Nat → Tok} {sg dx : Addr} {S : CS} {rest : Led} (D : CkD w k sg dx S rest) : Led :=
  (dx, ckObj w.params k (.ref sg) (.ref D.xa) (.ref D.ya) (.int S.size D.t1) (.int S.due D.t2) (.str S.fam D.t3) (.int S.bld D.t4) (.bool S.en) (.str D.flt D.t5)) :: (D.xa, D.ox) :: (D.ya, D.oy) :: rest
/-- the checker's objects on the ledger -/
noncomputable def Ck (w : World) (k : Nat → Tok) (sg dx : Addr) (S : CS) (rest news : Led) : Prop := ∃ D : CkD w k sg dx S rest, news = D.led

noncomputable def CS.ok (S : CS) : Prop := S.xs.length ≤ 1000 ∧ S.ys.length ≤ 1000

noncomputable def CS.complain (S : CS) : CS := { S with bad := true }
noncomputable def CS.read (S : CS) (r : Reg) : CS :=
  if r.y then (if S.size < r.n then S.complain else if r.n ∉ S.ys then S.complain else S)
  else (if r.n ∉ S.xs then S.complain else if r.n = S.bld then S.complain else S)
noncomputable def CS.write (S : CS) (r : Reg) : CS :=
  if r.y then (if S.size < r.n then S.complain else { S with ys := ins S.ys r.n })
  else { S with bld := if r.n = S.bld then 0 else S.bld, xs := ins S.xs r.n }
end Mine
namespace Mine
theorem CS.read_x (S : CS) (n : Int) : S.read ⟨false, n⟩ = if n ∉ S.xs then S.complain else if n = S.bld then S.complain else S := rfl
theorem CS.read_y (S : CS) (n : Int) : S.read ⟨true, n⟩ = if S.size < n then S.complain else if n ∉ S.ys then S.complain else S := rfl
theorem CS.write_x (S : CS) (n : Int) : S.write ⟨false, n⟩ = { S with bld := if n = S.bld then 0 else S.bld, xs := ins S.xs n } := rfl
theorem CS.write_y (S : CS) (n : Int) : S.write ⟨true, n⟩ = if S.size < n then S.complain else { S with ys := ins S.ys n } := rfl
theorem bad_iff {f : Str} (h : f ≠ Str.ofString "") : f = Str.ofString "" ↔ true = false := ⟨fun e => absurd e h, fun e => by cases e⟩
theorem Ck.mk' {w : World} {k : Nat → Tok} {sg dx : Addr} {S : CS} {rest : Led} {xa ya : Addr} {ox oy : Obj} {t1 t2 t3 t4 : Tok} {flt : Str} {t5 : Tok}
    (h1 : flt = Str.ofString "" ↔ S.bad = false) (h2 : flt.length ≤ 100)
    (hox : ox.IsDictOf (intKind PySem.Challenge.rw_sa0151_01.row.prog w) (kvL S.xs)) (hoy : oy.IsDictOf (intKind PySem.Challenge.rw_sa0151_01.row.prog w) (kvL S.ys)) (lx : (xa == sysModules) = false) (ly : (ya == sysModules) = false)
    (n1 : @Ne Nat dx xa) (n2 : @Ne Nat dx ya) (n3 : @Ne Nat xa ya) (r1 : ∀ p ∈ rest, p.1 ≠ dx) (r2 : ∀ p ∈ rest, p.1 ≠ xa) (r3 : ∀ p ∈ rest, p.1 ≠ ya) :
    Ck w k sg dx S rest ((dx, ckObj w.params k (.ref sg) (.ref xa) (.ref ya) (.int S.size t1) (.int S.due t2) (.str S.fam t3) (.int S.bld t4) (.bool S.en) (.str flt t5)) :: (xa, ox) :: (ya, oy) :: rest) :=
  ⟨⟨xa, ya, ox, oy, t1, t2, t3, t4, flt, t5, h1, h2, hox, hoy, lx, ly, n1, n2, n3, r1, r2, r3⟩, rfl⟩
end Mine
end

section
open PySem PySem.W PySem.Spec PySem.Calls PyProof.Rows PyProof.V
set_option Elab.async false
namespace Mine
noncomputable abbrev syEs (P : Params) (kt : Nat → Tok) (v1 v2 v3 v4 : Value) : List DictEntry :=
  [⟨PyData.keyHash P (Str.ofString "texts"), .str (Str.ofString "texts") (kt 0), v1⟩,
   ⟨PyData.keyHash P (Str.ofString "atom_numbers"), .str (Str.ofString "atom_numbers") (kt 1), v2⟩,
   ⟨PyData.keyHash P (Str.ofString "functors"), .str (Str.ofString "functors") (kt 2), v3⟩,
   ⟨PyData.keyHash P (Str.ofString "functor_numbers"), .str (Str.ofString "functor_numbers") (kt 3), v4⟩]
noncomputable def arF (f : Int) : Int := if f = 21 then 0 else 2
noncomputable def FOk (f : Int) : Prop := f = 0 ∨ f = 21 ∨ f = 32
structure SymAt (w : World) (sg : Addr) (rest : Led) : Prop where
  ex : ∃ ds fl kt v1 v2 v4 fs nf, (sg, instObj 162 ds) ∈ rest ∧ (ds, dictOf (syEs w.params kt v1 v2 (.ref fl) v4) 4) ∈ rest ∧ (fl, listOf (List.toArray fs) nf) ∈ rest ∧ fs.length = 33 ∧
    ∀ f, FOk f → ∃ t v tk, fs[f.toNat]? = some (.ref t) ∧ (t, tupOf [v, .int (arF f) tk]) ∈ rest
theorem SymAt.mono {w : World} {sg : Addr} {L L' : Led} (hs : ∀ p ∈ L, p ∈ L') (h : SymAt w sg L) : SymAt w sg L' := by
  obtain ⟨ds, fl, kt, v1, v2, v4, fs, nf, a, b, c, d, e⟩ := h.ex
  exact ⟨ds, fl, kt, v1, v2, v4, fs, nf, hs _ a, hs _ b, hs _ c, d, fun f hf => let ⟨t, v, tk, q1, q2⟩ := e f hf; ⟨t, v, tk, q1, hs _ q2⟩⟩
end Mine
namespace Mine
theorem arF0 : arF 0 = 2 := by decide
theorem arF21 : arF 21 = 0 := by decide
theorem arF32 : arF 32 = 2 := by decide
noncomputable def CS.args (S : CS) (f : Int) : CS := if f = 21 then S else if (1 : Int) ∉ S.xs then S.complain else if (2 : Int) ∉ S.xs then S.complain else S
noncomputable def CS.opens (S : CS) (fam : Str) : CS := { S with due := 2, fam := fam }
theorem CS.args_21 (S : CS) : S.args 21 = S := by unfold CS.args; simp
theorem CS.args_32 (S : CS) : S.args 32 = if (1 : Int) ∉ S.xs then S.complain else if (2 : Int) ∉ S.xs then S.complain else S := by unfold CS.args; simp
end Mine
end

section
open PySem PySem.W PySem.Spec PySem.Calls PyProof.Rows PyProof.V
set_option Elab.async false
namespace Mine
noncomputable def CS.lower (S : CS) (d : Int) : CS := if S.due - d = 0 then { S with due := S.due - d, bld := 0 } else { S with due := S.due - d }
noncomputable def CS.take (S : CS) (d : Int) : CS := if d < 1 ∨ S.due < d then S.complain.lower S.due else S.lower d
theorem CS.take_bad {S : CS} {d : Int} (h : d < 1 ∨ S.due < d) : S.take d = { S with bad := true, due := S.due - S.due, bld := 0 } := by
  unfold CS.take CS.lower
  rw [if_pos h]
  show (if S.due - S.due = 0 then _ else _) = _
  rw [if_pos (by omega)]; rfl
theorem CS.take_zero {S : CS} {d : Int} (h : ¬ (d < 1 ∨ S.due < d)) (h2 : S.due - d = 0) : S.take d = { S with due := S.due - d, bld := 0 } := by
  unfold CS.take CS.lower
  rw [if_neg h, if_pos h2]
theorem CS.take_more {S : CS} {d : Int} (h : ¬ (d < 1 ∨ S.due < d)) (h2 : ¬ S.due - d = 0) : S.take d = { S with due := S.due - d } := by
  unfold CS.take CS.lower
  rw [if_neg h, if_neg h2]
end Mine
end

section
open PySem PySem.W PySem.Spec PySem.Calls PyProof.Rows PyProof.V
set_option Elab.async false
namespace Mine
noncomputable def CS.left (S : CS) : CS := if 0 ≤ S.size then S.complain else S
noncomputable def CS.step0 (S : CS) : Row → CS
  | .getList h => (S.read (X h)).opens (Str.ofString "unify_")
  | .getStructure h => (S.read (X h)).opens (Str.ofString "unify_")
  | .getVariable r h => (S.read (X h)).write r
  | .getValue r h => (S.read (X h)).read r
  | .getConstant h => S.read (X h)
  | .putValue r h => (S.read r).write (X h)
  | .putUnsafe h => (S.read ⟨true, 1⟩).write (X h)
  | .putVariable r h => (S.write r).write (X h)
  | .putConstant h => S.write (X h)
  | .putVoid h => S.write (X h)
  | .putList h => { (S.write (X h)).opens (Str.ofString "set_") with bld := h }
  | .putStructure h => { (S.write (X h)).opens (Str.ofString "set_") with bld := h }
  | .cutTo r => S.read r
  | .mark r => S.write r
  | .getLevel r => S.write r
  | .builtin f => S.args f
  | .execute f => { S.left.args f with en := true }
  | .proceed => { S.left with en := true }
  | .allocate => { S.left with size := 3 }
  | .deallocate => { (if S.size < 0 then S.complain else S) with size := -1, ys := [] }
  | .neckCut => S
  | .call f c =>
    let T := S.args f
    let U := if T.size < 0 then T.complain else if T.size < c then T.complain else T
    { U with xs := [], ys := U.ys.filter (fun i => decide (i ≤ c)) }
  | _ => S.complain
/-- a call, behind its look at the arguments -/
noncomputable def callT (T : CS) (c : Int) : CS :=
  let U := if T.size < 0 then T.complain else if T.size < c then T.complain else T
  { U with xs := [], ys := U.ys.filter (fun i => decide (i ≤ c)) }
/-- room for two more writes -/
noncomputable def CS.room (S : CS) : Prop := S.xs.length ≤ 50 ∧ S.ys.length ≤ 50
theorem ins_len (l : List Int) (i : Int) : (ins l i).length ≤ l.length + 1 := by unfold ins; split <;> simp
theorem read_xs (S : CS) (r : Reg) : (S.read r).xs = S.xs := by unfold CS.read CS.complain; (repeat' split) <;> rfl
theorem read_ys (S : CS) (r : Reg) : (S.read r).ys = S.ys := by unfold CS.read CS.complain; (repeat' split) <;> rfl
theorem write_xs (S : CS) (r : Reg) : (S.write r).xs.length ≤ S.xs.length + 1 := by
  unfold CS.write CS.complain; (repeat' split) <;> first | exact ins_len _ _ | exact Nat.le_succ _
theorem write_ys (S : CS) (r : Reg) : (S.write r).ys.length ≤ S.ys.length + 1 := by
  unfold CS.write CS.complain; (repeat' split) <;> first | exact ins_len _ _ | exact Nat.le_succ _
theorem CS.room.ok {S : CS} (h : S.room) : S.ok := ⟨by have := h.1; omega, by have := h.2; omega⟩
theorem CS.room.read {S : CS} (h : S.room) (r : Reg) : (S.read r).ok := ⟨by rw [read_xs]; exact h.ok.1, by rw [read_ys]; exact h.ok.2⟩
theorem CS.room.write {S : CS} (h : S.room) (r : Reg) : (S.write r).ok := ⟨by have := write_xs S r; have := h.1; omega, by have := write_ys S r; have := h.2; omega⟩
end Mine
namespace Mine
end Mine
namespace Mine
theorem news_rotY {h₀ h : Heap} {L : Addr} {a b c d : Addr × Obj} {rest : Led} (N : News h₀ L h (a :: b :: c :: d :: rest)) : News h₀ L h (b :: c :: a :: rest) := fun p hp => N p (by
  rcases List.mem_cons.mp hp with rfl | hp
  · exact .tail _ (.head _)
  · rcases List.mem_cons.mp hp with rfl | hp
    · exact .tail _ (.tail _ (.head _))
    · rcases List.mem_cons.mp hp with rfl | hp
      · exact .head _
      · exact .tail _ (.tail _ (.tail _ (.tail _ hp))))
theorem news_rotX {h₀ h : Heap} {L : Addr} {a b c d : Addr × Obj} {rest : Led} (N : News h₀ L h (a :: b :: c :: d :: rest)) : News h₀ L h (b :: a :: d :: rest) := fun p hp => N p (by
  rcases List.mem_cons.mp hp with rfl | hp
  · exact .tail _ (.head _)
  · rcases List.mem_cons.mp hp with rfl | hp
    · exact .head _
    · rcases List.mem_cons.mp hp with rfl | hp
      · exact .tail _ (.tail _ (.tail _ (.head _)))
      · exact .tail _ (.tail _ (.tail _ (.tail _ hp))))
end Mine
end

section
open PySem PySem.W PySem.Spec PySem.Calls PyProof.Rows PyProof.V
set_option Elab.async false
set_option maxRecDepth 100000
namespace Mine
section
variable {prog : Program} {w : World} {A : Around} {E : Value → Shared → Prop} {s : Shared} {env : Env} {h₀ : Heap} {x : Str} {body : List Stmt} {Q : Flow → Shared → Prop} {I : Addr} {lp : Addr × Obj}
theorem unr_mono {L : Addr} {s₁ : Shared} {it : Obj} {R R' : (Str → Option Value) → List (Addr × Obj) → Prop} (h : ∀ m n, R m n → R' m n) {f : Flow} {s₂ : Shared} (p : UnrPost h₀ L s₁ I it R Q f s₂) : UnrPost h₀ L s₁ I it R' Q f s₂ := by
  cases f with
  | ret v => exact p
  | brk => exact p
  | next => obtain ⟨h', tk, m', n', a, b, c, d, e⟩ := p; exact ⟨h', tk, m', n', a, b, c, d, h _ _ e⟩
  | cont => obtain ⟨h', tk, m', n', a, b, c, d, e⟩ := p; exact ⟨h', tk, m', n', a, b, c, d, h _ _ e⟩
theorem list_ind (J : List Value → (Str → Option Value) → Led → Prop)
    (zero : ∀ m nx, J [] m nx → ∀ h tk, Fr h₀ env.locals h m → News h₀ env.locals h nx → Q .next { s with heap := h, toks := tk })
    (succ : ∀ v r m nx, J (v :: r) m nx → ∀ it h tk, it.cls = .type "list_iterator" → Fr h₀ env.locals h (fun y => if y = x then some v else m y) → News h₀ env.locals h ((I, it) :: nx) →
      wpAny (model prog w) A (execs body env) (UnrPost h₀ env.locals { s with heap := h, toks := tk } I it (fun m' n' => lp ∈ n' ∧ J r m' n') Q) E { s with heap := h, toks := tk }) :
    ∀ vs m nx, J vs m nx → ListRest prog w A E h₀ env x body Q s I lp vs m nx
  | [], m, nx, hJ => zero m nx hJ
  | v :: r, m, nx, hJ => fun it h tk hc F N => wpAny_mono (succ v r m nx hJ it h tk hc F N) (fun _ _ p => unr_mono (fun m' n' q => ⟨q.1, list_ind J zero succ r m' n' q.2⟩) p) fun _ _ e => e
end
end Mine
end

section
open PySem PySem.W PySem.Spec PySem.Calls PyProof.Rows PyProof.V
set_option Elab.async false
set_option maxRecDepth 100000
namespace Mine
theorem ints_of : ∀ {vs : List Value} {ks : List Int}, vs.length = ks.length → (∀ (j : Nat) (v : Value), vs[j]? = some v → ∃ k t, ks[j]? = some k ∧ v = .int k t) → IntsAre vs ks
  | [], [], _, _ => .nil
  | [], _ :: _, h, _ => by simp at h
  | _ :: _, [], h, _ => by simp at h
  | v :: vs, k :: ks, h, hv => by
    obtain ⟨k', t, e, rfl⟩ := hv 0 v rfl
    have e' : k = k' := Option.some.inj e
    subst e'
    exact .cons k t (ints_of (by simpa using h) fun j v hj => hv (j + 1) v hj)
section
variable {prog : Program} {w : World} {A : Around} {E : Value → Shared → Prop} {s : Shared} {h₀ : Heap} {L d : Addr} {m : Str → Option Value} {news : List (Addr × Obj)} {o : Obj} {ks : List Int}
theorem sorted_ks {Q : Value → Shared → Prop} (hh : A.handled = none) (F : Fr h₀ L s.heap m) (N : News h₀ L s.heap news) (hm : (d, o) ∈ news) (lo : (d == sysModules) = false) (hd : o.IsDictOf (intKind prog w) (kvL ks)) (hn : ks.length ≤ 60)
    (h : ∀ B c h' tk vs ms, Fr h₀ L h' m → News h₀ L h' ((B, listOf (List.toArray vs) c) :: news) → (∀ q ∈ news, q.1 < B) → IntsAre vs ms → ms.Perm ks → Q (.ref B) { s with heap := h', toks := tk }) :
    wpAny (model prog w) A (call (.builtin "sorted") [.ref d]) Q E s := by
  have hD : s.heap.DictOf (intKind prog w) d (kvL ks) := Heap.dictOf_iff.mpr ⟨o, N.get hm, hd⟩
  obtain ⟨ep, hat⟩ := hD.dictAt
  have hlen : (kvL ks).length = ks.length := by simp [kvL]
  refine kdu_sorted (kdl_dict (knd := intKind prog w) (kvs := kvL ks) (ep := ep) lo) hh F N hat (by rw [hlen, sizeLine_eq]; omega) fun B h' tk vs F' N' l1 hl hv => ?_
  have hi : IntsAre vs ks := ints_of (by rw [hl, hlen]) fun j v hj => by
    obtain ⟨k, x, hx, hk⟩ := hv j v hj
    have h1 : ks[j]? = some k := by
      have : (kvL ks)[j]? = (ks[j]?).map fun k => (k, Value.bool true) := by simp [kvL]
      rw [this] at hx
      cases hq : ks[j]? with
      | none => rw [hq] at hx; cases hx
      | some k' => rw [hq] at hx; cases hx; rfl
    obtain ⟨t, ht⟩ := Flat.int_inv (kdl_flat_int hk)
    exact ⟨k, t, h1, ht⟩
  refine ksk_lsort (news' := fun o => (B, o) :: news) F' N' (fun o => Upd.head fun p hp => Nat.ne_of_lt (l1 p hp)) rfl hi (by omega) fun vs' ns' c h'' F'' N'' hi' _ hp _ _ => ?_
  exact h B c h'' tk vs' ns' F'' N'' l1 hi' hp
end
end Mine
end

section
open PySem PySem.W PySem.Spec PySem.Calls PyProof.Rows PyProof.V
set_option Elab.async false
set_option maxRecDepth 100000
namespace Mine
theorem withoutL (i : Int) (ks : List Int) : without (kvL ks) i = kvL (ks.filter (fun k => decide (k ≠ i))) := by
  unfold without kvL
  rw [List.filter_map]
  congr 1
section
variable {prog : Program} {w : World} {A : Around} {E : Value → Shared → Prop} {s : Shared} {h₀ : Heap} {L d : Addr} {m : Str → Option Value} {news : List (Addr × Obj)} {g : Obj → List (Addr × Obj)} {o : Obj} {ks : List Int} {i : Int} {t : Tok}
theorem del_ks {Q : Unit → Shared → Prop} (F : Fr h₀ L s.heap m) (N : News h₀ L s.heap news) (U : UpdF d o news g) (hd : o.IsDictOf (intKind prog w) (kvL ks)) (hm : i ∈ ks) (hz : ks.length ≤ 1000)
    (h : ∀ h' o', Fr h₀ L h' m → News h₀ L h' (g o') → o'.IsDictOf (intKind prog w) (kvL (ks.filter (fun k => decide (k ≠ i)))) → Q () { s with heap := h', toks := s.toks + 1 }) :
    wpAny (model prog w) A (delItem (.ref d) (.int i t)) Q E s :=
  kt_del_K same_int (intKind_is _ _ _ _) F N U hd (flatL ks) (by rw [lookupL]; exact decide_eq_true hm) (fun h' o' F' N' hd' _ => h h' o' F' N' (withoutL i ks ▸ hd')) (by rw [sizeLine_eq]; simp [dL]; omega)
end
section
variable {prog : Program} {w : World} {A : Around} {E : Value → Shared → Prop} {s : Shared} {env : Env} {h₀ : Heap} {x : Str} {body : List Stmt} {Q : Flow → Shared → Prop} {I : Addr}
end
end Mine
end

section
open PySem PySem.W PySem.Spec PySem.Calls PyProof.Rows PyProof.V
set_option Elab.async false
namespace Mine
theorem args_ys (S : CS) (f : Int) : (S.args f).ys = S.ys := by unfold CS.args CS.complain; (repeat' split) <;> rfl
end Mine
namespace Mine
end Mine
end

section
open PySem PySem.W PySem.Spec PySem.Calls PyProof.Rows PyProof.V
set_option Elab.async false
set_option maxRecDepth 100000
namespace Mine
section
variable {prog : Program} {w : World} {A : Around} {E : Value → Shared → Prop} {s : Shared} {env : Env} {h₀ : Heap} {x : Str} {body : List Stmt} {Q : Flow → Shared → Prop} {I : Addr} {lp : Addr × Obj}
theorem range_ind2 {a : Int} {n : Nat} (J : Nat → Nat → (Str → Option Value) → Led → Prop)
    (zero : ∀ i m nx, J 0 i m nx → ∀ h tk, Fr h₀ env.locals h m → News h₀ env.locals h nx → Q .next { s with heap := h, toks := tk })
    (succ : ∀ k i m nx, J (k + 1) i m nx → ∀ it t h tk, Fr h₀ env.locals h (fun y => if y = x then some (.int (a + (i : Nat)) t) else m y) → News h₀ env.locals h ((I, it) :: nx) →
      wpAny (model prog w) A (execs body env) (UnrPost h₀ env.locals { s with heap := h, toks := tk } I it (fun m' n' => J k (i + 1) m' n') Q) E { s with heap := h, toks := tk }) :
    ∀ k i m nx, J k i m nx → RangeRest prog w A E h₀ env x body Q s I a n k i m nx
  | 0, i, m, nx, hJ => zero i m nx hJ
  | k + 1, i, m, nx, hJ => fun t h tk F N => wpAny_mono (succ k i m nx hJ _ t h tk F N) (fun _ _ p => unr_mono (fun m' n' q => range_ind2 J zero succ k (i + 1) m' n' q) p) fun _ _ e => e
end
end Mine
end

section
open PySem PySem.W PySem.Spec PySem.Calls PyProof.Rows PyProof.V
set_option Elab.async false
namespace Mine
noncomputable def Row.fam? : Row → Option Bool
  | .famValue g _ => some g | .famLocal g _ => some g | .famVariable g _ => some g | .famVoid g _ => some g | .famConstant g => some g
  | _ => none
noncomputable def CS.structA (S : CS) : Row → CS
  | .famValue _ r => (S.read r).take 1 | .famLocal _ r => (S.read r).take 1 | .famVariable _ r => (S.write r).take 1 | .famVoid _ n => S.take n | .famConstant _ => S.take 1
  | _ => S
noncomputable def CS.step (S : CS) (row : Row) : CS :=
  if 0 < S.due then (match row.fam? with
    | some g => if S.fam = Str.ofString (famPre g) then S.structA row else S.complain
    | none => S.complain)
  else S.step0 row
noncomputable def Row.wf : Row → Prop
  | .call f _ => f = 21 ∨ f = 32
  | .builtin f => f = 21 ∨ f = 32
  | .execute f => f = 21 ∨ f = 32
  | _ => True
noncomputable def CS.famOk (S : CS) : Prop := 0 < S.due → ∃ g, S.fam = Str.ofString (famPre g)
theorem sw_none (row : Row) (g : Bool) (h : row.fam? = none) : Txt.startswith row.name (Str.ofString (famPre g)) = false := by
  cases row <;> first | (cases h; done) | (cases g <;> kernel_rfl!)
theorem sw_same (row : Row) (g : Bool) (h : row.fam? = some g) : Txt.startswith row.name (Str.ofString (famPre g)) = true := by
  cases row <;> first | (cases h; done) | (injection h with h; subst h; rename_i g _; cases g <;> kernel_rfl!) | (injection h with h; subst h; rename_i g; cases g <;> kernel_rfl!)
theorem sw_diff (row : Row) (g g' : Bool) (h : row.fam? = some g) (hn : g ≠ g') : Txt.startswith row.name (Str.ofString (famPre g')) = false := by
  cases row <;> first | (cases h; done) | (injection h with h; subst h; rename_i g1 _; cases g1 <;> cases g' <;> first | exact absurd rfl hn | kernel_rfl!) | (injection h with h; subst h; rename_i g1; cases g1 <;> cases g' <;> first | exact absurd rfl hn | kernel_rfl!)
end Mine
end

section
open PySem PySem.W PySem.Spec PySem.Calls PyProof.Rows PyProof.V
set_option Elab.async false
namespace Mine
noncomputable def CS.init (xs : List Int) : CS := { xs := xs, ys := [], size := -1, due := 0, fam := Str.ofString "", bld := 0, en := false, bad := false }
noncomputable def kOf (k0 k1 k2 k3 k4 k5 k6 k7 k8 : Tok) (i : Nat) : Tok := match i with | 0 => k0 | 1 => k1 | 2 => k2 | 3 => k3 | 4 => k4 | 5 => k5 | 6 => k6 | 7 => k7 | _ => k8
end Mine
end

section
open PySem PySem.W PySem.Spec PySem.Calls PyProof.Rows
open PySem.Builtin PySem.Builtin.Str
set_option Elab.async false
set_option maxRecDepth 100000
set_option maxHeartbeats 4000000
namespace Mine
theorem nolen_lr : typeLookup (.type "list_reverseiterator") "__len__" = pure none := by rw [typeLookup_type, builtinLookup_eq_fast]; kernel_rfl
theorem hint_lr : typeLookup (.type "list_reverseiterator") "__length_hint__" = pure (some (.builtin "list_reverseiterator.__length_hint__")) := by rw [typeLookup_type, builtinLookup_eq_fast]; kernel_rfl
section
variable {prog : Program} {w : World} {A : Around} {E : Value → Shared → Prop} {s : Shared} {I : Addr} {fp wr : List Addr} {G : Array GenState → Array GenState → Prop} {n : Nat} {P : Nat → Value → Prop} {St : Nat → Shared → Prop}
theorem collect_rev {Q : List Value → Shared → Prop}
    (W : WalksS prog w A.in1 I fp wr G n P St) (hT : ∀ i s, St i s → s.TypeIs (.ref I) "list_reverseiterator") (hst : St 0 s) (hfp : ∀ b ∈ fp, b < s.heap.objs.size) (hI : I ∈ fp) (hn : n ≤ sizeLine)
    (hQ : ∀ s' acc, Moved wr G s s' → ItemsOf P acc n → Q acc.toList s') : wpAny (model prog w) A (collect (.ref I)) Q E s := by
  have hF : s.heap.objs.size ∉ fp := fun hm => Nat.lt_irrefl _ (hfp _ hm)
  unfold collect
  refine wpAny_bind (wpAny_runValue (codeAny_builtin F.entry_proto_collect ?_))
  rw [Around.under_plainId F.plain_proto_collect _]
  show wpAny _ A.in1 (newList [] >>= fun l => again (.builtin "list.__iadd__" ⟨[l, .ref I], []⟩)) _ _ s
  refine wpAny_bind (wpAny_newObj_type (wpAny_pure ⟨plainId_quiet F.plain_list_iadd _, codeAny_builtin F.entry_list_iadd ?_⟩))
  rw [Around.under_plainId F.plain_list_iadd _]
  have st1 := W.frame 0 s (s.heap.push { cls := .type "list", data := .seq ([] : List Value).toArray }) s.toks hst (Nat.le_refl _) fun b _ o e => Heap.get?_push_of_some _ e
  have ho : (s.heap.push { cls := .type "list", data := .seq ([] : List Value).toArray }).get? s.heap.objs.size = some { cls := .type "list", data := .seq ([] : List Value).toArray } := Heap.get?_push_size _ rfl
  have hne : Builtin.List.listSameRef (.ref s.heap.objs.size) (.ref I) = false := by
    have : s.heap.objs.size ≠ I := fun e => hF (e ▸ hI)
    simp [Builtin.List.listSameRef, this]
  show wpAny _ A.in1 (Builtin.List.listExtendWith (.ref s.heap.objs.size) (.ref I) (.ref s.heap.objs.size)) _ _ _
  unfold Builtin.List.listExtendWith
  refine wpAny_bind (wpAny_typeOf (hT 0 _ st1) ?_)
  rw [if_neg (by rw [hne]; decide)]
  refine wpAny_bind (W.self 0 _ _ _ st1 (wpAny_bind (wpAny_holding ?_)))
  unfold Builtin.List.listLengthHint
  refine wpAny_bind (wpAny_specialOf (hT 0 _ st1) nolen_lr ?_)
  show wpAny _ A.in1 (specialOf (Value.ref I) (Str.ofString "__length_hint__") >>= _) _ _ _
  refine wpAny_bind (wpAny_specialOf (hT 0 _ st1) hint_lr ?_)
  (generalize hid : ("list_reverseiterator.__length_hint__" : String) = id0; (fail_if_success (clear hid id0)); wp_delta; rw [show splitId id0 = some ("list_reverseiterator", "__length_hint__") from by subst hid; decide +kernel]; subst hid)
  refine wpAny_bind (wpAny_isInstance (b := true) (hT 0 _ st1) (by rw [isSubtype_type]; kernel_rfl) (wpAny_pure ?_))
  rw [if_neg (by decide)]
  refine wpAny_pure ⟨plainId_quiet F.plain_extend_loop _, codeAny_extend_loopS W hn _ hF _ n 0 _ _ _ rfl (Nat.zero_le _) st1 ho (ItemsOf.nil P) fun s' acc c hm hs ha => ?_⟩
  show wpAny _ A (load s.heap.objs.size >>= _) _ _ s'
  exact wpAny_bind (wpAny_load hs (wpAny_pure (hQ s' acc (Moved.drop_new (o := { cls := .type "list", data := .seq ([] : List Value).toArray }) (tk := s.toks) hm (Nat.le_refl _)) ha)))
theorem join_rev1 {h₀ : Heap} {L l : Addr} {m : Str → Option Value} {rest : List (Addr × Obj)} {y x : Str} {u t : Tok} {k : Nat} {Q : Value → Shared → Prop} (hh : A.handled = none)
    (Fm : Fr h₀ L s.heap m) (N : News h₀ L s.heap ((I, revObj l 0) :: (l, listOf #[.str y u] k) :: rest)) (hne : l ≠ I) (hr : ∀ p ∈ rest, p.1 ≠ I) (hok : JoinOk x [y] = true)
    (h : ∀ h' t' tk', Fr h₀ L h' m → News h₀ L h' ((l, listOf #[.str y u] k) :: rest) → Q (.str (Txt.join x [y]) t') { s with heap := h', toks := tk' }) :
    wpAny (model prog w) A (call (.builtin "str.join") [.str x t, .ref I]) Q E s := by
  have N1 := N _ (.head _)
  have N2 := N _ (.tail _ (.head _))
  have W := (Walks.listRev (prog := prog) (w := w) (A := A.in1.in1) hh I l hne #[.str y u]).toS
  have st0 : (fun i (s : Shared) => i ≤ #[Value.str y u].size ∧ s.heap.IsRevIter I l ((#[Value.str y u].size : Int) - 1 - (i : Int)) ∧ s.heap.IsList l #[Value.str y u]) 0 s :=
    ⟨Nat.zero_le _, ⟨_, N1.1, rfl, rfl⟩, ⟨_, N2.1, rfl, _, rfl⟩⟩
  have hT : ∀ i (s : Shared), (i ≤ #[Value.str y u].size ∧ s.heap.IsRevIter I l ((#[Value.str y u].size : Int) - 1 - (i : Int)) ∧ s.heap.IsList l #[Value.str y u]) → s.TypeIs (.ref I) "list_reverseiterator" := fun i s st => st.2.1.typeIs
  refine wpAny_call (codeAny_call_builtin F.slot_str_join.plain F.entry_str_join (F.slot_str_join.check _ _ _ _ _ _ _ _ (typeIs_str _ _ _) (F.args_str_join_2 _ _) ?_))
  rw [join_tree_other]
  refine wpAny_bind (wpAny_typeOf (hT 0 s st0) ?_)
  show wpAny _ A.in1 ((pyIter (.ref I)).tryCatch _ >>= fun it => collect it >>= fun items => joinTail x items) _ _ s
  refine wpAny_bind (wpAny_tryCatch (W.of_in1.self 0 s _ _ st0 ?_))
  refine wpAny_bind (collect_rev W hT st0 ?_ (.head _) (by simp [sizeLine_eq]) fun s' acc hm hacc => ?_)
  · intro b hb
    rcases List.mem_cons.mp hb with rfl | hb
    · exact Heap.lt_size N1.1
    · rw [List.mem_singleton.mp hb]; exact Heap.lt_size N2.1
  have hacc1 : acc.toList = strValues [(y, u)] := by
    have e1 : acc.size = 1 := hacc.1
    have e2 := hacc.2 0 (acc[0]'(by omega)) (Array.getElem?_eq_getElem (by omega))
    have e3 : acc[0]'(by omega) = .str y u := by
      have : some (Value.str y u) = some (acc[0]'(by omega)) := e2
      exact (Option.some.inj this).symm
    apply List.ext_getElem?
    intro j
    cases j with
    | zero => rw [Array.getElem?_toList, Array.getElem?_eq_getElem (by omega), e3]; rfl
    | succ j => rw [Array.getElem?_toList, Array.getElem?_eq_none (by omega)]; rfl
  rw [hacc1]
  unfold JoinOk at hok
  rw [Bool.not_eq_true'] at hok
  have hok' : JoinOk x ([(y, u)].map (·.1)) = true := by unfold JoinOk; rw [Bool.not_eq_true']; exact hok
  have g : Gives (joinTail x (strValues [(y, u)])) (joinMade x [(y, u)]) := gives_joinTail x [(y, u)] hok
  have hs' : s' = { s with heap := s'.heap, toks := s'.toks } := by
    obtain ⟨a, b, c, d, e⟩ := s'
    obtain ⟨q1, q2, q3, q4, q5⟩ := hm
    simp only at q2 q3 q4
    rw [q2, q3, q4]
  refine g prog w A (wants Q E) s' (post_join [(y, u)] ⟨joinFit_length hok, fun t' k' => ?_⟩)
  rw [hs']
  refine h s'.heap t' k' ⟨?_, fun b o e => hm.heap b o (fun hb => ?_) (Fm.keep b o e), Fm.above⟩ fun p hp => ?_
  · obtain ⟨oL, es, ep, hL, r⟩ := Fm.ns
    exact ⟨oL, es, ep, hm.heap L oL (fun hb => N1.2.1 (List.mem_singleton.mp hb).symm) hL, r⟩
  · have := N1.2.2
    rw [← List.mem_singleton.mp hb, e] at this; cases this
  · have P := N p (.tail _ hp)
    refine ⟨hm.heap p.1 p.2 (fun hb => ?_) P.1, P.2⟩
    have hb := List.mem_singleton.mp hb
    rcases List.mem_cons.mp hp with rfl | hp
    · exact hne hb
    · exact hr p hp hb
end
end Mine
end

section
open PySem PySem.W PySem.Spec PySem.Calls PyProof.Rows
set_option Elab.async false
set_option maxRecDepth 100000
set_option maxHeartbeats 8000000
namespace Mine


theorem filln1 : True ∨ (PySem.Challenge.rw_sa0151_01 = PySem.Challenge.rw_sa0151_01 ∧ hd.heap_1 = hd.heap_1) := by
  k_fill
  exact .inl trivial

theorem joinOk1 {y : Str} (h : y.length ≤ 3) : JoinOk (Str.ofString "") [y] = true := by
  unfold JoinOk
  have e : (List.foldl (fun n z => n + z.length + (Str.ofString "").length) 0 [y]) ≤ 4 := by
    simp only [List.foldl_cons, List.foldl_nil]
    have : (Str.ofString "").length = 0 := by decide
    omega
  simp only [Bool.not_eq_true', PySem.Builtin.Str.tooLong, decide_eq_false_iff_not, Array.foldl_toList, List.foldl_toArray]
  rw [sizeLine_eq]; first | omega | (simp at *; omega)
theorem digit_len {v : Int} (h0 : 0 ≤ v) (h9 : v ≤ 9) : (Str.ofString (toString (if v < 0 then -v else v))).length ≤ 3 := by
  have h : ∀ i : Fin 10, (Str.ofString (toString ((i.val : Nat) : Int))).length ≤ 3 := by decide +kernel
  have := h ⟨v.toNat, by omega⟩
  rw [if_neg (by omega)]
  rwa [show (((⟨v.toNat, by omega⟩ : Fin 10).val : Nat) : Int) = v from Int.toNat_of_nonneg h0] at this
theorem join_len {v : Int} (h0 : 0 ≤ v) (h9 : v ≤ 9) : (Txt.join (Str.ofString "") [Str.ofString (toString (if v < 0 then -v else v))]).length ≤ 3 := by
  have h : ∀ i : Fin 10, (Txt.join (Str.ofString "") [Str.ofString (toString ((i.val : Nat) : Int))]).length ≤ 3 := by decide +kernel
  have := h ⟨v.toNat, by omega⟩
  rw [if_neg (by omega)]
  rwa [show (((⟨v.toNat, by omega⟩ : Fin 10).val : Nat) : Int) = v from Int.toNat_of_nonneg h0] at this
theorem big_no {v : Int} (h0 : 0 ≤ v) (h9 : v ≤ 9) : decide ((10:Int) ^ Int.toNat 18 ≤ if v < 0 then -v else v) = false := by
  have : (10:Int)^Int.toNat 18 = 1000000000000000000 := by decide
  rw [this]; exact decide_eq_false (by split <;> omega)
theorem number_core (w : World) (v : Int) (t : Tok) (rest : List (Addr × Obj)) (h0 : 0 ≤ v) (h9 : v ≤ 9) : Spec w 28 3 100 [.int v t] rest
    (fun r n' => (∃ x t', r = .str x t' ∧ x.length ≤ 3) ∧ n' = rest) := by
  unfold Spec
  intro p loose mean mg mb dp un gd cn cs a ccd cl outer A₀ base h₀ L m s Q E B F X N T hkind hd hu hret
  refine wpAny_call ?_
  k_dflt ktr_enter
  k_steps
  refine WhlIf.no (big_no (by assumption) (by assumption)) ?_
  k_steps
  k_dflt (refine' join_rev1 ?hh ?F ?N ?ne ?r ?ok ?_; (case hh => exact rfl); (case F => k_asm); (case N => k_asm); (case ne => k_ne); (case r => (rename _ ∧ AllLt _ rest => l9); exact allLt_ne l9.2); (case ok => exact joinOk1 (digit_len (by assumption) (by assumption))))
  intro h' t' tk' F' N'
  k_steps
  (rename News _ _ _ _ => kN')
  exact hret _ _ _ _ (by k_asm) (News.sub kN' (fun p hp => .tail _ hp)) ⟨⟨_, _, rfl, join_len h0 h9⟩, rfl⟩
end Mine
end

section
open PySem PySem.W PySem.Spec PySem.Calls PyProof.Rows
set_option Elab.async false
set_option maxRecDepth 100000
namespace Mine
noncomputable abbrev PX := PySem.Expr
set_option genInjectivity false in
set_option genSizeOf false in
/-- a value up to its tokens -/
inductive Vl where
  | i (k : Int) | s (x : Str) | b (c : Bool) | r (a : Addr) | u
noncomputable def Vl.is : Vl → Value → Prop
  | .i k, v => ∃ t, v = .int k t
  | .s x, v => ∃ t, v = .str x t
  | .b c, v => v = .bool c
  | .r a, v => v = .ref a
  | .u, v => v = .none
noncomputable abbrev Lcs := List (Str × Vl)
set_option genInjectivity false in
set_option genSizeOf false in
/-- a def's own words -/
structure Fn where
  cn : Str
  cs : Scope
  a : Addr
  ccd : Value
  cl : List (Str × Addr)
set_option genInjectivity false in
set_option genSizeOf false in
structure Cx (w : World) (F : Fn) where
  p : Program
  loose : List Str
  mean : ExcName → Option Value
  mg : Str → Option Value
  mb : Str → Option Value
  dp : Nat
  un : Nat
  gd : Option (List Code)
  outer : List Env
  A₀ : Around
  base : Heap
  h₀ : Heap
  L : Addr
  B : Below A₀ base outer h₀
  X : (hd.heap_1 w.params).In h₀
  T : Top p loose mean mg mb h₀
  hk : F.cs.kind = .function
section
variable {w : World} {F : Fn}
noncomputable abbrev Cx.env (Γ : Cx w F) : Env := envX F.cn F.cs Γ.L F.a F.ccd F.cl
noncomputable abbrev Cx.A (Γ : Cx w F) : Around := ktrTop Γ.dp Γ.un Γ.gd F.cn F.cs Γ.L F.a F.ccd F.cl Γ.outer
noncomputable def Cx.room (Γ : Cx w F) (d u : Nat) : Prop := Γ.dp + d < recursionLimit ∧ Γ.un + u < cLine
theorem Cx.room.le {Γ : Cx w F} {d u d' u' : Nat} (h : Γ.room d u) (hd : d' ≤ d) (hu : u' ≤ u) : Γ.room d' u' := ⟨by have := h.1; omega, by have := h.2; omega⟩
structure St (Γ : Cx w F) (h : Heap) (lc : Lcs) (P : Led → Prop) : Prop where
  lc : ∃ m, Fr Γ.h₀ Γ.L h m ∧ ∀ p ∈ lc, ∃ v, m p.1 = some v ∧ p.2.is v
  nw : ∃ news, News Γ.h₀ Γ.L h news ∧ P news
noncomputable def Ev (Γ : Cx w F) (lc : Lcs) (P : Led → Prop) (e : PX) (V : Value → Prop) : Prop :=
  ∀ s Q E, St Γ s.heap lc P → (∀ v h' tk, V v → St Γ h' lc P → Q v { s with heap := h', toks := tk }) → wpAny (model PR w) Γ.A (eval e Γ.env) Q E s
/-- a value with a new ledger -/
noncomputable def EvT (Γ : Cx w F) (lc : Lcs) (P : Led → Prop) (e : PX) (R : Value → (Led → Prop) → Prop) : Prop :=
  ∀ s Q E, St Γ s.heap lc P → (∀ v P' h' tk, R v P' → St Γ h' lc P' → Q v { s with heap := h', toks := tk }) → wpAny (model PR w) Γ.A (eval e Γ.env) Q E s
noncomputable def EvL (Γ : Cx w F) (lc : Lcs) (P : Led → Prop) (es : List PX) (Vs : List Value → Prop) : Prop :=
  ∀ pos s Q E, St Γ s.heap lc P → (∀ vs h' tk, Vs vs → St Γ h' lc P → Q vs { s with heap := h', toks := tk }) → wpAny (model PR w) Γ.A (spliced (backTo pos (starEach es Γ.env))) Q E s
noncomputable def Ec (Γ : Cx w F) (lc : Lcs) (P : Led → Prop) (c : PX) (b : Bool) : Prop :=
  ∀ s Q E, St Γ s.heap lc P → (∀ h' tk, St Γ h' lc P → Q b { s with heap := h', toks := tk }) → wpAny (model PR w) Γ.A (PySem.isTrue c Γ.env (eval c Γ.env)) Q E s
/-- a row of tests -/
noncomputable def EcO (Γ : Cx w F) (lc : Lcs) (P : Led → Prop) (op : BoolOp) (cs : List PX) (b : Bool) : Prop :=
  ∀ pos whole s Q E, St Γ s.heap lc P → (∀ h' tk, St Γ h' lc P → Q b { s with heap := h', toks := tk }) → wpAny (model PR w) Γ.A (PySem.isTrue (.BoolOp op cs pos) Γ.env whole) Q E s
noncomputable abbrev RX := Flow → Lcs → (Led → Prop) → Prop
noncomputable def Ex (Γ : Cx w F) (lc : Lcs) (P : Led → Prop) (body : List Stmt) (R : RX) : Prop :=
  ∀ s Q E, PassesOwn (model PR w) Γ.A Γ.env E → St Γ s.heap lc P → (∀ f lc' P' h' tk, R f lc' P' → St Γ h' lc' P' → Q f { s with heap := h', toks := tk }) → wpAny (model PR w) Γ.A (execs body Γ.env) Q E s
noncomputable def Then (Γ : Cx w F) (rest : List Stmt) (R : RX) : RX := fun f lc P => match f with
  | .next => Ex Γ lc P rest R
  | f => R f lc P
noncomputable def Ends (post : Value → Led → Prop) : RX := fun f _ P => match f with
  | .next => ∀ n, P n → post .none n
  | .ret v => ∀ n, P n → post v n
  | _ => False
variable {Γ : Cx w F} {lc lc' : Lcs} {P P' : Led → Prop} {R R' : RX}
theorem St.mono {h : Heap} (S : St Γ h lc P) (hl : ∀ p ∈ lc', p ∈ lc) (hp : ∀ n, P n → ∃ n', P' n' ∧ ∀ p ∈ n', p ∈ n) : St Γ h lc' P' := by
  obtain ⟨⟨m, Fm, hm⟩, news, N, hP⟩ := S
  obtain ⟨n', q, hs⟩ := hp news hP
  exact ⟨⟨m, Fm, fun p hp => hm p (hl p hp)⟩, n', News.sub N hs, q⟩
theorem Ex.weak (hl : ∀ p ∈ lc', p ∈ lc) (hp : ∀ n, P n → ∃ n', P' n' ∧ ∀ p ∈ n', p ∈ n) {body : List Stmt} (h : Ex Γ lc' P' body R) : Ex Γ lc P body R :=
  fun s Q E p S q => h s Q E p (S.mono hl hp) q
theorem Ex.mono {body : List Stmt} (h : Ex Γ lc P body R) (hr : ∀ f l p, R f l p → R' f l p) : Ex Γ lc P body R' := fun s Q E po S q => h s Q E po S fun f l p h' tk r => q f l p h' tk (hr f l p r)
theorem Ev.toT {e : PX} {V : Value → Prop} (h : Ev Γ lc P e V) : EvT Γ lc P e (fun v P' => V v ∧ P' = P) := fun s Q E S q => h s Q E S fun v h' tk hv S' => q v P h' tk ⟨hv, rfl⟩ S'
theorem Ev.mono {e : PX} {V V' : Value → Prop} (h : Ev Γ lc P e V) (hv : ∀ v, V v → V' v) : Ev Γ lc P e V' := fun s Q E S q => h s Q E S fun v h' tk a => q v h' tk (hv v a)
-- values
theorem Ev.name {x : Str} {pos : Pos} {v : Vl} (hm : (x, v) ∈ lc) (hk : Γ.env.kindOf x = some .local) (hd : (x == "__debug__") = false) : Ev Γ lc P (.Name x pos) v.is := by
  intro s Q E S q
  obtain ⟨m, Fm, hl⟩ := S.lc
  obtain ⟨u, e, hu⟩ := hl _ hm
  exact nameX_L Fm e (q u s.heap s.toks hu S) Γ.hk hk hd
theorem Ev.int {n : Int} {k : Nat} {pos : Pos} : Ev Γ lc P (.Constant (.int n) k pos) (Vl.i n).is := by
  intro s Q E S q
  exact wpAny_Constant_int (q _ s.heap _ ⟨_, rfl⟩ S)
theorem Ev.str {x : Str} {k : Nat} {pos : Pos} : Ev Γ lc P (.Constant (.str x) k pos) (Vl.s x).is := by
  intro s Q E S q
  exact Calls.Constant_str (q _ s.heap _ ⟨_, rfl⟩ S)
theorem Ev.bool {c : Bool} {k : Nat} {pos : Pos} : Ev Γ lc P (.Constant (.bool c) k pos) (Vl.b c).is := by
  intro s Q E S q
  exact Constant_bool (q _ s.heap s.toks rfl S)
theorem Ev.bin {a b : PX} {op : Operator} {pos : Pos} {V1 V2 V : Value → Prop} (ha : Ev Γ lc P a V1) (hb : Ev Γ lc P b V2)
    (hop : ∀ v1 v2, V1 v1 → V2 v2 → ∀ (s : Shared) Q E, (∀ v tk, V v → Q v { s with toks := tk }) → wpAny (model PR w) Γ.A (binaryOp op v1 v2) Q E s) : Ev Γ lc P (.BinOp a op b pos) V := by
  intro s Q E S q
  exact wpAny_BinOp (ha s _ E S fun v1 h1 t1 x1 S1 => hb _ _ E S1 fun v2 h2 t2 x2 S2 => hop v1 v2 x1 x2 _ _ _ fun v tk hv => q v h2 tk hv S2)
theorem Ev.add {a b : PX} {pos : Pos} {x y : Int} (ha : Ev Γ lc P a (Vl.i x).is) (hb : Ev Γ lc P b (Vl.i y).is) : Ev Γ lc P (.BinOp a .Add b pos) (Vl.i (x + y)).is :=
  ha.bin hb fun _ _ ⟨_, e1⟩ ⟨_, e2⟩ _ _ _ q => by subst e1; subst e2; exact add_int (q _ _ ⟨_, rfl⟩)
theorem Ev.sub {a b : PX} {pos : Pos} {x y : Int} (ha : Ev Γ lc P a (Vl.i x).is) (hb : Ev Γ lc P b (Vl.i y).is) : Ev Γ lc P (.BinOp a .Sub b pos) (Vl.i (x - y)).is :=
  ha.bin hb fun _ _ ⟨_, e1⟩ ⟨_, e2⟩ _ _ _ q => by subst e1; subst e2; exact sub_int (q _ _ ⟨_, rfl⟩)
-- tests
theorem marks (op : CmpOp) (e : PX) (h : (op == .In || op == .NotIn) = false) : behindInMarks op e = false := by
  cases e <;> first | rfl | (simp only [behindInMarks, h, Bool.and_false, Bool.false_and])
theorem Ec.cmp {a b : PX} {op : CmpOp} {pos : Pos} {V1 V2 : Value → Prop} {c : Bool} (ha : Ev Γ lc P a V1) (hb : Ev Γ lc P b V2) (hm : behindInMarks op b = false)
    (hop : ∀ v1 v2, V1 v1 → V2 v2 → ∀ (s : Shared) Q E, St Γ s.heap lc P → (∀ h' tk, St Γ h' lc P → Q (.bool c) { s with heap := h', toks := tk }) → wpAny (model PR w) Γ.A (compareOp op v1 v2) Q E s) : Ec Γ lc P (.Compare a [op] [b] pos) c := by
  intro s Q E S q
  exact wpAny_isTrue_Compare1 (ha s _ E S fun v1 h1 t1 x1 S1 => hb _ _ E S1 fun v2 h2 t2 x2 S2 => hop v1 v2 x1 x2 _ _ _ S2 fun h' tk S3 => wpAny_truthy_bool (q h' tk S3)) hm
section
variable {a b : PX} {pos : Pos} {x y : Int} {u t : Str}
theorem Ec.lt (ha : Ev Γ lc P a (Vl.i x).is) (hb : Ev Γ lc P b (Vl.i y).is) : Ec Γ lc P (.Compare a [.Lt] [b] pos) (decide (x < y)) :=
  .cmp ha hb (marks _ _ rfl) fun _ _ ⟨_, e1⟩ ⟨_, e2⟩ s _ _ S q => by subst e1; subst e2; exact lt_int (q s.heap s.toks S)
theorem Ec.gt (ha : Ev Γ lc P a (Vl.i x).is) (hb : Ev Γ lc P b (Vl.i y).is) : Ec Γ lc P (.Compare a [.Gt] [b] pos) (decide (y < x)) :=
  .cmp ha hb (marks _ _ rfl) fun _ _ ⟨_, e1⟩ ⟨_, e2⟩ s _ _ S q => by subst e1; subst e2; exact gt_int (q s.heap s.toks S)
theorem Ec.ge (ha : Ev Γ lc P a (Vl.i x).is) (hb : Ev Γ lc P b (Vl.i y).is) : Ec Γ lc P (.Compare a [.GtE] [b] pos) (decide (y ≤ x)) :=
  .cmp ha hb (marks _ _ rfl) fun _ _ ⟨_, e1⟩ ⟨_, e2⟩ s _ _ S q => by subst e1; subst e2; exact ge_int (q s.heap s.toks S)
theorem Ec.eqI (ha : Ev Γ lc P a (Vl.i x).is) (hb : Ev Γ lc P b (Vl.i y).is) : Ec Γ lc P (.Compare a [.Eq] [b] pos) (x == y) :=
  .cmp ha hb (marks _ _ rfl) fun _ _ ⟨_, e1⟩ ⟨_, e2⟩ s _ _ S q => by subst e1; subst e2; exact eq_int (q s.heap s.toks S)
theorem Ec.eqS (ha : Ev Γ lc P a (Vl.s u).is) (hb : Ev Γ lc P b (Vl.s t).is) : Ec Γ lc P (.Compare a [.Eq] [b] pos) (u == t) :=
  .cmp ha hb (marks _ _ rfl) fun _ _ ⟨_, e1⟩ ⟨_, e2⟩ s _ _ S q => by subst e1; subst e2; exact eq_str (q s.heap s.toks S)
theorem Ec.neS (ha : Ev Γ lc P a (Vl.s u).is) (hb : Ev Γ lc P b (Vl.s t).is) : Ec Γ lc P (.Compare a [.NotEq] [b] pos) (u != t) :=
  .cmp ha hb (marks _ _ rfl) fun _ _ ⟨_, e1⟩ ⟨_, e2⟩ s _ _ S q => by subst e1; subst e2; exact ne_str (q s.heap s.toks S)
end
theorem Ec.plain {c : PX} {b : Bool} (h : Ev Γ lc P c (Vl.b b).is) (hp : PySem.isTrue c Γ.env (eval c Γ.env) = (do let v ← eval c Γ.env; standAt c.pos; holding [v] (truthy v))) : Ec Γ lc P c b := by
  intro s Q E S q
  refine isTrue_plain (h s _ E S fun v h' tk e S' => ?_) hp
  have e' : v = .bool b := e
  subst e'
  exact wpAny_truthy_bool (q h' tk S')
theorem Ec.not {c : PX} {b : Bool} {pos : Pos} (h : Ec Γ lc P c b) : Ec Γ lc P (.UnaryOp .Not c pos) (!b) := fun s Q E S q => isTrue_not (h s _ E S q)
theorem Ec.row {op : BoolOp} {cs : List PX} {pos : Pos} {b : Bool} (h : EcO Γ lc P op cs b) : Ec Γ lc P (.BoolOp op cs pos) b := fun s Q E S q => h pos _ s Q E S q
theorem EcO.or0 : EcO Γ lc P .Or [] false := fun _ _ s _ _ S q => isTrue_or_nil (q s.heap s.toks S)
theorem EcO.and0 : EcO Γ lc P .And [] true := fun _ _ s _ _ S q => isTrue_and_nil (q s.heap s.toks S)
theorem EcO.or {c : PX} {cs : List PX} {b b' : Bool} (h : Ec Γ lc P c b) (h' : b = false → EcO Γ lc P .Or cs b') : EcO Γ lc P .Or (c :: cs) (b || b') := by
  intro pos whole s Q E S q
  refine isTrue_or (h s _ E S fun h1 t1 S1 => ?_)
  cases b with
  | true => exact q h1 t1 S1
  | false => exact h' rfl pos whole _ Q E S1 fun h2 t2 S2 => q h2 t2 S2
theorem EcO.and {c : PX} {cs : List PX} {b b' : Bool} (h : Ec Γ lc P c b) (h' : b = true → EcO Γ lc P .And cs b') : EcO Γ lc P .And (c :: cs) (b && b') := by
  intro pos whole s Q E S q
  refine isTrue_and (h s _ E S fun h1 t1 S1 => ?_)
  cases b with
  | true => exact h' rfl pos whole _ Q E S1 fun h2 t2 S2 => q h2 t2 S2
  | false => exact q h1 t1 S1
-- rows of arguments
theorem EvL.nil : EvL Γ lc P [] (fun vs => vs = []) := fun _ s _ _ S q => args_nil (q [] s.heap s.toks rfl S)
theorem EvL.cons {e : PX} {es : List PX} {V : Value → Prop} {Vs : List Value → Prop} (h : Ev Γ lc P e V) (hs : EvL Γ lc P es Vs) (hst : starEach (e :: es) Γ.env = (false, eval e Γ.env) :: starEach es Γ.env) :
    EvL Γ lc P (e :: es) (fun vs => ∃ v r, vs = v :: r ∧ V v ∧ Vs r) :=
  fun pos s _ E S q => args_cons (h s _ E S fun v h1 t1 hv S1 => hs pos _ _ E S1 fun r h2 t2 hr S2 => q _ h2 t2 ⟨v, r, rfl, hv, hr⟩ S2) hst
-- statements
theorem Ex.nil (h : R .next lc P) : Ex Γ lc P [] R := fun s _ _ _ S q => wpAny_execs_nil (q .next lc P s.heap s.toks h S)
theorem Ex.nilT {rest : List Stmt} (h : Ex Γ lc P rest R) : Ex Γ lc P [] (Then Γ rest R) := .nil h
theorem Ex.next {st : Stmt} {rest : List Stmt} (h : ∀ s Q E, PassesOwn (model PR w) Γ.A Γ.env E → St Γ s.heap lc P → (∀ f lc' P' h' tk, Then Γ rest R f lc' P' → St Γ h' lc' P' → Q f { s with heap := h', toks := tk }) → wpAny (model PR w) Γ.A (exec st Γ.env) Q E s) : Ex Γ lc P (st :: rest) R := by
  intro s Q E po S q
  refine wpAny_execs_cons (h s _ E po S fun f lc' P' h' tk r S' => ?_)
  cases f with
  | next => exact r _ Q E po S' fun f l p h2 t2 r2 S2 => q f l p h2 t2 r2 S2
  | brk => exact q _ _ _ _ _ r S'
  | cont => exact q _ _ _ _ _ r S'
  | ret v => exact q _ _ _ _ _ r S'
theorem Ex.ifC {c : PX} {thn els rest : List Stmt} {pos : Pos} {b : Bool} (hc : Ec Γ lc P c b) (h1 : b = true → Ex Γ lc P thn (Then Γ rest R)) (h2 : b = false → Ex Γ lc P els (Then Γ rest R)) : Ex Γ lc P (.If c thn els pos :: rest) R := by
  refine .next fun s Q E po S q => wpAny_If (hc s _ E S fun h' tk S' => ?_)
  cases b with
  | true => exact h1 rfl _ Q E po S' fun f l p h2 t2 r2 S2 => q f l p h2 t2 r2 S2
  | false => exact h2 rfl _ Q E po S' fun f l p h2 t2 r2 S2 => q f l p h2 t2 r2 S2
theorem Ex.ifT {c : PX} {thn els rest : List Stmt} {pos : Pos} {b : Bool} (hc : Ec Γ lc P c b) (hb : b = true) (h1 : Ex Γ lc P thn (Then Γ rest R)) : Ex Γ lc P (.If c thn els pos :: rest) R := .ifC hc (fun _ => h1) fun h => by rw [hb] at h; cases h
theorem Ex.ifF {c : PX} {thn els rest : List Stmt} {pos : Pos} {b : Bool} (hc : Ec Γ lc P c b) (hb : b = false) (h2 : Ex Γ lc P els (Then Γ rest R)) : Ex Γ lc P (.If c thn els pos :: rest) R := .ifC hc (fun h => by rw [hb] at h; cases h) fun _ => h2
/-- the ways of an if meet again -/
theorem Ex.ifJ {c : PX} {thn els rest : List Stmt} {pos : Pos} {b : Bool} (J : Lcs → (Led → Prop) → Prop) (hc : Ec Γ lc P c b) (h1 : b = true → Ex Γ lc P thn (fun f l p => f = .next ∧ J l p)) (h2 : b = false → Ex Γ lc P els (fun f l p => f = .next ∧ J l p)) (h : ∀ l p, J l p → Ex Γ l p rest R) :
    Ex Γ lc P (.If c thn els pos :: rest) R :=
  .ifC hc (fun e => (h1 e).mono fun f l p ⟨e, j⟩ => by subst e; exact h l p j) fun e => (h2 e).mono fun f l p ⟨e, j⟩ => by subst e; exact h l p j
theorem Ex.ret {e : PX} {V : Value → Prop} {pos : Pos} {rest : List Stmt} (h : Ev Γ lc P e V) (hr : ∀ v, V v → R (.ret v) lc P) : Ex Γ lc P (.Return (some e) pos :: rest) R :=
  .next fun s Q E po S q => wpAny_Return_some (h s _ E S fun v h' tk hv S' => q _ _ _ _ _ (hr v hv) S')
theorem Ex.ret0 {pos : Pos} {rest : List Stmt} (hr : R (.ret .none) lc P) : Ex Γ lc P (.Return none pos :: rest) R :=
  .next fun s Q E po S q => wpAny_Return_none (q _ _ _ s.heap s.toks hr S)
theorem Ex.brk {pos : Pos} {rest : List Stmt} (hr : R .brk lc P) : Ex Γ lc P (.Break pos :: rest) R := .next fun s Q E po S q => wpAny_Break (q _ _ _ s.heap s.toks hr S)
/-- a name is stored: what was said of it before is dropped -/
theorem Ex.setT {x : Str} {e : PX} {xp pos : Pos} {rest : List Stmt} {RV : Value → (Led → Prop) → Prop} (h : EvT Γ lc P e RV) (hk : Γ.env.kindOf x = some .local) (hw : swapsWith e (some (.Name x xp)) pos.line Γ.env = pure false)
    (hr : ∀ v P', RV v P' → ∃ vl lc', vl.is v ∧ (∀ p ∈ lc', p = (x, vl) ∨ (p.1 ≠ x ∧ p ∈ lc)) ∧ Ex Γ lc' P' rest R) : Ex Γ lc P (.Assign [.Name x xp] e pos :: rest) R := by
  refine .next fun s Q E po S q => wpAny_Assign_Name (h s _ E S fun v P' h' tk hv S' => ?_) hw
  obtain ⟨⟨m, Fm, hm⟩, news, N, hP⟩ := S'
  obtain ⟨vl, lc', hvl, hlc, hx⟩ := hr v P' hv
  refine storeX_L Fm N (fun h2 F2 N2 => q .next lc' P' h2 _ hx ⟨⟨_, F2, fun p hp => ?_⟩, news, N2, hP⟩) Γ.hk hk
  rcases hlc p hp with rfl | ⟨hn, hp⟩
  · exact ⟨v, if_pos rfl, hvl⟩
  · obtain ⟨u, e, hu⟩ := hm p hp
    exact ⟨u, (if_neg hn).trans e, hu⟩
theorem Ex.set {x : Str} {e : PX} {xp pos : Pos} {rest : List Stmt} {vl : Vl} (h : Ev Γ lc P e vl.is) (hx : ∀ p ∈ lc, p.1 ≠ x) (hk : Γ.env.kindOf x = some .local) (hw : swapsWith e (some (.Name x xp)) pos.line Γ.env = pure false)
    (hr : Ex Γ ((x, vl) :: lc) P rest R) : Ex Γ lc P (.Assign [.Name x xp] e pos :: rest) R :=
  .setT h.toT hk hw fun v P' ⟨hv, e⟩ => ⟨vl, _, hv, fun p hp => (List.mem_cons.mp hp).imp id fun hp => ⟨hx p hp, hp⟩, e ▸ hr⟩
theorem Ex.exprT {e : PX} {pos : Pos} {rest : List Stmt} {RV : Value → (Led → Prop) → Prop} (h : EvT Γ lc P e RV) (hi : interactive Γ.env = false) (hw : swapsWith e none pos.line Γ.env = pure false) (hr : ∀ v P', RV v P' → Ex Γ lc P' rest R) : Ex Γ lc P (.Expr e pos :: rest) R :=
  .next fun s Q E po S q => wpAny_Expr_any (h s _ E S fun v p h' tk hp S' => q .next lc p h' tk (hr v p hp) S') hi hw
theorem spec_ev {f : Addr} {dp un : Nat} {args : List Value} {post : Value → Led → Prop} (spec : ∀ n, P n → Spec w f dp un args n post) (hroom : Γ.room dp un) {s : Shared} {Q E : Value → Shared → Prop} (S : St Γ s.heap lc P)
    (q : ∀ v h' tk, St Γ h' lc (fun n => post v n) → Q v { s with heap := h', toks := tk }) : wpAny (model PR w) Γ.A (call (.ref f) args) Q E s := by
  obtain ⟨⟨m, Fm, hm⟩, news, N, hP⟩ := S
  exact spec_use (spec news hP) Γ.B Fm Γ.X N Γ.T Γ.hk hroom.1 hroom.2 fun r n' h' tk' F' N' hp => q r h' tk' ⟨⟨m, F', hm⟩, n', N', hp⟩
/-- a def of the top, called -/
theorem EvT.call {fn : Str} {np pos : Pos} {f : Addr} {dp un : Nat} {e : PX} {es : List PX} {Vs : List Value → Prop} {post : Value → Led → Prop} (hf : nsIn (hd.heap_1 w.params) mainGlobals fn = some (some (.ref f))) (hk : Γ.env.kindOf fn = some .globalImplicit) (hd9 : (fn == "__debug__") = false) (hkeep : keepIn (hd.heap_1 w.params) (.ref f) = true)
    (ha : EvL Γ lc P (e :: es) Vs) (hst : starEach (e :: es) Γ.env = (false, eval e Γ.env) :: starEach es Γ.env) (hany : ((backTo pos (starEach es Γ.env)).any fun x => x.1) = false)
    (hcall : eval (.Call (.Name fn np) (e :: es) [] pos) Γ.env = (do let f ← eval (.Name fn np) Γ.env; callWith pos f [] (backTo pos (starEach (e :: es) Γ.env)) (backToKw pos (keywordEach [] Γ.env))))
    (spec : ∀ vs, Vs vs → ∀ n, P n → Spec w f dp un vs n post) (hroom : Γ.room dp un) : EvT Γ lc P (.Call (.Name fn np) (e :: es) [] pos) (fun v P' => P' = fun n => post v n) := by
  intro s Q E S q
  obtain ⟨⟨m, Fm, hm⟩, news, N, hP⟩ := S
  refine Call_ (nameX_K Fm Γ.X (topRead_of Γ.T) hf ?_ Γ.hk hk hd9) hcall
  refine callWith_K Γ.X hkeep (ha pos s _ E ⟨⟨m, Fm, hm⟩, news, N, hP⟩ fun vs h' tk hv S1 => ⟨?_, ?_⟩) hst hany
  · obtain ⟨m', F', _⟩ := S1.lc
    exact Γ.X.keeps F'.keep
  · exact spec_ev (spec vs hv) hroom S1 fun v h2 t2 S2 => q v _ h2 t2 rfl S2
theorem Ev.ofT {e : PX} {V : Value → Prop} {RV : Value → (Led → Prop) → Prop} (h : EvT Γ lc P e RV) (hr : ∀ v P', RV v P' → ∀ n, P' n → V v ∧ ∃ n', P n' ∧ ∀ p ∈ n', p ∈ n) : Ev Γ lc P e V := fun s Q E S q => h s Q E S fun v P' h' tk hv S' =>
  q v h' tk (let ⟨_, n, _, hn⟩ := S'; (hr v P' hv n hn).1) (S'.mono (fun _ h => h) fun n hn => (hr v P' hv n hn).2)
/-- an item of a tuple -/
theorem Ev.tup {b i : PX} {pos : Pos} {a : Addr} {vs : List Value} {k : Int} {j : Nat} {v : Value} (hb : Ev Γ lc P b (Vl.r a).is) (hi : Ev Γ lc P i (Vl.i k).is) (hm : ∀ n, P n → (a, tupOf vs) ∈ n) (h1 : -2 ^ 63 ≤ k) (h2 : k < 2 ^ 63) (hj : seqIndex? k vs.length = some j) (hv : vs[j]? = some v)
    (hs : ∀ t, subscripted i false (.ref a) (.int k t) = operate [.ref a, .int k t] (getItem (.ref a) (.int k t))) : Ev Γ lc P (.Subscript b i pos) (fun u => u = v) := by
  intro s Q E S q
  refine Subscript_ (hb s _ E S fun o h1' t1 x1 S1 => hi _ _ E S1 fun o2 h2' t2 x2 S2 => ?_)
  have x1' : o = .ref a := x1
  obtain ⟨t, x2'⟩ := x2
  subst x1' x2'
  obtain ⟨⟨m, Fm, hml⟩, news, N, hP⟩ := S2
  exact item_tupleT (News.isTup N (hm news hP)) h1 h2 hj hv (q v h2' t2 rfl ⟨⟨m, Fm, hml⟩, news, N, hP⟩) (hs t)
theorem Ev.is {e : PX} {v : Value} {vl : Vl} (h : Ev Γ lc P e (fun u => u = v)) (hv : vl.is v) : Ev Γ lc P e vl.is := h.mono fun _ e => e ▸ hv
theorem Ev.starts {o e : PX} {ap pos : Pos} {x y : Str} (ho : Ev Γ lc P o (Vl.s x).is) (he : Ev Γ lc P e (Vl.s y).is) (hst : starEach [e] Γ.env = (false, eval e Γ.env) :: starEach [] Γ.env) (hany : ((backTo pos (starEach [] Γ.env)).any fun x => x.1) = false)
    (hpl : ∃ pl, eval (.Call (.Attribute o (Str.ofString "startswith") ap) [e] [] pos) Γ.env = (do let ov ← eval o Γ.env; standAt ap.atName; let (f, first) ← holding [ov] (getMethod ov (Str.ofString "startswith") pl); callWith pos f first (backTo pos (starEach [e] Γ.env)) [])) :
    Ev Γ lc P (.Call (.Attribute o (Str.ofString "startswith") ap) [e] [] pos) (Vl.b (Txt.startswith x y)).is := by
  intro s Q E S q
  obtain ⟨pl, hpl⟩ := hpl
  refine MethodCall_ (pl := pl) (ho s _ E S fun v1 h1 t1 x1 S1 => ?_) hpl
  obtain ⟨u1, x1'⟩ := x1
  subst x1'
  refine GM.startswith (callWith_method1 (EvL.cons he .nil hst pos _ _ E S1 fun vs h2 t2 hv S2 => ?_) hst hany)
  obtain ⟨v, r, e1, ⟨t, e2⟩, e3⟩ := hv
  subst e1 e2 e3
  exact SC.startswith (q _ h2 t2 rfl S2)
/-- len of a tuple -/
theorem Ev.lenT {b : PX} {np pos : Pos} {a : Addr} {vs : List Value} (hb : Ev Γ lc P b (Vl.r a).is) (hm : ∀ n, P n → (a, tupOf vs) ∈ n) (hl : vs.length ≤ 1000) (hk : Γ.env.kindOf (Str.ofString "len") = some .globalImplicit) (hb9 : nsIn (hd.heap_1 w.params) mainGlobals (Str.ofString "len") = some none)
    (hst : starEach [b] Γ.env = (false, eval b Γ.env) :: starEach [] Γ.env) (hany : ((backTo pos (starEach [] Γ.env)).any fun x => x.1) = false)
    (hcall : eval (.Call (.Name (Str.ofString "len") np) [b] [] pos) Γ.env = (do let f ← eval (.Name (Str.ofString "len") np) Γ.env; callWith pos f [] (backTo pos (starEach [b] Γ.env)) (backToKw pos (keywordEach [] Γ.env)))) : Ev Γ lc P (.Call (.Name (Str.ofString "len") np) [b] [] pos) (Vl.i vs.length).is := by
  intro s Q E S q
  obtain ⟨⟨m, Fm, hm'⟩, news, N, hP⟩ := S
  refine Call_ (nameX_B (v := .builtin "len") Fm Γ.X (topRead_of Γ.T) hb9 (by kernel_rfl!) (by decide +kernel) ?_ Γ.hk hk (by decide +kernel)) hcall
  refine callWith_builtin1 (EvL.cons hb .nil hst pos s _ E ⟨⟨m, Fm, hm'⟩, news, N, hP⟩ fun vs' h2 t2 hv S2 => ?_) hst hany
  obtain ⟨v, r, e1, e2, e3⟩ := hv
  have e2' : v = .ref a := e2
  subst e1 e2' e3
  obtain ⟨⟨m2, F2, hm2⟩, n2, N2, hP2⟩ := S2
  exact kun_lenT (News.isTup N2 (hm n2 hP2)) (k := vs.length) (by simp) (by omega) (q _ h2 _ ⟨_, rfl⟩ ⟨⟨m2, F2, hm2⟩, n2, N2, hP2⟩)
/-- an iterator beside the ledger -/
noncomputable def Fresh (I : Addr) (it : Obj) (P : Led → Prop) : Led → Prop := fun n => ∃ nx, n = (I, it) :: nx ∧ P nx ∧ ∀ p ∈ nx, p.1 ≠ I
/-- what a turn gives -/
noncomputable def Turn (Γ : Cx w F) (I : Addr) (it : Obj) (J : Lcs → (Led → Prop) → Prop) (rest : List Stmt) (R : RX) : RX := fun f lc P => match f with
  | .brk => Ex Γ lc P rest R
  | .ret v => R (.ret v) lc P
  | _ => ∃ lc' P', J lc' P' ∧ (∀ p ∈ lc', p ∈ lc) ∧ ∀ n, P n → ∃ n', Fresh I it P' n' ∧ ∀ p ∈ n', p ∈ n
noncomputable def Dropped (x : Str) (vl : Vl) (lc lc' : Lcs) : Prop := ∀ p ∈ lc', p = (x, vl) ∨ (p.1 ≠ x ∧ p ∈ lc)
theorem turn_unr {I : Addr} {it : Obj} {J : Lcs → (Led → Prop) → Prop} {J' : (Str → Option Value) → Led → Prop} {rest : List Stmt} {s s₁ : Shared} {Q : Flow → Shared → Prop} {E : Value → Shared → Prop} (po : PassesOwn (model PR w) Γ.A Γ.env E)
    (hs : ∃ h tk, s₁ = { s with heap := h, toks := tk }) (q : ∀ f lc' P' h' tk, Then Γ rest R f lc' P' → St Γ h' lc' P' → Q f { s with heap := h', toks := tk })
    (hJ : ∀ lc P m nx, J lc P → (∀ p ∈ lc, ∃ v, m p.1 = some v ∧ p.2.is v) → P nx → (∀ p ∈ nx, p.1 ≠ I) → J' m nx) {f : Flow} {lc' : Lcs} {P' : Led → Prop} {h' : Heap} {tk' : Nat} (r : Turn Γ I it J rest R f lc' P') (S' : St Γ h' lc' P') :
    UnrPost Γ.h₀ Γ.L s₁ I it J' Q f { s₁ with heap := h', toks := tk' } := by
  obtain ⟨h, tk, rfl⟩ := hs
  cases f with
  | brk => exact q .next _ _ _ _ r S'
  | ret v => exact q _ _ _ _ _ r S'
  | next =>
    obtain ⟨lc2, P2, hj, hl, hn⟩ := r
    obtain ⟨⟨m, Fm, hm⟩, n, N, hP⟩ := S'
    obtain ⟨n', ⟨nx, rfl, hx, ho⟩, hsub⟩ := hn n hP
    exact UnrEnd.intro Fm N nx hsub ho (hJ lc2 P2 m nx hj (fun p hp => hm p (hl p hp)) hx ho)
  | cont =>
    obtain ⟨lc2, P2, hj, hl, hn⟩ := r
    obtain ⟨⟨m, Fm, hm⟩, n, N, hP⟩ := S'
    obtain ⟨n', ⟨nx, rfl, hx, ho⟩, hsub⟩ := hn n hP
    exact UnrEnd.intro Fm N nx hsub ho (hJ lc2 P2 m nx hj (fun p hp => hm p (hl p hp)) hx ho)
theorem nm_ok {x : Str} {lc : Lcs} (h : (lc.all fun p => p.1 != x) = true) : ∀ p ∈ lc, p.1 ≠ x := fun p hp e => by
  have := List.all_eq_true.mp h p hp
  rw [e] at this
  simp at this
theorem Dropped.cons {x : Str} {vl : Vl} {lc : Lcs} (h : (lc.all fun p => p.1 != x) = true) : Dropped x vl lc ((x, vl) :: lc) := fun p hp => (List.mem_cons.mp hp).imp id fun hp => ⟨nm_ok h p hp, hp⟩
/-- an iterator over a range -/
noncomputable def EvR (Γ : Cx w F) (lc : Lcs) (P : Led → Prop) (e : PX) (a b : Int) : Prop :=
  ∀ s Q E, St Γ s.heap lc P → (∀ r h' tk t1 t2 t3, IsRange h' r a b 1 t1 t2 t3 → St Γ h' lc P → Q (.ref r) { s with heap := h', toks := tk }) → wpAny (model PR w) Γ.A (eval e Γ.env) Q E s
theorem Dropped.at {x : Str} {v : Value} {vl : Vl} {m : Str → Option Value} {lc lc₁ : Lcs} (hd : Dropped x vl lc lc₁) (hv : vl.is v) (hm : ∀ p ∈ lc, ∃ v, m p.1 = some v ∧ p.2.is v) : ∀ p ∈ lc₁, ∃ u, (if p.1 = x then some v else m p.1) = some u ∧ p.2.is u := fun p hp => by
  rcases hd p hp with rfl | ⟨hn, hp⟩
  · exact ⟨v, if_pos rfl, hv⟩
  · obtain ⟨u, e, hu⟩ := hm p hp
    exact ⟨u, (if_neg hn).trans e, hu⟩
/-- a loop over a range whose end is not known -/
theorem Ex.forRangeX {x : Str} {xp pos : Pos} {iter : PX} {body st : List Stmt} {a : Int} {φ : Int → Prop} (hit : ∀ s Q E, St Γ s.heap lc P → (∀ b r h' tk t1 t2 t3, φ b → IsRange h' r a b 1 t1 t2 t3 → St Γ h' lc P → Q (.ref r) { s with heap := h', toks := tk }) → wpAny (model PR w) Γ.A (eval iter Γ.env) Q E s)
    (hk : Γ.env.kindOf x = some .local) (hmod : (Γ.env.scope.kind == .class || Γ.env.scope.kind == .module && Γ.env.locals != Γ.env.globals) = false) (hfold : ∀ v, foldedSetIterable iter Γ.env v = pure v)
    (h : ∀ b, φ b → ∃ (n : Nat) (J : Nat → Lcs → (Led → Prop) → Prop), Builtin.Range.small a b 1 = true ∧ Builtin.Range.rangeSize a b 1 = n ∧ J 0 lc P ∧
      (∀ i lc P I it, i < n → J i lc P → ∃ lc₁, Dropped x (.i (a + (i : Int))) lc lc₁ ∧ Ex Γ lc₁ (Fresh I it P) body (Turn Γ I it (J (i + 1)) st R)) ∧ (∀ lc P, J n lc P → Ex Γ lc P st R)) :
    Ex Γ lc P (.For (.Name x xp) iter body [] pos :: st) R := by
  refine .next fun s Q E po S q => ?_
  have hF := S.lc
  obtain ⟨m₀, Fm₀, _⟩ := hF
  refine For_invVF (m := m₀) Fm₀ hk hmod (hit s _ E S fun b r h' tk t1 t2 t3 hb hr S' => ?_) hfold po
  obtain ⟨n, J, hsm, hsz, h0, turn, done⟩ := h b hb
  obtain ⟨⟨m, Fm, hm⟩, news, N, hP⟩ := S'
  refine iter_rangeUnr (m₀ := m) (news := news) rfl hr hsm hsz Fm N fun I hI => ?_
  refine range_ind2 (fun k i m nx => k + i = n ∧ ∃ lc P, J i lc P ∧ (∀ p ∈ lc, ∃ v, m p.1 = some v ∧ p.2.is v) ∧ P nx ∧ ∀ p ∈ nx, p.1 ≠ I) ?_ ?_ n 0 m news ⟨rfl, lc, P, h0, hm, hP, fun p hp => Nat.ne_of_lt (hI p hp)⟩
  · rintro i m nx ⟨hi, lc', P', hJ, hm', hP', _⟩ h tk F' N'
    have e : i = n := by omega
    subst e
    exact q .next lc' P' h tk (done lc' P' hJ) ⟨⟨m, F', hm'⟩, nx, N', hP'⟩
  · rintro k i m nx ⟨hi, lc', P', hJ, hm', hP', ho⟩ it t h tk F' N'
    obtain ⟨lc₁, hd, hx⟩ := turn i lc' P' I it (by omega) hJ
    refine hx _ _ E po ⟨⟨_, F', hd.at ⟨t, rfl⟩ hm'⟩, _, N', nx, rfl, hP', ho⟩ fun f lc2 P2 h2 tk2 r S2 => ?_
    exact turn_unr po ⟨_, _, rfl⟩ q (fun lc P m nx hj hl hp ho => ⟨by omega, lc, P, hj, hl, hp, ho⟩) r S2
theorem Ex.forRange {x : Str} {xp pos : Pos} {iter : PX} {body st : List Stmt} {a b : Int} (n : Nat) (J : Nat → Lcs → (Led → Prop) → Prop) (hit : EvR Γ lc P iter a b) (hsm : Builtin.Range.small a b 1 = true) (hsz : Builtin.Range.rangeSize a b 1 = n)
    (hk : Γ.env.kindOf x = some .local) (hmod : (Γ.env.scope.kind == .class || Γ.env.scope.kind == .module && Γ.env.locals != Γ.env.globals) = false) (hfold : ∀ v, foldedSetIterable iter Γ.env v = pure v) (h0 : J 0 lc P)
    (turn : ∀ i lc P I it, i < n → J i lc P → ∃ lc₁, Dropped x (.i (a + (i : Int))) lc lc₁ ∧ Ex Γ lc₁ (Fresh I it P) body (Turn Γ I it (J (i + 1)) st R)) (done : ∀ lc P, J n lc P → Ex Γ lc P st R) :
    Ex Γ lc P (.For (.Name x xp) iter body [] pos :: st) R :=
  .forRangeX (φ := fun b' => b' = b) (fun s Q E S q => hit s Q E S fun r h' tk t1 t2 t3 hr S' => q b r h' tk t1 t2 t3 rfl hr S') hk hmod hfold fun b' e => ⟨n, J, e ▸ hsm, e ▸ hsz, h0, turn, done⟩
/-- a loop over a list -/
theorem Ex.forListT {x : Str} {xp pos : Pos} {iter : PX} {body st : List Stmt} {RV : Value → (Led → Prop) → Prop} (hit : EvT Γ lc P iter RV)
    (hk : Γ.env.kindOf x = some .local) (hmod : (Γ.env.scope.kind == .class || Γ.env.scope.kind == .module && Γ.env.locals != Γ.env.globals) = false) (hfold : ∀ v, foldedSetIterable iter Γ.env v = pure v)
    (h : ∀ v P', RV v P' → ∃ (l : Addr) (vs : List Value) (c : Nat) (J : Nat → Lcs → (Led → Prop) → Prop), v = .ref l ∧ (∀ i lc P, J i lc P → ∀ n, P n → (l, listOf vs.toArray c) ∈ n) ∧ J 0 lc P' ∧
      (∀ i v lc P I it, vs[i]? = some v → it.cls = .type "list_iterator" → J i lc P → ∃ vl lc₁, vl.is v ∧ Dropped x vl lc lc₁ ∧ Ex Γ lc₁ (Fresh I it P) body (Turn Γ I it (J (i + 1)) st R)) ∧ (∀ lc P, J vs.length lc P → Ex Γ lc P st R)) :
    Ex Γ lc P (.For (.Name x xp) iter body [] pos :: st) R := by
  refine .next fun s Q E po S q => ?_
  have hF := S.lc
  obtain ⟨m₀, Fm₀, _⟩ := hF
  refine For_invVF (m := m₀) Fm₀ hk hmod (hit s _ E S fun r P' h' tk hr S' => ?_) hfold po
  obtain ⟨l, vs, c, J, rfl, hl, h0, turn, done⟩ := h r P' hr
  obtain ⟨⟨m, Fm, hm⟩, news, N, hP⟩ := S'
  refine iter_listUnr (m₀ := m) (news := news) rfl Fm N (hl 0 lc P' h0 news hP) rfl rfl fun I hI => ?_
  refine list_ind (fun r m nx => ∃ i, r = vs.drop i ∧ i + r.length = vs.length ∧ ∃ lc P, J i lc P ∧ (∀ p ∈ lc, ∃ v, m p.1 = some v ∧ p.2.is v) ∧ P nx ∧ ∀ p ∈ nx, p.1 ≠ I) ?_ ?_ vs m news ⟨0, rfl, by omega, lc, P', h0, hm, hP, fun p hp => Nat.ne_of_lt (hI p hp)⟩
  · rintro m nx ⟨i, hr, hi, lc', P', hJ, hm', hP', _⟩ h tk F' N'
    have e : i = vs.length := by simpa using hi
    subst e
    exact q .next lc' P' h tk (done lc' P' hJ) ⟨⟨m, F', hm'⟩, nx, N', hP'⟩
  · rintro v r m nx ⟨i, hr, hi, lc', P', hJ, hm', hP', ho⟩ it h tk hcl F' N'
    have hlt : i < vs.length := by simp only [List.length_cons] at hi; omega
    rw [List.drop_eq_getElem_cons hlt] at hr
    injection hr with e1 e2
    obtain ⟨vl, lc₁, hv, hd, hx⟩ := turn i v lc' P' I it (by rw [e1]; exact List.getElem?_eq_getElem hlt) hcl hJ
    refine hx _ _ E po ⟨⟨_, F', hd.at hv hm'⟩, _, N', nx, rfl, hP', ho⟩ fun f lc2 P2 h2 tk2 r2 S2 => ?_
    exact turn_unr po ⟨_, _, rfl⟩ q (fun lc P m nx hj hl' hp ho => ⟨hl (i + 1) lc P hj nx hp, i + 1, e2, by simp only [List.length_cons] at hi; omega, lc, P, hj, hl', hp, ho⟩) r2 S2
theorem Ex.forList {x : Str} {xp pos : Pos} {iter : PX} {body st : List Stmt} {l : Addr} {vs : List Value} {c : Nat} (J : Nat → Lcs → (Led → Prop) → Prop) (hit : Ev Γ lc P iter (Vl.r l).is) (hl : ∀ i lc P, J i lc P → ∀ n, P n → (l, listOf vs.toArray c) ∈ n)
    (hk : Γ.env.kindOf x = some .local) (hmod : (Γ.env.scope.kind == .class || Γ.env.scope.kind == .module && Γ.env.locals != Γ.env.globals) = false) (hfold : ∀ v, foldedSetIterable iter Γ.env v = pure v) (h0 : J 0 lc P)
    (turn : ∀ i v lc P I it, vs[i]? = some v → it.cls = .type "list_iterator" → J i lc P → ∃ vl lc₁, vl.is v ∧ Dropped x vl lc lc₁ ∧ Ex Γ lc₁ (Fresh I it P) body (Turn Γ I it (J (i + 1)) st R)) (done : ∀ lc P, J vs.length lc P → Ex Γ lc P st R) :
    Ex Γ lc P (.For (.Name x xp) iter body [] pos :: st) R :=
  .forListT hit.toT hk hmod hfold fun v P' ⟨hv, e⟩ => ⟨l, vs, c, J, hv, hl, e ▸ h0, turn, done⟩
noncomputable abbrev callIs (fn : Str) (np pos : Pos) (es : List PX) (env : Env) : Prop := eval (.Call (.Name fn np) es [] pos) env = (do let f ← eval (.Name fn np) env; callWith pos f [] (backTo pos (starEach es env)) (backToKw pos (keywordEach [] env)))
theorem EvR.one {e : PX} {np pos : Pos} {b : Int} (he : Ev Γ lc P e (Vl.i b).is) (hk : Γ.env.kindOf (Str.ofString "range") = some .globalImplicit) (hb9 : nsIn (hd.heap_1 w.params) mainGlobals (Str.ofString "range") = some none)
    (hst : starEach [e] Γ.env = (false, eval e Γ.env) :: starEach [] Γ.env) (hany : ((backTo pos (starEach [] Γ.env)).any fun x => x.1) = false) (hcall : callIs (Str.ofString "range") np pos [e] Γ.env) : EvR Γ lc P (.Call (.Name (Str.ofString "range") np) [e] [] pos) 0 b := by
  intro s Q E S q
  obtain ⟨⟨m, Fm, hm'⟩, news, N, hP⟩ := S
  refine Call_ (nameX_B (v := .type "range") Fm Γ.X (topRead_of Γ.T) hb9 boot_range (by decide +kernel) ?_ Γ.hk hk (by decide +kernel)) hcall
  refine Pv.callWith_type1 (EvL.cons he .nil hst pos s _ E ⟨⟨m, Fm, hm'⟩, news, N, hP⟩ fun vs' h2 t2 hv S2 => ?_) hst hany
  obtain ⟨v, r, e1, ⟨t, e2⟩, e3⟩ := hv
  subst e1 e2 e3
  obtain ⟨⟨m2, F2, hm2⟩, n2, N2, hP2⟩ := S2
  exact range1_rows F2 N2 fun h' tk t1 t2 t3 hr F' N' _ => q _ h' tk t1 t2 t3 hr ⟨⟨m2, F', hm2⟩, n2, N', hP2⟩
theorem EvR.oneX {e : PX} {np pos : Pos} {φ : Int → Prop} (he : Ev Γ lc P e (fun v => ∃ b t, v = .int b t ∧ φ b)) (hk : Γ.env.kindOf (Str.ofString "range") = some .globalImplicit) (hb9 : nsIn (hd.heap_1 w.params) mainGlobals (Str.ofString "range") = some none)
    (hst : starEach [e] Γ.env = (false, eval e Γ.env) :: starEach [] Γ.env) (hany : ((backTo pos (starEach [] Γ.env)).any fun x => x.1) = false) (hcall : callIs (Str.ofString "range") np pos [e] Γ.env) :
    ∀ s Q E, St Γ s.heap lc P → (∀ b r h' tk t1 t2 t3, φ b → IsRange h' r 0 b 1 t1 t2 t3 → St Γ h' lc P → Q (.ref r) { s with heap := h', toks := tk }) → wpAny (model PR w) Γ.A (eval (.Call (.Name (Str.ofString "range") np) [e] [] pos) Γ.env) Q E s := by
  intro s Q E S q
  obtain ⟨⟨m, Fm, hm'⟩, news, N, hP⟩ := S
  refine Call_ (nameX_B (v := .type "range") Fm Γ.X (topRead_of Γ.T) hb9 boot_range (by decide +kernel) ?_ Γ.hk hk (by decide +kernel)) hcall
  refine Pv.callWith_type1 (EvL.cons he .nil hst pos s _ E ⟨⟨m, Fm, hm'⟩, news, N, hP⟩ fun vs' h2 t2 hv S2 => ?_) hst hany
  obtain ⟨v, r, e1, ⟨b, t, e2, hb⟩, e3⟩ := hv
  subst e1 e2 e3
  obtain ⟨⟨m2, F2, hm2⟩, n2, N2, hP2⟩ := S2
  exact range1_rows F2 N2 fun h' tk t1 t2 t3 hr F' N' _ => q b _ h' tk t1 t2 t3 hb hr ⟨⟨m2, F', hm2⟩, n2, N', hP2⟩
theorem EvR.two {e e' : PX} {np pos : Pos} {a b : Int} (he : Ev Γ lc P e (Vl.i a).is) (he' : Ev Γ lc P e' (Vl.i b).is) (hk : Γ.env.kindOf (Str.ofString "range") = some .globalImplicit) (hb9 : nsIn (hd.heap_1 w.params) mainGlobals (Str.ofString "range") = some none)
    (hst : starEach [e, e'] Γ.env = (false, eval e Γ.env) :: starEach [e'] Γ.env) (hst' : starEach [e'] Γ.env = (false, eval e' Γ.env) :: starEach [] Γ.env) (hany : ((backTo pos (starEach [e'] Γ.env)).any fun x => x.1) = false) (hcall : callIs (Str.ofString "range") np pos [e, e'] Γ.env) : EvR Γ lc P (.Call (.Name (Str.ofString "range") np) [e, e'] [] pos) a b := by
  intro s Q E S q
  obtain ⟨⟨m, Fm, hm'⟩, news, N, hP⟩ := S
  refine Call_ (nameX_B (v := .type "range") Fm Γ.X (topRead_of Γ.T) hb9 boot_range (by decide +kernel) ?_ Γ.hk hk (by decide +kernel)) hcall
  refine Pv.callWith_type1 (EvL.cons he (EvL.cons he' .nil hst') hst pos s _ E ⟨⟨m, Fm, hm'⟩, news, N, hP⟩ fun vs' h2 t2 hv S2 => ?_) hst hany
  obtain ⟨v, r, e1, ⟨t, e2⟩, v', r', e1', ⟨t', e2'⟩, e3⟩ := hv
  subst e1 e2 e1' e2' e3
  obtain ⟨⟨m2, F2, hm2⟩, n2, N2, hP2⟩ := S2
  exact range2_rows F2 N2 fun h' tk t1 t2 t3 hr F' N' _ => q _ h' tk t1 t2 t3 hr ⟨⟨m2, F', hm2⟩, n2, N', hP2⟩
/-- a call without arguments -/
theorem EvT.call0 {fn : Str} {np pos : Pos} {f : Addr} {dp un : Nat} {post : Value → Led → Prop} (hf : nsIn (hd.heap_1 w.params) mainGlobals fn = some (some (.ref f))) (hk : Γ.env.kindOf fn = some .globalImplicit) (hd9 : (fn == "__debug__") = false) (hkeep : keepIn (hd.heap_1 w.params) (.ref f) = true)
    (hcall : callIs fn np pos [] Γ.env) (spec : ∀ n, P n → Spec w f dp un [] n post) (hroom : Γ.room dp un) : EvT Γ lc P (.Call (.Name fn np) [] [] pos) (fun v P' => P' = fun n => post v n) := by
  intro s Q E S q
  obtain ⟨⟨m, Fm, hm⟩, news, N, hP⟩ := S
  refine Call_ (nameX_K Fm Γ.X (topRead_of Γ.T) hf ?_ Γ.hk hk hd9) hcall
  exact callWith_K0 (Γ.X.keeps Fm.keep) hkeep (spec_ev spec hroom ⟨⟨m, Fm, hm⟩, news, N, hP⟩ fun v h2 t2 S2 => q v _ h2 t2 rfl S2)
/-- an attribute of an object -/
theorem Ev.inst {o a : Str} {op pos : Pos} {x C dx : Addr} {es : List DictEntry} {c : Nat} {v : Value} (ho : Ev Γ lc P (.Name o op) (Vl.r x).is) (hx : ∀ n, P n → (x, instObj C dx) ∈ n) (hd9 : ∀ n, P n → (dx, dictOf es c) ∈ n)
    (h1 : plainGet (hd.heap_1 w.params) C a = true) (h2 : hasDictIn (hd.heap_1 w.params) C = true) (h3 : findIn (hd.heap_1 w.params) (.ref C) a = some none) (h4 : getL a es = some (some v)) (h5 : handedIn v = true) : Ev Γ lc P (.Attribute (.Name o op) a pos) (fun u => u = v) := by
  intro s Q E S q
  refine Attribute_Name_ (ho s _ E S fun u h' tk hv S1 => ?_)
  have hv' : u = .ref x := hv
  subst hv'
  obtain ⟨⟨m, Fm, hm⟩, news, N, hP⟩ := S1
  exact get_own (attr := none) Fm Γ.X (InstAt.of_news N (hx news hP) (hd9 news hP)) h1 h2 h3 rfl h4 h5 (q v h' _ rfl ⟨⟨m, Fm, hm⟩, news, N, hP⟩)
theorem Ev.lst {b i : PX} {pos : Pos} {a : Addr} {vs : List Value} {c : Nat} {k : Int} {v : Value} (hb : Ev Γ lc P b (Vl.r a).is) (hi : Ev Γ lc P i (Vl.i k).is) (hm : ∀ n, P n → (a, listOf vs.toArray c) ∈ n) (h1 : 0 ≤ k) (h2 : k < 2 ^ 63) (hv : vs[k.toNat]? = some v)
    (hs : ∀ t, subscripted i false (.ref a) (.int k t) = operate [.ref a, .int k t] (getItem (.ref a) (.int k t))) : Ev Γ lc P (.Subscript b i pos) (fun u => u = v) := by
  intro s Q E S q
  refine Subscript_ (hb s _ E S fun o h1' t1 x1 S1 => hi _ _ E S1 fun o2 h2' t2 x2 S2 => ?_)
  have x1' : o = .ref a := x1
  obtain ⟨t, x2'⟩ := x2
  subst x1' x2'
  obtain ⟨⟨m, Fm, hml⟩, news, N, hP⟩ := S2
  have hl : h2'.IsList a vs.toArray := News.isList N (hm news hP)
  exact tail_any hl.typeIs slot_list_getitem.lookup (wpAny_getItem_list hl h1 h2 (by simpa using hv) (q v h2' t2 rfl ⟨⟨m, Fm, hml⟩, news, N, hP⟩)) (hs t)
theorem Ev.lenL {b : PX} {np pos : Pos} {a : Addr} {vs : List Value} {c : Nat} (hb : Ev Γ lc P b (Vl.r a).is) (hm : ∀ n, P n → (a, listOf vs.toArray c) ∈ n) (hl : vs.length ≤ 1000) (hk : Γ.env.kindOf (Str.ofString "len") = some .globalImplicit) (hb9 : nsIn (hd.heap_1 w.params) mainGlobals (Str.ofString "len") = some none)
    (hst : starEach [b] Γ.env = (false, eval b Γ.env) :: starEach [] Γ.env) (hany : ((backTo pos (starEach [] Γ.env)).any fun x => x.1) = false)
    (hcall : callIs (Str.ofString "len") np pos [b] Γ.env) : Ev Γ lc P (.Call (.Name (Str.ofString "len") np) [b] [] pos) (Vl.i vs.length).is := by
  intro s Q E S q
  obtain ⟨⟨m, Fm, hm'⟩, news, N, hP⟩ := S
  refine Call_ (nameX_B (v := .builtin "len") Fm Γ.X (topRead_of Γ.T) hb9 (by kernel_rfl!) (by decide +kernel) ?_ Γ.hk hk (by decide +kernel)) hcall
  refine callWith_builtin1 (EvL.cons hb .nil hst pos s _ E ⟨⟨m, Fm, hm'⟩, news, N, hP⟩ fun vs' h2 t2 hv S2 => ?_) hst hany
  obtain ⟨v, r, e1, e2, e3⟩ := hv
  have e2' : v = .ref a := e2
  subst e1 e2' e3
  obtain ⟨⟨m2, F2, hm2⟩, n2, N2, hP2⟩ := S2
  exact kun_lenL (News.isList N2 (hm n2 hP2)) (k := vs.length) (by simp) (by omega) (q _ h2 _ ⟨_, rfl⟩ ⟨⟨m2, F2, hm2⟩, n2, N2, hP2⟩)
/-- len of a text -/
theorem Ev.lenS {b : PX} {np pos : Pos} {x : Str} (hb : Ev Γ lc P b (Vl.s x).is) (hl : x.length ≤ 1000) (hk : Γ.env.kindOf (Str.ofString "len") = some .globalImplicit) (hb9 : nsIn (hd.heap_1 w.params) mainGlobals (Str.ofString "len") = some none)
    (hst : starEach [b] Γ.env = (false, eval b Γ.env) :: starEach [] Γ.env) (hany : ((backTo pos (starEach [] Γ.env)).any fun x => x.1) = false)
    (hcall : callIs (Str.ofString "len") np pos [b] Γ.env) : Ev Γ lc P (.Call (.Name (Str.ofString "len") np) [b] [] pos) (Vl.i x.length).is := by
  intro s Q E S q
  obtain ⟨⟨m, Fm, hm'⟩, news, N, hP⟩ := S
  refine Call_ (nameX_B (v := .builtin "len") Fm Γ.X (topRead_of Γ.T) hb9 (by kernel_rfl!) (by decide +kernel) ?_ Γ.hk hk (by decide +kernel)) hcall
  refine callWith_builtin1 (EvL.cons hb .nil hst pos s _ E ⟨⟨m, Fm, hm'⟩, news, N, hP⟩ fun vs' h2 t2 hv S2 => ?_) hst hany
  obtain ⟨v, r, e1, ⟨t, e2⟩, e3⟩ := hv
  subst e1 e2 e3
  exact len_writK _ rfl (by omega) (q _ h2 _ ⟨_, rfl⟩ S2)
/-- x[i:] of a text -/
theorem Ev.cutS {b i : PX} {pos lp : Pos} {x : Str} {k : Int} (hb : Ev Γ lc P b (Vl.s x).is) (hi : Ev Γ lc P i (Vl.i k).is) (hl : x.length ≤ 1000)
    (hs : ∀ t a, subscripted (.Slice (some i) none none lp) false (.str x t) (.ref a) = operate [.ref a, .str x t] (getItem (.str x t) (.ref a))) (hg : ∀ t r, letTemporaryGo b (.str x t) r = pure ()) :
    Ev Γ lc P (.Subscript b (.Slice (some i) none none lp) pos) (Vl.s (Txt.slice x (some k) none)).is := by
  intro s Q E S q
  refine Subscript_ (hb s _ E S fun o h1 t1 x1 S1 => wpAny_Slice (evalPart_some_step (hi _ _ E S1 fun o2 h2 t2 x2 S2 => evalPart_none_step (evalPart_none_step ?_))))
  obtain ⟨t, x1'⟩ := x1
  obtain ⟨t', x2'⟩ := x2
  subst x1' x2'
  obtain ⟨⟨m, Fm, hm⟩, news, N, hP⟩ := S2
  exact slice_strN_sn (s := ⟨h2, s.gens, s.drawn, t2, s.os⟩) Fm N (fun h' t' k F' N' => q _ h' k ⟨_, rfl⟩ ⟨⟨m, F', hm⟩, news, N', hP⟩) (hs _ _) (hg _) (by rw [sizeLine_eq]; omega)
/-- a text of so many signs -/
noncomputable def TL (lo hi : Nat) : Value → Prop := fun v => ∃ x t, v = .str x t ∧ lo ≤ x.length ∧ x.length ≤ hi
theorem Ev.text {x : Str} {k n : Nat} {pos : Pos} (hn : x.length = n) : Ev Γ lc P (.Constant (.str x) k pos) (TL n n) := Ev.str.mono fun _ ⟨t, e⟩ => ⟨x, t, e, Nat.le_of_eq hn.symm, Nat.le_of_eq hn⟩
theorem Ev.cat {a b : PX} {pos : Pos} {l1 h1 l2 h2 : Nat} (ha : Ev Γ lc P a (TL l1 h1)) (hb : Ev Γ lc P b (TL l2 h2)) (hs : h1 + h2 ≤ 1000) : Ev Γ lc P (.BinOp a .Add b pos) (TL (l1 + l2) (h1 + h2)) :=
  ha.bin hb fun _ _ ⟨x, t, e1, a1, b1⟩ ⟨y, u, e2, a2, b2⟩ s Q E q => by
    subst e1 e2
    exact PyProof.Rows.add_str (fun t' tk => q _ tk ⟨x ++ y, t', rfl, by rw [Str.length_append]; omega, by rw [Str.length_append]; omega⟩) (by rw [sizeLine_eq]; omega)
end
/-- what a def's call gives: its arguments bound -/
noncomputable def lcOk : Lcs → List (Str × Value) → Prop
  | [], _ => True
  | p :: l, b => (∃ v, b.lookup p.1 = some v ∧ p.2.is v) ∧ lcOk l b
theorem lcOk.all {b : List (Str × Value)} : ∀ {lc : Lcs}, lcOk lc b → ∀ p ∈ lc, ∃ v, b.lookup p.1 = some v ∧ p.2.is v
  | _ :: _, ⟨h, r⟩, p, hp => by
    rcases List.mem_cons.mp hp with rfl | hp
    · exact h
    · exact lcOk.all r p hp
theorem Spec.body {w : World} {f : Addr} {d u d1 u1 : Nat} {args : List Value} {P : Led → Prop} {post : Value → Led → Prop} {lc : Lcs} {name qual : Str} {params : Arguments} {body : List Stmt} {scope : Scope} {dV kV doc pm cdv ct oc : Value} {an od : Option Addr} {osl : Array (Option Value)} {binds : List (Str × Value)}
    (k6 : (hd.heap_1 w.params).lookup f = some { cls := oc, dict := od, data := .func (fnOf name qual params body scope dV kV doc pm an cdv ct), slots := osl })
    (k7 : codeIn (hd.heap_1 w.params) cdv qual = true) (k9 : bindArgs (fnOf name qual params body scope dV kV doc pm an cdv ct) ⟨args, []⟩ = pure binds)
    (kB : (binds.all fun x => decide (scope.names.lookup x.1 = some .local)) = true) (c2 : scope.isCoroutine = false) (c3 : scope.isGenerator = false) (c4 : scope.kind = .function) (c5 : ∀ x ∈ scope.names, x.2 ≠ .cell)
    (hlc : lcOk lc binds.reverse) (hd1 : d1 = d + 1) (hu1 : u1 = u + 3)
    (H : ∀ Γ : Cx w ⟨qual, scope, f, cdv, []⟩, Γ.room d u → Ex Γ lc P body (Ends post)) : ∀ news, P news → Spec w f d1 u1 args news post := by
  subst hd1 hu1
  intro news hP
  unfold Spec
  intro p loose mean mg mb dp un gd cn cs a ccd cl outer A₀ base h₀ L m s Q E B Fm X N T hkind hd hu hret
  refine wpAny_call ?_
  refine code_def B Fm X N T rfl rfl hkind k6 k7 (by show dp < _; omega) (BindsTo.of_eq k9) (locs kB) ?_ c2 c3 c4 c5
  intro g' L' h' FG' F' N' B' X' T'
  exact H ⟨p, loose, mean, mg, mb, dp + 1, un + 3, gd, envX cn cs L a ccd cl :: outer, _, _, g', L', B', X', T', c4⟩ ⟨by show dp + 1 + d < _; omega, by show un + 3 + u < _; omega⟩ _ _ _ PassesOwn.leaving ⟨⟨_, F', hlc.all⟩, news, N', hP⟩ fun fl lc' P' h2 tk hr S2 => by
    obtain ⟨⟨m2, F2, _⟩, n2, N2, hP2⟩ := S2
    cases fl with
    | next => exact leaveK_ F2 N2 fun F3 N3 => hret _ _ _ _ F3 N3 (hr n2 hP2)
    | ret v => exact leaveK_ F2 N2 fun F3 N3 => hret _ _ _ _ F3 N3 (hr n2 hP2)
    | brk => exact hr.elim
    | cont => exact hr.elim
end Mine
end

section
open PySem PySem.W PySem.Spec PySem.Calls PyProof.Rows
set_option Elab.async false
set_option maxRecDepth 100000
set_option maxHeartbeats 4000000
namespace Mine
section
variable {w : World} {F : Fn} {Γ : Cx w F} {lc lc' : Lcs} {R : RX} {k : Nat → Tok} {sg dx x : Addr} {S : CS} {rest : Led}
/-- what the checker's plain attributes hold -/
inductive CkA (S : CS) (sg : Addr) : Str → Vl → Prop
  | symbols : CkA S sg (Str.ofString "symbols") (.r sg)
  | size : CkA S sg (Str.ofString "size") (.i S.size)
  | due : CkA S sg (Str.ofString "due") (.i S.due)
  | family : CkA S sg (Str.ofString "family") (.s S.fam)
  | building : CkA S sg (Str.ofString "building") (.i S.bld)
  | ended : CkA S sg (Str.ofString "ended") (.b S.en)
theorem ck_read {a : Str} {vl : Vl} {expr : Bool} (hx : (x, instObj 358 dx) ∈ rest) (ha : CkA S sg a vl) {s : Shared} {Q E : Value → Shared → Prop} (S₀ : St Γ s.heap lc (Ck w k sg dx S rest))
    (q : ∀ v h' tk, vl.is v → St Γ h' lc (Ck w k sg dx S rest) → Q v { s with heap := h', toks := tk }) : wpAny (model PR w) Γ.A (getAttr (.ref x) a expr) Q E s := by
  obtain ⟨⟨m, Fm, hm⟩, news, N, hC⟩ := S₀
  obtain ⟨D, rfl⟩ := hC
  have I := InstAt.of_news N (.tail _ (.tail _ (.tail _ hx))) (.head _)
  have S2 : St Γ s.heap lc (Ck w k sg dx S rest) := ⟨⟨m, Fm, hm⟩, _, N, ⟨D, rfl⟩⟩
  cases ha <;> exact get_own (attr := none) Fm Γ.X I (by kernel_rfl!) (by kernel_rfl!) (by kernel_rfl!) (by kernel_rfl!) rfl rfl (q _ s.heap _ (by first | rfl | exact ⟨_, rfl⟩) S2)
theorem Ev.ck {self a : Str} {sp pos : Pos} {vl : Vl} (hs : (self, Vl.r x) ∈ lc) (hx : (x, instObj 358 dx) ∈ rest) (ha : CkA S sg a vl) (hk : Γ.env.kindOf self = some .local) (hd : (self == "__debug__") = false) :
    Ev Γ lc (Ck w k sg dx S rest) (.Attribute (.Name self sp) a pos) vl.is := by
  intro s Q E S₀ q
  refine Attribute_Name_ (Ev.name hs hk hd s _ E S₀ fun v h' tk hv S1 => ?_)
  have hv' : v = .ref x := hv
  subst hv'
  exact ck_read hx ha S1 fun v h2 t2 hv2 S2 => q v h2 t2 hv2 S2
/-- a plain attribute is stored -/
inductive CkS (S : CS) : Str → Vl → CS → Prop
  | size (n : Int) : CkS S (Str.ofString "size") (.i n) { S with size := n }
  | due (n : Int) : CkS S (Str.ofString "due") (.i n) { S with due := n }
  | family (n : Str) : CkS S (Str.ofString "family") (.s n) { S with fam := n }
  | building (n : Int) : CkS S (Str.ofString "building") (.i n) { S with bld := n }
  | ended (b : Bool) : CkS S (Str.ofString "ended") (.b b) { S with en := b }
  | fault (x : Str) : x ≠ Str.ofString "" → x.length ≤ 100 → CkS S (Str.ofString "fault") (.s x) S.complain
theorem upd3 {d : Addr} {o o' : Obj} {xa ya : Addr} {ox oy : Obj} {rest : Led} (n1 : @Ne Nat d xa) (n2 : @Ne Nat d ya) (hr : ∀ p ∈ rest, p.1 ≠ d) : Upd d o o' ((d, o) :: (xa, ox) :: (ya, oy) :: rest) ((d, o') :: (xa, ox) :: (ya, oy) :: rest) :=
  .head fun p hp => by
    rcases List.mem_cons.mp hp with rfl | hp
    · exact Ne.symm n1
    · rcases List.mem_cons.mp hp with rfl | hp
      · exact Ne.symm n2
      · exact hr p hp
theorem ck_set {a : Str} {vl : Vl} {S' : CS} {v : Value} (hx : (x, instObj 358 dx) ∈ rest) (ha : CkS S a vl S') (hv : vl.is v) {s : Shared} {Q : Unit → Shared → Prop} {E : Value → Shared → Prop} (S₀ : St Γ s.heap lc (Ck w k sg dx S rest))
    (q : ∀ h' tk, St Γ h' lc (Ck w k sg dx S' rest) → Q () { s with heap := h', toks := tk }) : wpAny (model PR w) Γ.A (setAttr (.ref x) a v) Q E s := by
  obtain ⟨⟨m, Fm, hm⟩, news, N, hC⟩ := S₀
  obtain ⟨D, rfl⟩ := hC
  have I := InstAt.of_news N (.tail _ (.tail _ (.tail _ hx))) (.head _)
  cases ha with
  | fault y h1 h2 =>
    obtain ⟨t, rfl⟩ := hv
    exact set_dict (es' := ckEs w.params k (.ref sg) (.ref D.xa) (.ref D.ya) (.int S.size D.t1) (.int S.due D.t2) (.str S.fam D.t3) (.int S.bld D.t4) (.bool S.en) (.str y t)) Fm Γ.X N I rfl (by kernel_rfl!) (by kernel_rfl!) (by kernel_rfl!) (by kernel_rfl!) rfl rfl (upd3 D.hn1 D.hn2 D.hr1) (Nat.le_of_ble_eq_true rfl) fun h' F' N' => q h' _ ⟨⟨m, F', hm⟩, _, N', Ck.mk' (S := S.complain) (bad_iff h1) h2 D.hox D.hoy D.hlx D.hly D.hn1 D.hn2 D.hn3 D.hr1 D.hr2 D.hr3⟩
  | size n =>
    obtain ⟨t, rfl⟩ := hv
    exact set_dict (es' := ckEs w.params k (.ref sg) (.ref D.xa) (.ref D.ya) (.int n t) (.int S.due D.t2) (.str S.fam D.t3) (.int S.bld D.t4) (.bool S.en) (.str D.flt D.t5)) Fm Γ.X N I rfl (by kernel_rfl!) (by kernel_rfl!) (by kernel_rfl!) (by kernel_rfl!) rfl rfl (upd3 D.hn1 D.hn2 D.hr1) (Nat.le_of_ble_eq_true rfl) fun h' F' N' => q h' _ ⟨⟨m, F', hm⟩, _, N', Ck.mk' (S := { S with size := n }) D.hflt D.hfl D.hox D.hoy D.hlx D.hly D.hn1 D.hn2 D.hn3 D.hr1 D.hr2 D.hr3⟩
  | due n =>
    obtain ⟨t, rfl⟩ := hv
    exact set_dict (es' := ckEs w.params k (.ref sg) (.ref D.xa) (.ref D.ya) (.int S.size D.t1) (.int n t) (.str S.fam D.t3) (.int S.bld D.t4) (.bool S.en) (.str D.flt D.t5)) Fm Γ.X N I rfl (by kernel_rfl!) (by kernel_rfl!) (by kernel_rfl!) (by kernel_rfl!) rfl rfl (upd3 D.hn1 D.hn2 D.hr1) (Nat.le_of_ble_eq_true rfl) fun h' F' N' => q h' _ ⟨⟨m, F', hm⟩, _, N', Ck.mk' (S := { S with due := n }) D.hflt D.hfl D.hox D.hoy D.hlx D.hly D.hn1 D.hn2 D.hn3 D.hr1 D.hr2 D.hr3⟩
  | family n =>
    obtain ⟨t, rfl⟩ := hv
    exact set_dict (es' := ckEs w.params k (.ref sg) (.ref D.xa) (.ref D.ya) (.int S.size D.t1) (.int S.due D.t2) (.str n t) (.int S.bld D.t4) (.bool S.en) (.str D.flt D.t5)) Fm Γ.X N I rfl (by kernel_rfl!) (by kernel_rfl!) (by kernel_rfl!) (by kernel_rfl!) rfl rfl (upd3 D.hn1 D.hn2 D.hr1) (Nat.le_of_ble_eq_true rfl) fun h' F' N' => q h' _ ⟨⟨m, F', hm⟩, _, N', Ck.mk' (S := { S with fam := n }) D.hflt D.hfl D.hox D.hoy D.hlx D.hly D.hn1 D.hn2 D.hn3 D.hr1 D.hr2 D.hr3⟩
  | building n =>
    obtain ⟨t, rfl⟩ := hv
    exact set_dict (es' := ckEs w.params k (.ref sg) (.ref D.xa) (.ref D.ya) (.int S.size D.t1) (.int S.due D.t2) (.str S.fam D.t3) (.int n t) (.bool S.en) (.str D.flt D.t5)) Fm Γ.X N I rfl (by kernel_rfl!) (by kernel_rfl!) (by kernel_rfl!) (by kernel_rfl!) rfl rfl (upd3 D.hn1 D.hn2 D.hr1) (Nat.le_of_ble_eq_true rfl) fun h' F' N' => q h' _ ⟨⟨m, F', hm⟩, _, N', Ck.mk' (S := { S with bld := n }) D.hflt D.hfl D.hox D.hoy D.hlx D.hly D.hn1 D.hn2 D.hn3 D.hr1 D.hr2 D.hr3⟩
  | ended b =>
    have hv' : v = .bool b := hv
    subst hv'
    exact set_dict (es' := ckEs w.params k (.ref sg) (.ref D.xa) (.ref D.ya) (.int S.size D.t1) (.int S.due D.t2) (.str S.fam D.t3) (.int S.bld D.t4) (.bool b) (.str D.flt D.t5)) Fm Γ.X N I rfl (by kernel_rfl!) (by kernel_rfl!) (by kernel_rfl!) (by kernel_rfl!) rfl rfl (upd3 D.hn1 D.hn2 D.hr1) (Nat.le_of_ble_eq_true rfl) fun h' F' N' => q h' _ ⟨⟨m, F', hm⟩, _, N', Ck.mk' (S := { S with en := b }) D.hflt D.hfl D.hox D.hoy D.hlx D.hly D.hn1 D.hn2 D.hn3 D.hr1 D.hr2 D.hr3⟩
theorem Ex.ckSet {self a : Str} {sp ap pos : Pos} {e : PX} {st : List Stmt} {vl : Vl} {S' : CS} (hs : (self, Vl.r x) ∈ lc) (hx : (x, instObj 358 dx) ∈ rest) (he : Ev Γ lc (Ck w k sg dx S rest) e vl.is) (ha : CkS S a vl S') (hk : Γ.env.kindOf self = some .local) (hd : (self == "__debug__") = false)
    (hw : swapsWith e (some (.Attribute (.Name self sp) a ap)) pos.line Γ.env = pure false) (hr : Ex Γ lc (Ck w k sg dx S' rest) st R) : Ex Γ lc (Ck w k sg dx S rest) (.Assign [.Attribute (.Name self sp) a ap] e pos :: st) R :=
  .next fun s Q E po S q => plainObj_wpAny_Assign_Attribute (he s _ E S fun v h1 t1 hv S1 => Ev.name hs hk hd _ _ E S1 fun u h2 t2 hu S2 => by
    have hu' : u = .ref x := hu
    subst hu'
    exact ck_set hx ha hv S2 fun h3 t3 S3 => q .next lc _ h3 t3 hr S3) hw
/-- self.due -= n -/
theorem Ex.ckSub {self : Str} {sp ap pos : Pos} {e : PX} {st : List Stmt} {n : Int} (hs : (self, Vl.r x) ∈ lc) (hx : (x, instObj 358 dx) ∈ rest) (he : Ev Γ lc (Ck w k sg dx S rest) e (Vl.i n).is) (hk : Γ.env.kindOf self = some .local) (hd : (self == "__debug__") = false)
    (hr : Ex Γ lc (Ck w k sg dx { S with due := S.due - n } rest) st R) : Ex Γ lc (Ck w k sg dx S rest) (.AugAssign (.Attribute (.Name self sp) (Str.ofString "due") ap) .Sub e pos :: st) R :=
  .next fun s Q E po S₀ q => wpAny_AugAssign_AttributeAny (Ev.name hs hk hd s _ E S₀ fun u h1 t1 hu S1 => by
    have hu' : u = .ref x := hu
    subst hu'
    refine ck_read hx .due S1 fun o h2 t2 ho S2 => he _ _ E S2 fun v h3 t3 hv S3 => ?_
    obtain ⟨t, rfl⟩ := ho
    obtain ⟨t', rfl⟩ := hv
    exact isub_int (ck_set hx (.due (S.due - n)) ⟨_, rfl⟩ S3 fun h4 t4 S4 => q .next lc _ h4 t4 hr S4))
/-- k not in self.xs (b) or self.ys -/
noncomputable def CS.reg (S : CS) (y : Bool) : List Int := if y then S.ys else S.xs
noncomputable def regN (y : Bool) : Str := if y then Str.ofString "ys" else Str.ofString "xs"
theorem ck_dict {y : Bool} {expr : Bool} (hx : (x, instObj 358 dx) ∈ rest) {s : Shared} {Q E : Value → Shared → Prop} (S₀ : St Γ s.heap lc (Ck w k sg dx S rest))
    (q : ∀ m news d od g h' tk, Fr Γ.h₀ Γ.L h' m → (∀ p ∈ lc, ∃ v, m p.1 = some v ∧ p.2.is v) → News Γ.h₀ Γ.L h' news → Ck w k sg dx S rest news → (d, od) ∈ news → (d == sysModules) = false → od.IsDictOf (intKind PR w) (kvL (S.reg y)) → UpdF d od news g →
      (∀ o' ks, o'.IsDictOf (intKind PR w) (kvL ks) → Ck w k sg dx (if y then { S with ys := ks } else { S with xs := ks }) rest (g o')) → Q (.ref d) { s with heap := h', toks := tk }) :
    wpAny (model PR w) Γ.A (getAttr (.ref x) (regN y) expr) Q E s := by
  obtain ⟨⟨m, Fm, hm⟩, news, N, hC⟩ := S₀
  obtain ⟨D, rfl⟩ := hC
  have I := InstAt.of_news N (.tail _ (.tail _ (.tail _ hx))) (.head _)
  cases y with
  | false =>
    exact get_own (attr := none) Fm Γ.X I (by kernel_rfl!) (by kernel_rfl!) (by kernel_rfl!) (by kernel_rfl!) rfl rfl
      (q m _ D.xa D.ox _ s.heap _ Fm hm N ⟨D, rfl⟩ (.tail _ (.head _)) D.hlx D.hox (.tail D.hn1 (.head fun p hp => by rcases List.mem_cons.mp hp with rfl | hp; exact Ne.symm D.hn3; exact D.hr2 p hp)) fun o' ks ho => Ck.mk' (S := { S with xs := ks }) D.hflt D.hfl ho D.hoy D.hlx D.hly D.hn1 D.hn2 D.hn3 D.hr1 D.hr2 D.hr3)
  | true =>
    exact get_own (attr := none) Fm Γ.X I (by kernel_rfl!) (by kernel_rfl!) (by kernel_rfl!) (by kernel_rfl!) rfl rfl
      (q m _ D.ya D.oy _ s.heap _ Fm hm N ⟨D, rfl⟩ (.tail _ (.tail _ (.head _))) D.hly D.hoy (.tail D.hn2 (.tail D.hn3 (.head D.hr3))) fun o' ks ho => Ck.mk' (S := { S with ys := ks }) D.hflt D.hfl D.hox ho D.hlx D.hly D.hn1 D.hn2 D.hn3 D.hr1 D.hr2 D.hr3)
theorem Ec.notin {y : Bool} {self : Str} {sp ap pos : Pos} {e : PX} {i : Int} (he : Ev Γ lc (Ck w k sg dx S rest) e (Vl.i i).is) (hs : (self, Vl.r x) ∈ lc) (hx : (x, instObj 358 dx) ∈ rest) (hk : Γ.env.kindOf self = some .local) (hd : (self == "__debug__") = false) :
    Ec Γ lc (Ck w k sg dx S rest) (.Compare e [.NotIn] [.Attribute (.Name self sp) (regN y) ap] pos) (decide (i ∉ S.reg y)) := by
  intro s Q E S₀ q
  refine wpAny_isTrue_Compare1 (he s _ E S₀ fun v h1 t1 hv S1 => Attribute_Name_ (Ev.name hs hk hd _ _ E S1 fun u h2 t2 hu S2 => ?_)) rfl
  have hu' : u = .ref x := hu
  subst hu'
  obtain ⟨t, rfl⟩ := hv
  exact ck_dict hx S2 fun m news d od g h3 t3 Fm hm N hC hd ho hk hu hg => notin_ks N hd ho hk (wpAny_truthy_bool (q h3 _ ⟨⟨m, Fm, hm⟩, news, N, hC⟩))
/-- self.xs[k] = True -/
theorem Ex.ckPut {y : Bool} {self : Str} {sp ap ip pos vp : Pos} {kn : Nat} {e : PX} {st : List Stmt} {i : Int} (he : ∀ P : Led → Prop, (∀ n, P n → Ck w k sg dx S rest n) → Ev Γ lc P e (Vl.i i).is) (hs : (self, Vl.r x) ∈ lc) (hx : (x, instObj 358 dx) ∈ rest) (hk : Γ.env.kindOf self = some .local) (hd : (self == "__debug__") = false)
    (hz : (S.reg y).length ≤ 1000) (hw : swapsWith (.Constant (.bool true) kn vp) (some (.Subscript (.Attribute (.Name self sp) (regN y) ap) e ip)) pos.line Γ.env = pure false)
    (hr : Ex Γ lc (Ck w k sg dx (if y then { S with ys := ins (S.reg y) i } else { S with xs := ins (S.reg y) i }) rest) st R) : Ex Γ lc (Ck w k sg dx S rest) (.Assign [.Subscript (.Attribute (.Name self sp) (regN y) ap) e ip] (.Constant (.bool true) kn vp) pos :: st) R := by
  refine .next fun s Q E po S₀ q => wpAny_Assign_Subscript (Ev.bool s _ E S₀ fun v h1 t1 hv S1 => Attribute_Name_ (Ev.name hs hk hd _ _ E S1 fun u h2 t2 hu S2 => ?_)) hw
  have hu' : u = .ref x := hu
  have hv' : v = .bool true := hv
  subst hu' hv'
  refine ck_dict hx S2 fun m news d od g h3 t3 Fm hm N hC hd ho hk hu hg => he (fun n => n = news) (fun n e => e ▸ hC) _ _ E ⟨⟨m, Fm, hm⟩, news, N, rfl⟩ fun v h4 t4 hv S4 => ?_
  obtain ⟨⟨m4, F4, hm4⟩, n4, N4, rfl⟩ := S4
  obtain ⟨t, rfl⟩ := hv
  exact set_ks F4 N4 hu hk hz fun h' o' F' N' hd' => q .next lc _ h' _ hr ⟨⟨m4, F', hm4⟩, _, N', hg o' _ hd'⟩
/-- self.xs = {} -/
theorem Ex.ckNew {y : Bool} {self : Str} {sp ap pos dp : Pos} {st : List Stmt} (hs : (self, Vl.r x) ∈ lc) (hx : (x, instObj 358 dx) ∈ rest) (hk : Γ.env.kindOf self = some .local) (hd : (self == "__debug__") = false)
    (hw : swapsWith (.Dict [] [] dp) (some (.Attribute (.Name self sp) (regN y) ap)) pos.line Γ.env = pure false)
    (hr : Ex Γ lc (Ck w k sg dx (if y then { S with ys := [] } else { S with xs := [] }) rest) st R) : Ex Γ lc (Ck w k sg dx S rest) (.Assign [.Attribute (.Name self sp) (regN y) ap] (.Dict [] [] dp) pos :: st) R := by
  refine .next fun s Q E po S₀ q => plainObj_wpAny_Assign_Attribute ?_ hw
  obtain ⟨⟨m, Fm, hm⟩, news, N, hC⟩ := S₀
  refine newDict_K Fm N Γ.T.nolimit fun d h1 o F1 N1 l1 lo _ _ ho _ => Ev.name (P := fun n => n = (d, o) :: news) hs hk hd _ _ E ⟨⟨m, F1, hm⟩, _, N1, rfl⟩ fun u h2 t2 hu S2 => ?_
  have hu' : u = .ref x := hu
  subst hu'
  obtain ⟨⟨m2, F2, hm2⟩, n2, N2, rfl⟩ := S2
  obtain ⟨D, rfl⟩ := hC
  have I := InstAt.of_news N2 (.tail _ (.tail _ (.tail _ (.tail _ hx)))) (.tail _ (.head _))
  have nd : ∀ p ∈ rest, p.1 ≠ d := fun p hp => Nat.ne_of_lt (l1 p (.tail _ (.tail _ (.tail _ hp))))
  have ndx : @Ne Nat dx d := Nat.ne_of_lt (l1 _ (.head _))
  have nxa : @Ne Nat D.xa d := Nat.ne_of_lt (l1 _ (.tail _ (.head _)))
  have nya : @Ne Nat D.ya d := Nat.ne_of_lt (l1 _ (.tail _ (.tail _ (.head _))))
  cases y with
  | false =>
    exact set_dict (es' := ckEs w.params k (.ref sg) (.ref d) (.ref D.ya) (.int S.size D.t1) (.int S.due D.t2) (.str S.fam D.t3) (.int S.bld D.t4) (.bool S.en) (.str D.flt D.t5)) F2 Γ.X N2 I rfl (by kernel_rfl!) (by kernel_rfl!) (by kernel_rfl!) (by kernel_rfl!) rfl rfl (.tail (Ne.symm ndx) (upd3 D.hn1 D.hn2 D.hr1)) (Nat.le_of_ble_eq_true rfl)
      fun h' F' N' => q .next lc _ h' _ hr ⟨⟨m2, F', hm2⟩, _, news_rotX N', Ck.mk' (S := { S with xs := [] }) D.hflt D.hfl ho D.hoy lo D.hly ndx D.hn2 (Ne.symm nya) D.hr1 nd D.hr3⟩
  | true =>
    exact set_dict (es' := ckEs w.params k (.ref sg) (.ref D.xa) (.ref d) (.int S.size D.t1) (.int S.due D.t2) (.str S.fam D.t3) (.int S.bld D.t4) (.bool S.en) (.str D.flt D.t5)) F2 Γ.X N2 I rfl (by kernel_rfl!) (by kernel_rfl!) (by kernel_rfl!) (by kernel_rfl!) rfl rfl (.tail (Ne.symm ndx) (upd3 D.hn1 D.hn2 D.hr1)) (Nat.le_of_ble_eq_true rfl)
      fun h' F' N' => q .next lc _ h' _ hr ⟨⟨m2, F', hm2⟩, _, news_rotY N', Ck.mk' (S := { S with ys := [] }) D.hflt D.hfl D.hox ho D.hlx lo D.hn1 ndx nxa D.hr1 D.hr2 nd⟩
/-- del self.ys[k] -/
theorem Ex.ckDel {y : Bool} {self : Str} {sp ap ip pos : Pos} {e : PX} {st : List Stmt} {i : Int} (he : ∀ P : Led → Prop, (∀ n, P n → Ck w k sg dx S rest n) → Ev Γ lc P e (Vl.i i).is) (hs : (self, Vl.r x) ∈ lc) (hx : (x, instObj 358 dx) ∈ rest) (hk : Γ.env.kindOf self = some .local) (hd : (self == "__debug__") = false)
    (hz : (S.reg y).length ≤ 1000) (hi : i ∈ S.reg y) (hr : Ex Γ lc (Ck w k sg dx (if y then { S with ys := (S.reg y).filter (fun j => decide (j ≠ i)) } else { S with xs := (S.reg y).filter (fun j => decide (j ≠ i)) }) rest) st R) :
    Ex Γ lc (Ck w k sg dx S rest) (.Delete [.Subscript (.Attribute (.Name self sp) (regN y) ap) e ip] pos :: st) R := by
  refine .next fun s Q E po S₀ q => wpAny_Delete (wpAny_deleteEach_cons (delete_Subscript (Attribute_Name_ (Ev.name hs hk hd _ _ E S₀ fun u h2 t2 hu S2 => ?_))))
  have hu' : u = .ref x := hu
  subst hu'
  refine ck_dict hx S2 fun m news d od g h3 t3 Fm hm N hC hd ho hk hu hg => he (fun n => n = news) (fun n e => e ▸ hC) _ _ E ⟨⟨m, Fm, hm⟩, news, N, rfl⟩ fun v h4 t4 hv S4 => ?_
  obtain ⟨⟨m4, F4, hm4⟩, n4, N4, rfl⟩ := S4
  obtain ⟨t, rfl⟩ := hv
  exact del_ks F4 N4 hu hk hi hz fun h' o' F' N' hd' => wpAny_deleteEach_nil (q .next lc _ h' _ hr ⟨⟨m4, F', hm4⟩, _, N', hg o' _ hd'⟩)
/-- sorted(self.ys) -/
theorem EvT.ckSorted {y : Bool} {self : Str} {np sp ap pos : Pos} (hs : (self, Vl.r x) ∈ lc) (hx : (x, instObj 358 dx) ∈ rest) (hz : (S.reg y).length ≤ 60) (hk : Γ.env.kindOf self = some .local) (hd : (self == "__debug__") = false) (hks : Γ.env.kindOf (Str.ofString "sorted") = some .globalImplicit)
    (hst : starEach [.Attribute (.Name self sp) (regN y) ap] Γ.env = (false, eval (.Attribute (.Name self sp) (regN y) ap) Γ.env) :: starEach [] Γ.env) (hcall : callIs (Str.ofString "sorted") np pos [.Attribute (.Name self sp) (regN y) ap] Γ.env) :
    EvT Γ lc (Ck w k sg dx S rest) (.Call (.Name (Str.ofString "sorted") np) [.Attribute (.Name self sp) (regN y) ap] [] pos) (fun v P' => ∃ B vs ms c, v = .ref B ∧ IntsAre vs ms ∧ ms.Perm (S.reg y) ∧ P' = Ck w k sg dx S ((B, listOf vs.toArray c) :: rest)) := by
  intro s Q E S₀ q
  obtain ⟨⟨m, Fm, hm⟩, news, N, hC⟩ := S₀
  refine Call_ (nameX_B (v := .builtin "sorted") Fm Γ.X (topRead_of Γ.T) (by kernel_rfl!) boot_sorted (by decide +kernel) ?_ Γ.hk hks (by decide +kernel)) hcall
  refine callWith_builtin1 (args_cons (Attribute_Name_ (Ev.name hs hk hd s _ E ⟨⟨m, Fm, hm⟩, news, N, hC⟩ fun u h2 t2 hu S2 => ?_)) hst) hst rfl
  have hu' : u = .ref x := hu
  subst hu'
  refine ck_dict hx S2 fun m news d od g h3 t3 Fm hm N hC hd ho hk hu hg => args_nil (sorted_ks rfl Fm N hd ho hk hz fun B c h' tk vs ms F' N' l1 hi hp => q _ _ h' tk ⟨B, vs, ms, c, rfl, hi, hp, rfl⟩ ⟨⟨m, F', hm⟩, ?_⟩)
  obtain ⟨D, rfl⟩ := hC
  refine ⟨_, News.sub N' ?_, Ck.mk' (t1 := D.t1) (t2 := D.t2) (t3 := D.t3) (t4 := D.t4) (t5 := D.t5) D.hflt D.hfl D.hox D.hoy D.hlx D.hly D.hn1 D.hn2 D.hn3 ?_ ?_ ?_⟩
  · intro p hp
    simp only [List.mem_cons] at hp ⊢
    grind
  · intro p hp
    rcases List.mem_cons.mp hp with rfl | hp
    · exact Nat.ne_of_gt (l1 _ (.head _))
    · exact D.hr1 p hp
  · intro p hp
    rcases List.mem_cons.mp hp with rfl | hp
    · exact Nat.ne_of_gt (l1 _ (.tail _ (.head _)))
    · exact D.hr2 p hp
  · intro p hp
    rcases List.mem_cons.mp hp with rfl | hp
    · exact Nat.ne_of_gt (l1 _ (.tail _ (.tail _ (.head _))))
    · exact D.hr3 p hp
/-- self.fault == '' -/
theorem Ec.faultNone {self : Str} {sp ap pos vp : Pos} {kn : Nat} (hs : (self, Vl.r x) ∈ lc) (hx : (x, instObj 358 dx) ∈ rest) (hk : Γ.env.kindOf self = some .local) (hd : (self == "__debug__") = false) :
    Ec Γ lc (Ck w k sg dx S rest) (.Compare (.Attribute (.Name self sp) (Str.ofString "fault") ap) [.Eq] [.Constant (.str (Str.ofString "")) kn vp] pos) (!S.bad) := by
  intro s Q E S₀ q
  refine wpAny_isTrue_Compare1 (Attribute_Name_ (Ev.name hs hk hd s _ E S₀ fun u h2 t2 hu S2 => ?_)) rfl
  have hu' : u = .ref x := hu
  subst hu'
  obtain ⟨⟨m, Fm, hm⟩, news, N, hC⟩ := S2
  have S3 : St Γ h2 lc (Ck w k sg dx S rest) := ⟨⟨m, Fm, hm⟩, news, N, hC⟩
  obtain ⟨D, rfl⟩ := hC
  have I := InstAt.of_news N (.tail _ (.tail _ (.tail _ hx))) (.head _)
  have e : (D.flt == Str.ofString "") = !S.bad := by
    cases hb : S.bad with
    | false => exact beq_iff_eq.mpr (D.hflt.mpr hb)
    | true => exact beq_eq_false_iff_ne.mpr fun e => by have := D.hflt.mp e; rw [hb] at this; cases this
  refine get_own (attr := none) Fm Γ.X I (by kernel_rfl!) (by kernel_rfl!) (by kernel_rfl!) (by kernel_rfl!) rfl rfl (Calls.Constant_str (eq_str (wpAny_truthy_bool ?_)))
  rw [e]
  exact q _ _ S3
end
/-- a method: its def, and that it is a plain one -/
structure Mth (w : World) (C : Addr) (name : Str) (f : Addr) : Prop where
  at_ : findIn (hd.heap_1 w.params) (.ref C) name = some (some (.ref f))
  fn : isFn (hd.heap_1 w.params) (.ref f) = true
  plain : plainGet (hd.heap_1 w.params) C name = true
  keep : keepIn (hd.heap_1 w.params) (.ref f) = true
section
variable {w : World} {F : Fn} {Γ : Cx w F} {lc lc' : Lcs} {P : Led → Prop} {R : RX} {x C f : Addr} {meth : Str}
noncomputable def InstIn (P : Led → Prop) (x C : Addr) (meth : Str) : Prop := ∀ n, P n → ∀ h₀ L h, News h₀ L h n → ∃ ox es c, PySem.W.InstAt h x ox C (some (dictOf es c)) ∧ getL meth es = some none
theorem EvT.callM {o : PX} {ap pos : Pos} {dp un : Nat} {e : PX} {es : List PX} {Vs : List Value → Prop} {post : Value → Led → Prop} (M : Mth w C meth f) (ho : Ev Γ lc P o (Vl.r x).is) (hI : InstIn P x C meth)
    (ha : EvL Γ lc P (e :: es) Vs) (hst : starEach (e :: es) Γ.env = (false, eval e Γ.env) :: starEach es Γ.env) (hany : ((backTo pos (starEach es Γ.env)).any fun x => x.1) = false)
    (hpl : ∃ pl, eval (.Call (.Attribute o meth ap) (e :: es) [] pos) Γ.env = (do let ov ← eval o Γ.env; standAt ap.atName; let (f, first) ← holding [ov] (getMethod ov meth pl); callWith pos f first (backTo pos (starEach (e :: es) Γ.env)) []))
    (spec : ∀ vs, Vs vs → ∀ n, P n → Spec w f dp un (.ref x :: vs) n post) (hroom : Γ.room dp un) : EvT Γ lc P (.Call (.Attribute o meth ap) (e :: es) [] pos) (fun v P' => P' = fun n => post v n) := by
  intro s Q E S q
  obtain ⟨pl, hpl⟩ := hpl
  refine MethodCall_ (pl := pl) (ho s _ E S fun v1 h1 t1 x1 S1 => ?_) hpl
  have x1' : v1 = .ref x := x1
  subst x1'
  obtain ⟨⟨m, Fm, hm⟩, news, N, hP⟩ := S1
  obtain ⟨ox, es', c, I, hg⟩ := hI news hP _ _ _ N
  refine method_inst Fm Γ.X I M.plain M.at_ M.fn hg ?_
  refine callWith_K Γ.X M.keep (ha pos _ _ E ⟨⟨m, Fm, hm⟩, news, N, hP⟩ fun vs h' tk hv S1 => ⟨?_, ?_⟩) hst hany
  · obtain ⟨m', F', _⟩ := S1.lc
    exact Γ.X.keeps F'.keep
  · exact spec_ev (spec vs hv) hroom S1 fun v h2 t2 S2 => q v _ h2 t2 rfl S2
theorem EvT.callM0 {o : PX} {ap pos : Pos} {dp un : Nat} {post : Value → Led → Prop} (M : Mth w C meth f) (ho : Ev Γ lc P o (Vl.r x).is) (hI : InstIn P x C meth)
    (hpl : ∃ pl, eval (.Call (.Attribute o meth ap) [] [] pos) Γ.env = (do let ov ← eval o Γ.env; standAt ap.atName; let (f, first) ← holding [ov] (getMethod ov meth pl); callWith pos f first (backTo pos (starEach [] Γ.env)) []))
    (spec : ∀ n, P n → Spec w f dp un [.ref x] n post) (hroom : Γ.room dp un) : EvT Γ lc P (.Call (.Attribute o meth ap) [] [] pos) (fun v P' => P' = fun n => post v n) := by
  intro s Q E S q
  obtain ⟨pl, hpl⟩ := hpl
  refine MethodCall_ (pl := pl) (ho s _ E S fun v1 h1 t1 x1 S1 => ?_) hpl
  have x1' : v1 = .ref x := x1
  subst x1'
  obtain ⟨⟨m, Fm, hm⟩, news, N, hP⟩ := S1
  obtain ⟨ox, es', c, I, hg⟩ := hI news hP _ _ _ N
  refine method_inst Fm Γ.X I M.plain M.at_ M.fn hg ?_
  exact callWith_K0 (Γ.X.keeps Fm.keep) M.keep (spec_ev spec hroom ⟨⟨m, Fm, hm⟩, news, N, hP⟩ fun v h2 t2 S2 => q v _ h2 t2 rfl S2)
theorem instI {dx : Addr} {es : List DictEntry} {c : Nat} (hx : ∀ n, P n → (x, instObj C dx) ∈ n) (hd9 : ∀ n, P n → (dx, dictOf es c) ∈ n) (hg : getL meth es = some none) : InstIn P x C meth := fun n hn _ _ _ N => ⟨_, _, _, InstAt.of_news N (hx n hn) (hd9 n hn), hg⟩
theorem Ex.fact {φ : Prop} {body : List Stmt} (h : ∀ n, P n → φ) (hx : φ → Ex Γ lc P body R) : Ex Γ lc P body R := fun s Q E po S q => hx (let ⟨_, n, _, hn⟩ := S; h n hn) s Q E po S q
theorem ckI {k : Nat → Tok} {sg dx : Addr} {S : CS} {rest : Led} (hx : (x, instObj 358 dx) ∈ rest) (hg : ∀ P a b c d e f g h i, getL meth (ckEs P k a b c d e f g h i) = some none) : InstIn (Ck w k sg dx S rest) x 358 meth := fun n hC h₀ L h N => by
  obtain ⟨D, rfl⟩ := hC
  exact ⟨_, _, _, InstAt.of_news N (.tail _ (.tail _ (.tail _ hx))) (.head _), hg ..⟩
/-- self.meth(args), a row of its own -/
theorem Ex.ckCall {k : Nat → Tok} {sg dx : Addr} {S S' : CS} {rest : Led} {self : Str} {sp ap pos pos' : Pos} {dp un : Nat} {e : PX} {es : List PX} {st : List Stmt} {Vs : List Value → Prop} (M : Mth w 358 meth f) (hs : (self, Vl.r x) ∈ lc) (hx : (x, instObj 358 dx) ∈ rest) (hk : Γ.env.kindOf self = some .local) (hd : (self == "__debug__") = false)
    (hg : ∀ P a b c d e f g h i, getL meth (ckEs P k a b c d e f g h i) = some none) (ha : EvL Γ lc (Ck w k sg dx S rest) (e :: es) Vs) (hst : starEach (e :: es) Γ.env = (false, eval e Γ.env) :: starEach es Γ.env) (hany : ((backTo pos (starEach es Γ.env)).any fun x => x.1) = false)
    (hpl : ∃ pl, eval (.Call (.Attribute (.Name self sp) meth ap) (e :: es) [] pos) Γ.env = (do let ov ← eval (.Name self sp) Γ.env; standAt ap.atName; let (f, first) ← holding [ov] (getMethod ov meth pl); callWith pos f first (backTo pos (starEach (e :: es) Γ.env)) []))
    (hi : interactive Γ.env = false) (hw : swapsWith (.Call (.Attribute (.Name self sp) meth ap) (e :: es) [] pos) none pos'.line Γ.env = pure false)
    (spec : ∀ vs, Vs vs → ∀ n, Ck w k sg dx S rest n → Spec w f dp un (.ref x :: vs) n (fun r n' => r = .none ∧ Ck w k sg dx S' rest n')) (hroom : Γ.room dp un) (hr : Ex Γ lc (Ck w k sg dx S' rest) st R) :
    Ex Γ lc (Ck w k sg dx S rest) (.Expr (.Call (.Attribute (.Name self sp) meth ap) (e :: es) [] pos) pos' :: st) R :=
  .exprT (.callM M (.name hs hk hd) (ckI hx hg) ha hst hany hpl spec hroom) hi hw fun v P' e => by
    subst e
    exact .weak (fun _ h => h) (fun n hn => ⟨n, hn.2, fun _ h => h⟩) hr
end
end Mine
end

section
open PySem PySem.W PySem.Spec PySem.Calls PyProof.Rows
set_option Elab.async false
set_option maxRecDepth 100000
set_option maxHeartbeats 4000000
namespace Mine
theorem fillr1 : True ∨ (PySem.Challenge.rw_sa0151_01 = PySem.Challenge.rw_sa0151_01 ∧ hd.heap_1 = hd.heap_1) := by
  k_fill
  exact .inl trivial
theorem updF_mem {d : Addr} {o : Obj} {l : Led} {g : Obj → Led} (U : UpdF d o l g) : (d, o) ∈ l := by
  obtain ⟨a, b, rfl, _⟩ := U.split
  exact List.mem_append.mpr (.inr (.head _))
theorem updF_upd {d : Addr} {o : Obj} {l : Led} {g : Obj → Led} (U : UpdF d o l g) (o' : Obj) : Upd d o o' l (g o') := by
  induction U with
  | head h => exact .head h
  | tail h _ ih => exact .tail h ih
section
variable {w : World} {F : Fn} {Γ : Cx w F} {lc : Lcs} {P P' : Led → Prop} {R : RX}
theorem EvL.two {e e' : PX} {V V' : Value → Prop} (h : Ev Γ lc P e V) (h' : Ev Γ lc P e' V') (hst : starEach [e, e'] Γ.env = (false, eval e Γ.env) :: starEach [e'] Γ.env) (hst' : starEach [e'] Γ.env = (false, eval e' Γ.env) :: starEach [] Γ.env) : EvL Γ lc P [e, e'] (fun vs => ∃ v v', vs = [v, v'] ∧ V v ∧ V' v') :=
  fun pos s Q E S q => EvL.cons h (EvL.cons h' .nil hst') hst pos s Q E S fun vs h' tk ⟨v, r, e, hv, v', r', e', hv', e''⟩ => by
    subst e e' e''
    exact q _ h' tk ⟨v, v', rfl, hv, hv'⟩
theorem Ev.at {e : PX} {V : Value → Prop} (h : ∀ n, P n → Ev Γ lc (fun m => m = n) e V) : Ev Γ lc P e V := fun s Q E S q => by
  obtain ⟨⟨m, Fm, hm⟩, n, N, hP⟩ := S
  exact h n hP s Q E ⟨⟨m, Fm, hm⟩, n, N, rfl⟩ fun v h' tk hv S' => q v h' tk hv (S'.mono (fun _ h => h) fun n' e => by subst e; exact ⟨_, hP, fun _ h => h⟩)
theorem EvT.conv {e : PX} {RV RV' : Value → (Led → Prop) → Prop} (h : EvT Γ lc P e RV) (hr : ∀ v P', RV v P' → ∀ h n, News Γ.h₀ Γ.L h n → P' n → ∃ P'', RV' v P'' ∧ ∃ n', P'' n' ∧ ∀ p ∈ n', p ∈ n) : EvT Γ lc P e RV' :=
  fun s Q E S q => h s Q E S fun v P' h' tk hv S' => by
    obtain ⟨⟨m, Fm, hm⟩, n, N, hP⟩ := S'
    obtain ⟨P'', hv', n', hP', hs⟩ := hr v P' hv h' n N hP
    exact q v P'' h' tk hv' ⟨⟨m, Fm, hm⟩, n', News.sub N hs, hP'⟩
theorem EvT.convN {e : PX} {RV RV' : Value → (Led → Prop) → Prop} (h : EvT Γ lc P e RV) (hr : ∀ v P', RV v P' → ∀ h n, News Γ.h₀ Γ.L h n → P' n → ∃ P'', RV' v P'' ∧ ∃ n', P'' n' ∧ News Γ.h₀ Γ.L h n') : EvT Γ lc P e RV' :=
  fun s Q E S q => h s Q E S fun v P' h' tk hv S' => by
    obtain ⟨⟨m, Fm, hm⟩, n, N, hP⟩ := S'
    obtain ⟨P'', hv', n', hP', hs⟩ := hr v P' hv h' n N hP
    exact q v P'' h' tk hv' ⟨⟨m, Fm, hm⟩, n', hs, hP'⟩
/-- the ledger is looked at -/
theorem Ex.at {body : List Stmt} (h : ∀ n, P n → ∃ P', (∃ n', P' n' ∧ ∀ p ∈ n', p ∈ n) ∧ Ex Γ lc P' body R) : Ex Γ lc P body R := fun s Q E po S q => by
  obtain ⟨⟨m, Fm, hm⟩, n, N, hP⟩ := S
  obtain ⟨P', ⟨n', hP', hs⟩, hx⟩ := h n hP
  exact hx s Q E po ⟨⟨m, Fm, hm⟩, n', News.sub N hs, hP'⟩ q
/-- a list is made -/
theorem EvT.list {es : List PX} {pos : Pos} {Vs : List Value → Prop} (hes : EvL Γ lc P es Vs) (hV : ∀ vs, Vs vs → vs.length ≤ 1000) :
    EvT Γ lc P (.List es pos) (fun v P' => ∃ l vs, v = .ref l ∧ Vs vs ∧ P' = fun n => ∃ n0, n = (l, listOf vs.toArray 0) :: n0 ∧ P n0 ∧ ∀ p ∈ n0, p.1 < l) := by
  intro s Q E S q
  refine List_ (hes _ s _ E S fun vs h1 t1 hv S1 => ?_)
  obtain ⟨⟨m, Fm, hm⟩, news, N, hP⟩ := S1
  exact newList_K Fm N (fun l h' F' N' hl => q (.ref l) _ h' _ ⟨l, vs, rfl, hv, rfl⟩ ⟨⟨m, F', hm⟩, _, N', news, rfl, hP, hl⟩) (by rw [sizeLine_eq]; have := hV vs hv; omega)
theorem Ex.retT {e : PX} {pos : Pos} {st : List Stmt} {RV : Value → (Led → Prop) → Prop} (h : EvT Γ lc P e RV) (hr : ∀ v P', RV v P' → R (.ret v) lc P') : Ex Γ lc P (.Return (some e) pos :: st) R :=
  .next fun s Q E po S q => wpAny_Return_some (h s _ E S fun v P' h' tk hv S' => q _ _ _ _ _ (hr v P' hv) S')
/-- a tuple is made -/
theorem EvT.tuple {es : List PX} {k : Nat} {pos : Pos} {Vs : List Value → Prop} (hes : EvL Γ lc P es Vs) (hV : ∀ vs, Vs vs → vs.length ≤ 1000) :
    EvT Γ lc P (.Tuple es k pos) (fun v P' => ∃ l vs, v = .ref l ∧ Vs vs ∧ P' = fun n => ∃ n0, n = (l, tupOf vs) :: n0 ∧ P n0 ∧ ∀ p ∈ n0, p.1 < l) := by
  intro s Q E S q
  refine Tuple_ (hes _ s _ E S fun vs h1 t1 hv S1 => ?_)
  obtain ⟨⟨m, Fm, hm⟩, news, N, hP⟩ := S1
  exact kup_newTuple Fm N (fun l h' F' N' hl => q (.ref l) _ h' _ ⟨l, vs, rfl, hv, rfl⟩ ⟨⟨m, F', hm⟩, _, N', news, rfl, hP, hl⟩) (by rw [sizeLine_eq]; have := hV vs hv; omega)
theorem Ev.glob {x : Str} {pos : Pos} {v : Value} (hf : nsIn (hd.heap_1 w.params) mainGlobals x = some (some v)) (hk : Γ.env.kindOf x = some .globalImplicit) (hd9 : (x == "__debug__") = false) : Ev Γ lc P (.Name x pos) (fun u => u = v) := by
  intro s Q E S q
  obtain ⟨⟨m, Fm, hm⟩, news, N, hP⟩ := S
  exact nameX_K Fm Γ.X (topRead_of Γ.T) hf (q v s.heap s.toks rfl ⟨⟨m, Fm, hm⟩, news, N, hP⟩) Γ.hk hk hd9
theorem Ex.exi {α : Type} {Q : α → Led → Prop} {st : List Stmt} (h : ∀ a, Ex Γ lc (Q a) st R) : Ex Γ lc (fun n => ∃ a, Q a n) st R := fun s Q E po S q => by
  obtain ⟨⟨m, Fm, hm⟩, n, N, a, hP⟩ := S
  exact h a s Q E po ⟨⟨m, Fm, hm⟩, n, N, hP⟩ q
/-- -1 -/
theorem Ev.neg {k : Int} {kn : Nat} {cp up : Pos} : Ev Γ lc P (.UnaryOp .USub (.Constant (.int k) kn cp) up) (Vl.i (-k)).is := fun s Q E S q => wpAny_UnaryOp (Ev.int s _ E S fun v h t ⟨_, e⟩ S' => by
  subst e
  exact neg_int (q _ h _ ⟨_, rfl⟩ S'))
theorem EvL.three {e e' e'' : PX} {V V' V'' : Value → Prop} (h : Ev Γ lc P e V) (h' : Ev Γ lc P e' V') (h'' : Ev Γ lc P e'' V'') (hst : starEach [e, e', e''] Γ.env = (false, eval e Γ.env) :: starEach [e', e''] Γ.env) (hst' : starEach [e', e''] Γ.env = (false, eval e' Γ.env) :: starEach [e''] Γ.env) (hst'' : starEach [e''] Γ.env = (false, eval e'' Γ.env) :: starEach [] Γ.env) :
    EvL Γ lc P [e, e', e''] (fun vs => ∃ v v' v'', vs = [v, v', v''] ∧ V v ∧ V' v' ∧ V'' v'') :=
  fun pos s Q E S q => EvL.cons h (.two h' h'' hst' hst'') hst pos s Q E S fun vs h' tk ⟨v, r, e, hv, v', v'', e', hv', hv''⟩ => by
    subst e e'
    exact q _ h' tk ⟨v, v', v'', rfl, hv, hv', hv''⟩
theorem Ev.eqI {a b : PX} {pos : Pos} {x y : Int} (ha : Ev Γ lc P a (Vl.i x).is) (hb : Ev Γ lc P b (Vl.i y).is) : Ev Γ lc P (.Compare a [.Eq] [b] pos) (Vl.b (x == y)).is := by
  intro s Q E S q
  refine wpAny_Compare1 (ha s _ E S fun v1 h1 t1 ⟨t, e⟩ S1 => hb _ _ E S1 fun v2 h2 t2 ⟨t', e'⟩ S2 => ?_) (marks _ _ rfl)
  subst e e'
  exact eq_int (q _ h2 t2 rfl S2)
theorem Ev.eqS {a b : PX} {pos : Pos} {x y : Str} (ha : Ev Γ lc P a (Vl.s x).is) (hb : Ev Γ lc P b (Vl.s y).is) : Ev Γ lc P (.Compare a [.Eq] [b] pos) (Vl.b (x == y)).is := by
  intro s Q E S q
  refine wpAny_Compare1 (ha s _ E S fun v1 h1 t1 ⟨t, e⟩ S1 => hb _ _ E S1 fun v2 h2 t2 ⟨t', e'⟩ S2 => ?_) (marks _ _ rfl)
  subst e e'
  exact eq_str (q _ h2 t2 rfl S2)
theorem EvL.strs0 : EvL Γ lc P [] (fun vs => StrsAre vs []) := fun pos s Q E S q => EvL.nil pos s Q E S fun vs h tk e S => q vs h tk (by subst e; exact .nil) S
theorem EvL.strs {x : Str} {l : List Str} {k : Nat} {p : Pos} {es : List PX} (h : EvL Γ lc P es (fun vs => StrsAre vs l)) : EvL Γ lc P (.Constant (.str x) k p :: es) (fun vs => StrsAre vs (x :: l)) := fun pos s Q E S q => EvL.cons .str h rfl pos s Q E S fun vs h' tk ⟨v, r, e, ⟨t, e2⟩, hr⟩ S' => q vs h' tk (by subst e e2; exact .cons _ _ hr) S'
theorem strsAre_len {vs : List Value} {l : List Str} (h : StrsAre vs l) : vs.length = l.length := by
  induction h with
  | nil => rfl
  | cons _ _ _ ih => simp only [List.length_cons, ih]
noncomputable abbrev methIs (self : Str) (sp ap pos : Pos) (meth : Str) (es : List PX) (env : Env) : Prop := ∃ pl, eval (.Call (.Attribute (.Name self sp) meth ap) es [] pos) env = (do let ov ← eval (.Name self sp) env; standAt ap.atName; let (f, first) ← holding [ov] (getMethod ov meth pl); callWith pos f first (backTo pos (starEach es env)) [])
/-- xs.append(e) -/
theorem Ex.append {xs : Str} {xp ap pos pos' : Pos} {e : PX} {st : List Stmt} {l : Addr} {V : Value → Prop} (hx : (xs, Vl.r l) ∈ lc) (he : Ev Γ lc P e V) (hl : ∀ n, P n → ∃ (vs : List Value) (c : Nat) (g : Obj → Led), UpdF l (listOf vs.toArray c) n g ∧ vs.length ≤ 1000 ∧ ∀ v, V v → P' (g (listOf (vs ++ [v]).toArray (c + 1))))
    (hk : Γ.env.kindOf xs = some .local) (hd : (xs == "__debug__") = false) (hst : starEach [e] Γ.env = (false, eval e Γ.env) :: starEach [] Γ.env) (hpl : methIs xs xp ap pos (Str.ofString "append") [e] Γ.env)
    (hi : interactive Γ.env = false) (hw : swapsWith (.Call (.Attribute (.Name xs xp) (Str.ofString "append") ap) [e] [] pos) none pos'.line Γ.env = pure false) (hr : Ex Γ lc P' st R) : Ex Γ lc P (.Expr (.Call (.Attribute (.Name xs xp) (Str.ofString "append") ap) [e] [] pos) pos' :: st) R := by
  refine .next fun s Q E po S q => wpAny_Expr_any ?_ hi hw
  obtain ⟨pl, hpl⟩ := hpl
  refine MethodCall_ (pl := pl) (Ev.name hx hk hd s _ E S fun v1 h1 t1 x1 S1 => ?_) hpl
  have x1' : v1 = .ref l := x1
  subst x1'
  obtain ⟨⟨m, Fm, hm⟩, news, N, hP⟩ := S1
  obtain ⟨vs, c, g, U, _⟩ := hl news hP
  refine listMethod_K N (updF_mem U) PySem.F.slot_list_append PySem.F.type_list_append (callWith_method1 (EvL.cons he .nil hst pos _ _ E ⟨⟨m, Fm, hm⟩, news, N, hP⟩ fun vs h2 t2 hv S2 => ?_) hst rfl)
  obtain ⟨v, r, e1, e2, e3⟩ := hv
  subst e1 e3
  obtain ⟨⟨m2, F2, hm2⟩, n2, N2, hP2⟩ := S2
  obtain ⟨vs, c, g, U, hz, hg⟩ := hl n2 hP2
  refine append_K F2 N2 (updF_upd U _) (fun h' F' N' => q .next lc P' h' _ hr ⟨⟨m2, F', hm2⟩, _, N', ?_⟩) (by rw [List.size_toArray, sizeLine_eq]; omega)
  rw [List.push_toArray]
  exact hg v e2
end
theorem seqN {j n : Nat} (h : j < n) : seqIndex? (j : Int) n = some j := by
  unfold seqIndex?
  have h1 : ¬ ((j : Int) < 0) := by omega
  have h2 : (0 : Int) ≤ (j : Int) ∧ (j : Int) < (n : Int) := by omega
  simp [h1, h2, h]
theorem Spec.make {w : World} {C fI : Addr} {d u d1 u1 : Nat} {args : List Value} {rest : Led} {post : Value → Led → Prop} {lc : Addr → Lcs} {name qual : Str} {params : Arguments} {body : List Stmt} {scope : Scope} {dV kV doc pm cdv ct oc : Value} {an od : Option Addr} {osl : Array (Option Value)} {binds : Addr → List (Str × Value)}
    (hm : makesIn (hd.heap_1 w.params) C = true) (hi : findIn (hd.heap_1 w.params) (.ref C) "__init__" = some (some (.ref fI))) (hf : isFn (hd.heap_1 w.params) (.ref fI) = true)
    (k6 : (hd.heap_1 w.params).lookup fI = some { cls := oc, dict := od, data := .func (fnOf name qual params body scope dV kV doc pm an cdv ct), slots := osl })
    (k7 : codeIn (hd.heap_1 w.params) cdv qual = true) (k9 : ∀ x, bindArgs (fnOf name qual params body scope dV kV doc pm an cdv ct) ⟨.ref x :: args, []⟩ = pure (binds x))
    (kB : ∀ x, ((binds x).all fun y => decide (scope.names.lookup y.1 = some .local)) = true) (c2 : scope.isCoroutine = false) (c3 : scope.isGenerator = false) (c4 : scope.kind = .function) (c5 : ∀ x ∈ scope.names, x.2 ≠ .cell)
    (hlc : ∀ x, lcOk (lc x) (binds x).reverse) (hd1 : d1 = d + 2) (hu1 : u1 = u + 4)
    (H : ∀ x dx (Γ : Cx w ⟨qual, scope, fI, cdv, []⟩), Γ.room d u → (∀ p ∈ rest, p.1 < dx) → @LT.lt Nat _ dx x → Ex Γ (lc x) (fun n => n = (x, instObj C dx) :: (dx, dictOf [] 0) :: rest) body (Ends fun v n => v = .none ∧ post (.ref x) n)) : Spec w C d1 u1 args rest post := by
  subst hd1 hu1
  unfold Spec
  intro p loose mean mg mb dp un gd cn cs a ccd cl outer A₀ base h₀ L m s Q E B Fm X N T hkind hd hu hret
  refine call_cls Fm X N hm hi hf fun x dx h1 F1 N1 l1 l2 => ?_
  refine code_def B F1 X N1 T rfl rfl hkind k6 k7 (by show dp + 1 < _; omega) (BindsTo.of_eq (k9 x)) (locs (kB x)) ?_ c2 c3 c4 c5
  intro g' L' h' FG' F' N' B' X' T'
  exact H x dx ⟨p, loose, mean, mg, mb, dp + 1 + 1, un + 1 + 3, _, envX cn cs L a ccd cl :: outer, _, _, g', L', B', X', T', c4⟩ ⟨by show dp + 1 + 1 + d < _; omega, by show un + 1 + 3 + u < _; omega⟩ l1 l2 _ _ _ PassesOwn.leaving ⟨⟨_, F', (hlc x).all⟩, _, N', rfl⟩ fun fl lc' P' h2 tk hr S2 => by
    obtain ⟨⟨m2, F2, _⟩, n2, N2, hP2⟩ := S2
    cases fl with
    | next => exact leaveK_ F2 N2 fun F3 N3 => ⟨rfl, hret _ _ _ _ F3 N3 (hr n2 hP2).2⟩
    | ret v => exact leaveK_ F2 N2 fun F3 N3 => ⟨(hr n2 hP2).1, hret _ _ _ _ F3 N3 (hr n2 hP2).2⟩
    | brk => exact hr.elim
    | cont => exact hr.elim
/-- the entries of a made object -/
noncomputable def Ents (w : World) : Lcs → List DictEntry → Prop
  | [], es => es = []
  | p :: l, es => ∃ k v r, es = ⟨PyData.keyHash w.params p.1, .str p.1 k, v⟩ :: r ∧ p.2.is v ∧ Ents w l r
theorem Ents.snoc {w : World} {x : Str} {k : Tok} {v : Value} {vl : Vl} (hv : vl.is v) : ∀ {l : Lcs} {es : List DictEntry}, Ents w l es → Ents w (l ++ [(x, vl)]) (es ++ [⟨PyData.keyHash w.params x, .str x k, v⟩])
  | [], _, h => by
    subst h
    exact ⟨k, v, [], rfl, hv, rfl⟩
  | _ :: _, _, ⟨k', v', r, e, h', h⟩ => by
    subst e
    exact ⟨k', v', _, rfl, h', Ents.snoc hv h⟩
theorem Ents.none {w : World} {x : Str} {k : Value} {v : Value} : ∀ {l : Lcs} {es : List DictEntry}, Ents w l es → (l.all fun p => p.1 != x) = true → (getL x es).isSome = true ∧ putL x (PyData.keyHash w.params x) k v es = es ++ [⟨PyData.keyHash w.params x, k, v⟩] ∧ es.any (·.key.isStr x) = false ∧ es.any (·.refKey) = false ∧ es.length = l.length
  | [], _, h, _ => by
    subst h
    exact ⟨rfl, rfl, rfl, rfl, rfl⟩
  | p :: l, _, ⟨k', v', r, e, _, h⟩, ha => by
    subst e
    rw [List.all_cons, Bool.and_eq_true] at ha
    obtain ⟨_, h2, h3, h4, h5⟩ := Ents.none (k := k) (v := v) h ha.2
    have e : Value.isStr (.str p.1 k') x = false := by
      have := ha.1
      simpa [Value.isStr] using this
    have e3 : (⟨PyData.keyHash w.params p.1, .str p.1 k', v'⟩ :: r : List DictEntry).any (·.key.isStr x) = false := by rw [List.any_cons, h3]; simpa using e
    have e4 : (⟨PyData.keyHash w.params p.1, .str p.1 k', v'⟩ :: r : List DictEntry).any (·.refKey) = false := by rw [List.any_cons, h4]; rfl
    refine ⟨?_, ?_, e3, e4, by rw [List.length_cons, List.length_cons, h5]⟩
    · unfold getL
      have : (⟨PyData.keyHash w.params p.1, .str p.1 k', v'⟩ :: r : List DictEntry).find? (·.key.isStr x) = Option.none := by
        rw [List.find?_eq_none]
        intro y hy
        have := List.any_eq_false.mp e3 y hy
        exact this
      rw [this, e4]
      rfl
    · show (if Value.isStr (.str p.1 k') x then _ else _) = _
      rw [e, if_neg (by decide), h2]
      rfl
section
variable {w : World} {F : Fn} {Γ : Cx w F} {lc : Lcs} {P : Led → Prop} {R : RX} {C x dx : Addr} {tl rest : Led} {l : Lcs}
/-- a made object, and what has been made for it -/
noncomputable def IniP (w : World) (C x dx : Addr) (tl : Led) (l : Lcs) (rest : Led) : Led → Prop := fun n => ∃ es, Ents w l es ∧ n = tl ++ (x, instObj C dx) :: (dx, dictOf es l.length) :: rest
structure IniS (x dx : Addr) (tl rest : Led) : Prop where
  tl : ∀ p ∈ tl, @LT.lt Nat _ x p.1
  x : @LT.lt Nat _ dx x
  rest : ∀ p ∈ rest, p.1 < dx
theorem upd_app {d : Addr} {o o' : Obj} {l l' : Led} (h : Upd d o o' l l') : ∀ {tl : Led}, (∀ p ∈ tl, p.1 ≠ d) → Upd d o o' (tl ++ l) (tl ++ l')
  | [], _ => h
  | p :: _, ht => .tail (ht p (.head _)) (upd_app h fun q hq => ht q (.tail _ hq))
theorem IniS.upd (H : IniS x dx tl rest) {o o' : Obj} {X : Obj} : Upd dx o o' (tl ++ (x, X) :: (dx, o) :: rest) (tl ++ (x, X) :: (dx, o') :: rest) :=
  upd_app (.tail (Nat.ne_of_gt H.x) (.head fun p hp => Nat.ne_of_lt (H.rest p hp))) fun p hp => Nat.ne_of_gt (Nat.lt_trans H.x (H.tl p hp))
/-- self.a = e, of a made object -/
theorem Ex.iniT {self a : Str} {sp ap pos : Pos} {e : PX} {st : List Stmt} {RV : Value → (Led → Prop) → Prop} (c1 : findIn (hd.heap_1 w.params) (.ref C) "__setattr__" = some (some (.builtin "object.__setattr__"))) (c2 : plainOver (hd.heap_1 w.params) C = true) (c4 : hasDictIn (hd.heap_1 w.params) C = true)
    (hs : (self, Vl.r x) ∈ lc) (he : EvT Γ lc (IniP w C x dx tl l rest) e RV)
    (hr : ∀ v P', RV v P' → ∃ tl' vl, P' = IniP w C x dx tl' l rest ∧ IniS x dx tl' rest ∧ vl.is v ∧ Ex Γ lc (IniP w C x dx tl' (l ++ [(a, vl)]) rest) st R) (hn : autoParam ((l.all fun p => p.1 != a) = true) rfl9) (hl : autoParam (l.length ≤ 900) ble9) (c3 : autoParam (takerIn (hd.heap_1 w.params) C a = some none) krn9) (hk : autoParam (Γ.env.kindOf self = some .local) rfl9) (hd9 : autoParam ((self == "__debug__") = false) rfl9)
    (hw : autoParam (swapsWith e (some (.Attribute (.Name self sp) a ap)) pos.line Γ.env = pure false) rfl9) : Ex Γ lc (IniP w C x dx tl l rest) (.Assign [.Attribute (.Name self sp) a ap] e pos :: st) R :=
  .next fun s Q E po S q => plainObj_wpAny_Assign_Attribute (he s _ E S fun v P' h1 t1 hv S1 => by
    obtain ⟨tl', vl, rfl, H, hvl, hx⟩ := hr v P' hv
    refine Ev.name hs hk hd9 _ _ E S1 fun u h2 t2 hu S2 => ?_
    have hu' : u = .ref x := hu
    subst hu'
    obtain ⟨⟨m, Fm, hm⟩, news, N, es, hE, rfl⟩ := S2
    have I := InstAt.of_news N (List.mem_append.mpr (.inr (.head _))) (List.mem_append.mpr (.inr (.tail _ (.head _))))
    obtain ⟨g1, g2, g3, _, g5⟩ := hE.none (x := a) (k := .str a (t2 + 1)) (v := v) hn
    exact set_dict Fm Γ.X N I rfl c1 c2 c3 c4 g1 (Prod.ext g2 (by show putN a es l.length = l.length + 1; unfold putN; rw [g3]; rfl)) H.upd (by rw [List.length_append, g5, List.length_singleton]; omega) fun h3 F3 N3 =>
      q .next lc _ h3 _ hx ⟨⟨m, F3, hm⟩, _, N3, _, hE.snoc hvl, by rw [List.length_append]; rfl⟩) hw
theorem Ex.ini {self a : Str} {sp ap pos : Pos} {e : PX} {st : List Stmt} {vl : Vl} (c1 : findIn (hd.heap_1 w.params) (.ref C) "__setattr__" = some (some (.builtin "object.__setattr__"))) (c2 : plainOver (hd.heap_1 w.params) C = true) (c4 : hasDictIn (hd.heap_1 w.params) C = true)
    (hs : (self, Vl.r x) ∈ lc) (H : IniS x dx tl rest) (he : Ev Γ lc (IniP w C x dx tl l rest) e vl.is) (hr : Ex Γ lc (IniP w C x dx tl (l ++ [(a, vl)]) rest) st R)
    (hn : autoParam ((l.all fun p => p.1 != a) = true) rfl9) (hl : autoParam (l.length ≤ 900) ble9) (c3 : autoParam (takerIn (hd.heap_1 w.params) C a = some none) krn9) (hk : autoParam (Γ.env.kindOf self = some .local) rfl9) (hd9 : autoParam ((self == "__debug__") = false) rfl9)
    (hw : autoParam (swapsWith e (some (.Attribute (.Name self sp) a ap)) pos.line Γ.env = pure false) rfl9) : Ex Γ lc (IniP w C x dx tl l rest) (.Assign [.Attribute (.Name self sp) a ap] e pos :: st) R :=
  .iniT c1 c2 c4 hs he.toT (fun v P' ⟨hv, e⟩ => ⟨tl, vl, e, H, hv, hr⟩) hn hl c3 hk hd9 hw
/-- self.a = {} -/
theorem Ex.iniD {self a : Str} {sp ap pos dp : Pos} {st : List Stmt} (c1 : findIn (hd.heap_1 w.params) (.ref C) "__setattr__" = some (some (.builtin "object.__setattr__"))) (c2 : plainOver (hd.heap_1 w.params) C = true) (c4 : hasDictIn (hd.heap_1 w.params) C = true)
    (hs : (self, Vl.r x) ∈ lc) (H : IniS x dx tl rest)
    (hr : ∀ d o, (d == sysModules) = false → o.IsDictOf (strKind PR w) [] → o.IsDictOf (intKind PR w) [] → (∀ p ∈ tl, p.1 < d) → IniS x dx ((d, o) :: tl) rest → Ex Γ lc (IniP w C x dx ((d, o) :: tl) (l ++ [(a, .r d)]) rest) st R)
    (hn : autoParam ((l.all fun p => p.1 != a) = true) rfl9) (hl : autoParam (l.length ≤ 900) ble9) (c3 : autoParam (takerIn (hd.heap_1 w.params) C a = some none) krn9) (hk : autoParam (Γ.env.kindOf self = some .local) rfl9) (hd9 : autoParam ((self == "__debug__") = false) rfl9)
    (hw : autoParam (swapsWith (.Dict [] [] dp) (some (.Attribute (.Name self sp) a ap)) pos.line Γ.env = pure false) rfl9) : Ex Γ lc (IniP w C x dx tl l rest) (.Assign [.Attribute (.Name self sp) a ap] (.Dict [] [] dp) pos :: st) R :=
  .iniT c1 c2 c4 hs (RV := fun v P' => ∃ d o, v = .ref d ∧ P' = IniP w C x dx ((d, o) :: tl) l rest ∧ IniS x dx ((d, o) :: tl) rest ∧ (∀ p ∈ tl, p.1 < d) ∧ (d == sysModules) = false ∧ o.IsDictOf (strKind PR w) [] ∧ o.IsDictOf (intKind PR w) [])
    (fun s Q E S q => by
      obtain ⟨⟨m, Fm, hm⟩, news, N, es, hE, rfl⟩ := S
      refine newDict_K Fm N Γ.T.nolimit fun d h1 o F1 N1 l1 lo h2 _ h3 _ => q _ _ h1 _ ⟨d, o, rfl, rfl, ⟨fun p hp => ?_, H.x, H.rest⟩, fun p hp => l1 p (List.mem_append.mpr (.inl hp)), lo, h2, h3⟩ ⟨⟨m, F1, hm⟩, _, N1, es, hE, rfl⟩
      rcases List.mem_cons.mp hp with rfl | hp
      · exact l1 (x, instObj C dx) (List.mem_append.mpr (.inr (.head _)))
      · exact H.tl p hp)
    (fun v P' ⟨d, o, e, e2, h1, h2, h3, h4, h5⟩ => ⟨_, .r d, e2, h1, e, hr d o h3 h4 h5 h2 h1⟩) hn hl c3 hk hd9 hw
/-- self.a = [] -/
theorem Ex.iniL {self a : Str} {sp ap pos dp : Pos} {st : List Stmt} (c1 : findIn (hd.heap_1 w.params) (.ref C) "__setattr__" = some (some (.builtin "object.__setattr__"))) (c2 : plainOver (hd.heap_1 w.params) C = true) (c4 : hasDictIn (hd.heap_1 w.params) C = true)
    (hs : (self, Vl.r x) ∈ lc) (H : IniS x dx tl rest)
    (hr : ∀ d, (∀ p ∈ tl, p.1 < d) → IniS x dx ((d, listOf #[] 0) :: tl) rest → Ex Γ lc (IniP w C x dx ((d, listOf #[] 0) :: tl) (l ++ [(a, .r d)]) rest) st R)
    (hn : autoParam ((l.all fun p => p.1 != a) = true) rfl9) (hl : autoParam (l.length ≤ 900) ble9) (c3 : autoParam (takerIn (hd.heap_1 w.params) C a = some none) krn9) (hk : autoParam (Γ.env.kindOf self = some .local) rfl9) (hd9 : autoParam ((self == "__debug__") = false) rfl9)
    (hw : autoParam (swapsWith (.List [] dp) (some (.Attribute (.Name self sp) a ap)) pos.line Γ.env = pure false) rfl9) : Ex Γ lc (IniP w C x dx tl l rest) (.Assign [.Attribute (.Name self sp) a ap] (.List [] dp) pos :: st) R :=
  .iniT c1 c2 c4 hs (RV := fun v P' => ∃ d, v = .ref d ∧ P' = IniP w C x dx ((d, listOf #[] 0) :: tl) l rest ∧ IniS x dx ((d, listOf #[] 0) :: tl) rest ∧ (∀ p ∈ tl, p.1 < d))
    (fun s Q E S q => by
      refine List_ (args_nil ?_)
      obtain ⟨⟨m, Fm, hm⟩, news, N, es, hE, rfl⟩ := S
      refine newList_K Fm N (fun d h1 F1 N1 l1 => q _ _ h1 _ ⟨d, rfl, rfl, ⟨fun p hp => ?_, H.x, H.rest⟩, fun p hp => l1 p (List.mem_append.mpr (.inl hp))⟩ ⟨⟨m, F1, hm⟩, _, N1, es, hE, rfl⟩) (Nat.zero_le _)
      rcases List.mem_cons.mp hp with rfl | hp
      · exact l1 (x, instObj C dx) (List.mem_append.mpr (.inr (.head _)))
      · exact H.tl p hp)
    (fun v P' ⟨d, e, e2, h1, h2⟩ => ⟨_, .r d, e2, h1, e, hr d h2 h1⟩) hn hl c3 hk hd9 hw
end
end Mine
end

section
open PySem PySem.W PySem.Spec PySem.Calls PyProof.Rows
set_option Elab.async false
set_option maxRecDepth 100000
set_option maxHeartbeats 4000000
namespace Mine
theorem fillq2 : True ∨ (PySem.Challenge.rw_sa0151_01 = PySem.Challenge.rw_sa0151_01 ∧ hd.heap_1 = hd.heap_1) := by
  k_fill
  exact .inl trivial
theorem m_complain (w : World) : Mth w 358 (Str.ofString "complain") 271 := ⟨by kernel_rfl!, by kernel_rfl!, by kernel_rfl!, by kernel_rfl!⟩
theorem m_read (w : World) : Mth w 358 (Str.ofString "read") 278 := ⟨by kernel_rfl!, by kernel_rfl!, by kernel_rfl!, by kernel_rfl!⟩
theorem m_write (w : World) : Mth w 358 (Str.ofString "write") 285 := ⟨by kernel_rfl!, by kernel_rfl!, by kernel_rfl!, by kernel_rfl!⟩
theorem m_arity_of (w : World) : Mth w 358 (Str.ofString "arity_of") 292 := ⟨by kernel_rfl!, by kernel_rfl!, by kernel_rfl!, by kernel_rfl!⟩
theorem m_arguments (w : World) : Mth w 358 (Str.ofString "arguments") 299 := ⟨by kernel_rfl!, by kernel_rfl!, by kernel_rfl!, by kernel_rfl!⟩
theorem m_open (w : World) : Mth w 358 (Str.ofString "open_structure") 306 := ⟨by kernel_rfl!, by kernel_rfl!, by kernel_rfl!, by kernel_rfl!⟩
theorem m_struct (w : World) : Mth w 358 (Str.ofString "structure_step") 313 := ⟨by kernel_rfl!, by kernel_rfl!, by kernel_rfl!, by kernel_rfl!⟩
theorem m_get (w : World) : Mth w 358 (Str.ofString "get_step") 320 := ⟨by kernel_rfl!, by kernel_rfl!, by kernel_rfl!, by kernel_rfl!⟩
theorem m_put (w : World) : Mth w 358 (Str.ofString "put_step") 327 := ⟨by kernel_rfl!, by kernel_rfl!, by kernel_rfl!, by kernel_rfl!⟩
theorem m_call (w : World) : Mth w 358 (Str.ofString "call_step") 334 := ⟨by kernel_rfl!, by kernel_rfl!, by kernel_rfl!, by kernel_rfl!⟩
theorem m_leave (w : World) : Mth w 358 (Str.ofString "leave_step") 341 := ⟨by kernel_rfl!, by kernel_rfl!, by kernel_rfl!, by kernel_rfl!⟩
theorem m_control (w : World) : Mth w 358 (Str.ofString "control_step") 348 := ⟨by kernel_rfl!, by kernel_rfl!, by kernel_rfl!, by kernel_rfl!⟩
theorem m_step (w : World) : Mth w 358 (Str.ofString "step") 355 := ⟨by kernel_rfl!, by kernel_rfl!, by kernel_rfl!, by kernel_rfl!⟩
theorem complain_q {w : World} {k : Nat → Tok} {sg dx x : Addr} {S : CS} {rest : Led} {txt : Str} {tt : Tok} (hx : (x, instObj 358 dx) ∈ rest) (h1 : txt ≠ Str.ofString "") (h2 : txt.length ≤ 100) :
    ∀ n, Ck w k sg dx S rest n → Spec w 271 3 100 [.ref x, .str txt tt] n (fun r n' => r = .none ∧ Ck w k sg dx S.complain rest n') := by
  refine' Spec.body (lc := [(Str.ofString "self", .r x), (Str.ofString "text", .s txt)]) ?k6 ?k7 ?k9 ?kB ?c2 ?c3 ?c4 ?c5 ?hlc ?hd1 ?hu1 ?H
  case k6 => k_is
  case k7 => k_is
  case k9 => exact rfl
  case kB => exact rfl
  case c2 => exact rfl
  case c3 => exact rfl
  case c4 => exact rfl
  case c5 => decide
  case hlc => exact ⟨⟨_, rfl, rfl⟩, ⟨_, rfl, _, rfl⟩, trivial⟩
  case hd1 => exact rfl
  case hu1 => exact rfl
  intro Γ hroom
  refine .ifC (.faultNone (.head _) hx rfl rfl) (fun h => ?_) (fun h => ?_)
  · exact .ckSet (.head _) hx (.name (.tail _ (.head _)) rfl rfl) (.fault txt h1 h2) rfl rfl rfl (.nilT (.nil fun n hn => ⟨rfl, hn⟩))
  · refine .nilT (.nil fun n hn => ⟨rfl, ?_⟩)
    have e : S.complain = S := by
      have : S.bad = true := by cases hb : S.bad <;> simp_all
      unfold CS.complain; rw [← this]
    rw [e]; exact hn
section
variable {w : World} {F : Fn} {Γ : Cx w F} {lc : Lcs} {R : RX} {k : Nat → Tok} {sg dx x : Addr} {S : CS} {rest : Led} {P : Led → Prop}
theorem ck_rest {n : Led} (h : Ck w k sg dx S rest n) : ∀ p ∈ rest, p ∈ n := by
  obtain ⟨D, rfl⟩ := h
  exact fun p hp => .tail _ (.tail _ (.tail _ hp))
/-- self.complain(a text) -/
theorem Ex.say {self : Str} {sp ap pos pos' : Pos} {e : PX} {st : List Stmt} {lo hi : Nat} (hs : (self, Vl.r x) ∈ lc) (hx : (x, instObj 358 dx) ∈ rest) (he : Ev Γ lc (Ck w k sg dx S rest) e (TL lo hi)) (hroom : Γ.room 3 100) (hr : Ex Γ lc (Ck w k sg dx S.complain rest) st R)
    (hlo : autoParam (Nat.ble 1 lo = true) rfl9) (hhi : autoParam (Nat.ble hi 100 = true) rfl9) (hk : autoParam (Γ.env.kindOf self = some .local) rfl9) (hd : autoParam ((self == "__debug__") = false) rfl9) (hst : autoParam (starEach [e] Γ.env = (false, eval e Γ.env) :: starEach [] Γ.env) rfl9)
    (hpl : autoParam (∃ pl, eval (.Call (.Attribute (.Name self sp) (Str.ofString "complain") ap) [e] [] pos) Γ.env = (do let ov ← eval (.Name self sp) Γ.env; standAt ap.atName; let (f, first) ← holding [ov] (getMethod ov (Str.ofString "complain") pl); callWith pos f first (backTo pos (starEach [e] Γ.env)) [])) some9)
    (hi9 : autoParam (interactive Γ.env = false) rfl9) (hw : autoParam (swapsWith (.Call (.Attribute (.Name self sp) (Str.ofString "complain") ap) [e] [] pos) none pos'.line Γ.env = pure false) rfl9) :
    Ex Γ lc (Ck w k sg dx S rest) (.Expr (.Call (.Attribute (.Name self sp) (Str.ofString "complain") ap) [e] [] pos) pos' :: st) R :=
  .ckCall (m_complain w) hs hx hk hd (fun _ _ _ _ _ _ _ _ _ _ => rfl) (.cons he .nil hst) hst rfl hpl hi9 hw (fun vs hv n hn => by
    obtain ⟨v, r, rfl, ⟨y, t, rfl, h1, h2⟩, rfl⟩ := hv
    have h1' : 1 ≤ y.length := Nat.le_trans (Nat.le_of_ble_eq_true hlo) h1
    exact complain_q hx (fun e => by subst e; exact absurd h1' (by decide)) (Nat.le_trans h2 (Nat.le_of_ble_eq_true hhi)) n hn) hroom hr
theorem Ev.reg0 {v : Str} {xp pos cp : Pos} {kn : Nat} {a : Addr} {r : Reg} (hP : ∀ n, P n → ∀ p ∈ rest, p ∈ n) (hr : RegAt rest (.ref a) r) (hn : (v, Vl.r a) ∈ lc) (hk : autoParam (Γ.env.kindOf v = some .local) rfl9) (hd : autoParam ((v == "__debug__") = false) rfl9) :
    Ev Γ lc P (.Subscript (.Name v xp) (.Constant (.int 0) kn cp) pos) (Vl.s r.nm).is := by
  obtain ⟨b, t1, t2, e, hm, _⟩ := hr
  injection e with e; subst e
  exact (Ev.tup (j := 0) (.name hn hk hd) .int (fun n h => hP n h _ hm) (by decide) (by decide) rfl rfl (fun _ => rfl)).is ⟨_, rfl⟩
theorem Ev.reg1 {v : Str} {xp pos cp : Pos} {kn : Nat} {a : Addr} {r : Reg} (hP : ∀ n, P n → ∀ p ∈ rest, p ∈ n) (hr : RegAt rest (.ref a) r) (hn : (v, Vl.r a) ∈ lc) (hk : autoParam (Γ.env.kindOf v = some .local) rfl9) (hd : autoParam ((v == "__debug__") = false) rfl9) :
    Ev Γ lc P (.Subscript (.Name v xp) (.Constant (.int 1) kn cp) pos) (Vl.i r.n).is := by
  obtain ⟨b, t1, t2, e, hm, _⟩ := hr
  injection e with e; subst e
  exact (Ev.tup (j := 1) (.name hn hk hd) .int (fun n h => hP n h _ hm) (by decide) (by decide) rfl rfl (fun _ => rfl)).is ⟨_, rfl⟩
/-- number_text(e), one figure -/
theorem Ev.numtext {np pos : Pos} {e : PX} {i : Int} (he : Ev Γ lc P e (Vl.i i).is) (h0 : 0 ≤ i) (h9 : i ≤ 9) (hroom : Γ.room 3 100) (hkf : autoParam (Γ.env.kindOf (Str.ofString "number_text") = some .globalImplicit) rfl9)
    (hst : autoParam (starEach [e] Γ.env = (false, eval e Γ.env) :: starEach [] Γ.env) rfl9) (hcall : autoParam (callIs (Str.ofString "number_text") np pos [e] Γ.env) rfl9) : Ev Γ lc P (.Call (.Name (Str.ofString "number_text") np) [e] [] pos) (TL 0 3) :=
  .ofT (EvT.call (f := 28) (post := fun r n' => TL 0 3 r ∧ P n') (by kernel_rfl!) hkf (by decide +kernel) (by kernel_rfl!) (.cons he .nil hst) hst rfl hcall (fun vs hv n hn => by
    obtain ⟨u, r', rfl, ⟨t, rfl⟩, rfl⟩ := hv
    exact (number_core w _ t n h0 h9).conv (Nat.le_refl _) (Nat.le_refl _) (fun _ h => h) fun v n' ⟨⟨y, t, e, hl⟩, e2⟩ => ⟨n', ⟨⟨y, t, e, Nat.zero_le _, hl⟩, e2 ▸ hn⟩, fun _ h => h⟩) hroom) fun v P' e n hn => by subst e; exact ⟨hn.1, n, hn.2, fun _ h => h⟩
end
theorem nm_len (r : Reg) : r.nm.length = 1 := by unfold Reg.nm; cases r.y <;> decide +kernel
theorem regtext_q {w : World} {a : Addr} {r : Reg} {rest : Led} {P : Led → Prop} (hP : ∀ n, P n → ∀ p ∈ rest, p ∈ n) (hr : RegAt rest (.ref a) r) : ∀ n, P n → Spec w 250 5 150 [.ref a] n (fun v n' => TL 0 4 v ∧ P n') := by
  refine' Spec.body (lc := [(Str.ofString "register", .r a)]) ?k6 ?k7 ?k9 ?kB ?c2 ?c3 ?c4 ?c5 ?hlc ?hd1 ?hu1 ?H
  case k6 => k_is
  case k7 => k_is
  case k9 => exact rfl
  case kB => exact rfl
  case c2 => exact rfl
  case c3 => exact rfl
  case c4 => exact rfl
  case c5 => decide
  case hlc => exact ⟨⟨_, rfl, rfl⟩, trivial⟩
  case hd1 => exact rfl
  case hu1 => exact rfl
  intro Γ hroom
  have hk : 1 ≤ r.n ∧ r.n ≤ 5 := by obtain ⟨_, _, _, _, _, h⟩ := hr; exact h
  exact .ret (.cat ((Ev.reg0 hP hr (.head _)).mono fun v ⟨t, e⟩ => (⟨_, t, e, Nat.zero_le _, Nat.le_of_eq (nm_len r)⟩ : TL 0 1 v)) (.numtext (.reg1 hP hr (.head _)) (by omega) (by omega) (hroom.le (by decide) (by decide))) (by decide)) fun v hv n hn => ⟨hv, hn⟩
section
variable {w : World} {F : Fn} {Γ : Cx w F} {lc : Lcs} {R : RX} {k : Nat → Tok} {sg dx x : Addr} {S : CS} {rest : Led} {P : Led → Prop}
/-- register_text(register) -/
theorem Ev.regtext {v : Str} {np xp pos : Pos} {a : Addr} {r : Reg} (hP : ∀ n, P n → ∀ p ∈ rest, p ∈ n) (hr : RegAt rest (.ref a) r) (hn : (v, Vl.r a) ∈ lc) (hroom : Γ.room 5 150) (hkf : autoParam (Γ.env.kindOf (Str.ofString "register_text") = some .globalImplicit) rfl9) (hk : autoParam (Γ.env.kindOf v = some .local) rfl9) (hd : autoParam ((v == "__debug__") = false) rfl9)
    (hst : autoParam (starEach [.Name v xp] Γ.env = (false, eval (.Name v xp) Γ.env) :: starEach [] Γ.env) rfl9) (hcall : autoParam (callIs (Str.ofString "register_text") np pos [.Name v xp] Γ.env) rfl9) : Ev Γ lc P (.Call (.Name (Str.ofString "register_text") np) [.Name v xp] [] pos) (TL 0 4) :=
  Ev.ofT (EvT.call (f := 250) (by kernel_rfl!) hkf (by decide +kernel) (by kernel_rfl!) (.cons (.name hn hk hd) .nil hst) hst rfl hcall (fun vs hv n hn => by
    obtain ⟨u, r', rfl, e, rfl⟩ := hv
    have e' : u = .ref a := e
    subst e'
    exact regtext_q hP hr n hn) hroom)
    fun v P' e n hn => by subst e; exact ⟨hn.1, n, hn.2, fun _ h => h⟩
end
theorem nm_x (y : Bool) (i : Int) : (Reg.nm ⟨y, i⟩ == Str.ofString "x") = !y := by cases y <;> (simp only [Reg.nm, Bool.false_eq_true, if_false, if_true]; decide +kernel)
theorem read_q {w : World} {k : Nat → Tok} {sg dx x : Addr} {S : CS} {rest : Led} {r : Reg} {a : Addr} (hx : (x, instObj 358 dx) ∈ rest) (hrg : RegAt rest (.ref a) r) :
    ∀ n, Ck w k sg dx S rest n → Spec w 278 8 400 [.ref x, .ref a] n (fun v n' => v = .none ∧ Ck w k sg dx (S.read r) rest n') := by
  refine' Spec.body (lc := [(Str.ofString "self", .r x), (Str.ofString "register", .r a)]) ?k6 ?k7 ?k9 ?kB ?c2 ?c3 ?c4 ?c5 ?hlc ?hd1 ?hu1 ?H
  case k6 => k_is
  case k7 => k_is
  case k9 => exact rfl
  case kB => exact rfl
  case c2 => exact rfl
  case c3 => exact rfl
  case c4 => exact rfl
  case c5 => decide
  case hlc => exact ⟨⟨_, rfl, rfl⟩, ⟨_, rfl, rfl⟩, trivial⟩
  case hd1 => exact rfl
  case hu1 => exact rfl
  intro Γ hroom
  have hP : ∀ {S : CS}, ∀ n, Ck w k sg dx S rest n → ∀ p ∈ rest, p ∈ n := fun n h => ck_rest h
  have hv : (Str.ofString "register", Vl.r a) ∈ [(Str.ofString "self", Vl.r x), (Str.ofString "register", Vl.r a)] := .tail _ (.head _)
  obtain ⟨y, i⟩ := r
  refine .ifC (.eqS (.reg0 hP hrg hv) .str) (fun h => ?_) (fun h => ?_)
  · have hy : y = false := by rw [nm_x] at h; simpa using h
    subst hy
    refine .ifC (.notin (y := false) (.reg1 hP hrg hv) (.head _) hx rfl rfl) (fun h1 => ?_) (fun h1 => ?_)
    · refine .say (.head _) hx (.cat (.regtext hP hrg hv (hroom.le (by decide) (by decide))) (.text rfl) (by decide)) (hroom.le (by decide) (by decide)) (.nilT (.nilT (.nil fun n hn => ⟨rfl, ?_⟩)))
      rw [CS.read_x, if_pos (show i ∉ S.xs from of_decide_eq_true h1)]; exact hn
    · refine .ifC (.eqI (.reg1 hP hrg hv) (.ck (.head _) hx .building rfl rfl)) (fun h2 => ?_) (fun h2 => ?_)
      · refine .say (.head _) hx (.cat (.regtext hP hrg hv (hroom.le (by decide) (by decide))) (.text rfl) (by decide)) (hroom.le (by decide) (by decide)) (.nilT (.nilT (.nilT (.nil fun n hn => ⟨rfl, ?_⟩))))
        rw [CS.read_x, if_neg (show ¬ i ∉ S.xs from of_decide_eq_false h1), if_pos (eq_of_beq h2)]; exact hn
      · refine .nilT (.nilT (.nilT (.nil fun n hn => ⟨rfl, ?_⟩)))
        rw [CS.read_x, if_neg (show ¬ i ∉ S.xs from of_decide_eq_false h1), if_neg (show ¬ i = S.bld from fun e => by rw [e] at h2; simp at h2)]; exact hn
  · have hy : y = true := by rw [nm_x] at h; simpa using h
    subst hy
    refine .ifC (.lt (.ck (.head _) hx .size rfl rfl) (.reg1 hP hrg hv)) (fun h1 => ?_) (fun h1 => ?_)
    · refine .say (.head _) hx (.cat (.regtext hP hrg hv (hroom.le (by decide) (by decide))) (.text rfl) (by decide)) (hroom.le (by decide) (by decide)) (.nilT (.nilT (.nil fun n hn => ⟨rfl, ?_⟩)))
      rw [CS.read_y, if_pos (show S.size < i from of_decide_eq_true h1)]; exact hn
    · refine .ifC (.notin (y := true) (.reg1 hP hrg hv) (.head _) hx rfl rfl) (fun h2 => ?_) (fun h2 => ?_)
      · refine .say (.head _) hx (.cat (.regtext hP hrg hv (hroom.le (by decide) (by decide))) (.text rfl) (by decide)) (hroom.le (by decide) (by decide)) (.nilT (.nilT (.nilT (.nil fun n hn => ⟨rfl, ?_⟩))))
        rw [CS.read_y, if_neg (show ¬ S.size < i from of_decide_eq_false h1), if_pos (show i ∉ S.ys from of_decide_eq_true h2)]; exact hn
      · refine .nilT (.nilT (.nilT (.nil fun n hn => ⟨rfl, ?_⟩)))
        rw [CS.read_y, if_neg (show ¬ S.size < i from of_decide_eq_false h1), if_neg (show ¬ i ∉ S.ys from of_decide_eq_false h2)]; exact hn
end Mine
end

section
open PySem PySem.W PySem.Spec PySem.Calls PyProof.Rows
set_option Elab.async false
set_option maxRecDepth 100000
set_option maxHeartbeats 4000000
namespace Mine
theorem fillq3 : True ∨ (PySem.Challenge.rw_sa0151_01 = PySem.Challenge.rw_sa0151_01 ∧ hd.heap_1 = hd.heap_1) := by
  k_fill
  exact .inl trivial
theorem write_q {w : World} {k : Nat → Tok} {sg dx x : Addr} {S : CS} {rest : Led} {r : Reg} {a : Addr} (hx : (x, instObj 358 dx) ∈ rest) (hrg : RegAt rest (.ref a) r) (hok : S.ok) :
    ∀ n, Ck w k sg dx S rest n → Spec w 285 8 400 [.ref x, .ref a] n (fun v n' => v = .none ∧ Ck w k sg dx (S.write r) rest n') := by
  refine' Spec.body (lc := [(Str.ofString "self", .r x), (Str.ofString "register", .r a)]) ?k6 ?k7 ?k9 ?kB ?c2 ?c3 ?c4 ?c5 ?hlc ?hd1 ?hu1 ?H
  case k6 => k_is
  case k7 => k_is
  case k9 => exact rfl
  case kB => exact rfl
  case c2 => exact rfl
  case c3 => exact rfl
  case c4 => exact rfl
  case c5 => decide
  case hlc => exact ⟨⟨_, rfl, rfl⟩, ⟨_, rfl, rfl⟩, trivial⟩
  case hd1 => exact rfl
  case hu1 => exact rfl
  intro Γ hroom
  have hP : ∀ {S : CS}, ∀ n, Ck w k sg dx S rest n → ∀ p ∈ rest, p ∈ n := fun n h => ck_rest h
  have hv : (Str.ofString "register", Vl.r a) ∈ [(Str.ofString "self", Vl.r x), (Str.ofString "register", Vl.r a)] := .tail _ (.head _)
  obtain ⟨y, i⟩ := r
  refine .ifC (.eqS (.reg0 hP hrg hv) .str) (fun h => ?_) (fun h => ?_)
  · have hy : y = false := by rw [nm_x] at h; simpa using h
    subst hy
    refine .ifC (.eqI (.reg1 hP hrg hv) (.ck (.head _) hx .building rfl rfl)) (fun h1 => ?_) (fun h1 => ?_)
    · refine .ckSet (.head _) hx .int (.building 0) rfl rfl rfl (.nilT (.ckPut (y := false) (fun P h => .reg1 (fun n hn => hP n (h n hn)) hrg hv) (.head _) hx rfl rfl hok.1 rfl (.nilT (.nil fun n hn => ⟨rfl, ?_⟩))))
      rw [CS.write_x, if_pos (eq_of_beq h1)]; exact hn
    · refine .nilT (.ckPut (y := false) (fun P h => .reg1 (fun n hn => hP n (h n hn)) hrg hv) (.head _) hx rfl rfl hok.1 rfl (.nilT (.nil fun n hn => ⟨rfl, ?_⟩)))
      rw [CS.write_x, if_neg (show ¬ i = S.bld from fun e => by rw [e] at h1; simp at h1)]; exact hn
  · have hy : y = true := by rw [nm_x] at h; simpa using h
    subst hy
    refine .ifC (.lt (.ck (.head _) hx .size rfl rfl) (.reg1 hP hrg hv)) (fun h1 => ?_) (fun h1 => ?_)
    · refine .say (.head _) hx (.cat (.regtext hP hrg hv (hroom.le (by decide) (by decide))) (.text rfl) (by decide)) (hroom.le (by decide) (by decide)) (.nilT (.nilT (.nil fun n hn => ⟨rfl, ?_⟩)))
      rw [CS.write_y, if_pos (show S.size < i from of_decide_eq_true h1)]; exact hn
    · refine .ckPut (y := true) (fun P h => .reg1 (fun n hn => hP n (h n hn)) hrg hv) (.head _) hx rfl rfl hok.2 rfl (.nilT (.nilT (.nil fun n hn => ⟨rfl, ?_⟩)))
      rw [CS.write_y, if_neg (show ¬ S.size < i from of_decide_eq_false h1)]; exact hn
theorem open_q {w : World} {k : Nat → Tok} {sg dx x : Addr} {S : CS} {rest : Led} {fam : Str} {c : Int} {tt tf : Tok} (hx : (x, instObj 358 dx) ∈ rest) (hc : c = 2) :
    ∀ n, Ck w k sg dx S rest n → Spec w 306 8 400 [.ref x, .int c tt, .str fam tf] n (fun v n' => v = .none ∧ Ck w k sg dx (S.opens fam) rest n') := by
  refine' Spec.body (lc := [(Str.ofString "self", .r x), (Str.ofString "count", .i c), (Str.ofString "family", .s fam)]) ?k6 ?k7 ?k9 ?kB ?c2 ?c3 ?c4 ?c5 ?hlc ?hd1 ?hu1 ?H
  case k6 => k_is
  case k7 => k_is
  case k9 => exact rfl
  case kB => exact rfl
  case c2 => exact rfl
  case c3 => exact rfl
  case c4 => exact rfl
  case c5 => decide
  case hlc => exact ⟨⟨_, rfl, rfl⟩, ⟨_, rfl, _, rfl⟩, ⟨_, rfl, _, rfl⟩, trivial⟩
  case hd1 => exact rfl
  case hu1 => exact rfl
  intro Γ hroom
  subst hc
  refine .ifF (.lt (.name (.tail _ (.head _)) rfl rfl) .int) (by decide) (.nilT ?_)
  exact .ckSet (.head _) hx (.name (.tail _ (.head _)) rfl rfl) (.due 2) rfl rfl rfl (.ckSet (.head _) hx (.name (.tail _ (.tail _ (.head _))) rfl rfl) (.family fam) rfl rfl rfl (.nil fun n hn => ⟨rfl, hn⟩))
section
variable {w : World} {F : Fn} {Γ : Cx w F} {lc : Lcs} {R : RX} {k : Nat → Tok} {sg dx x : Addr} {S : CS} {rest : Led} {P : Led → Prop} {row : Row} {av : Addr} {v : Str}
theorem OpsAt.get {L : Led} {vs : List Value} {os : List Op} (h : OpsAt L vs os) : ∀ {i : Nat} {o : Op}, os[i]? = some o → ∃ v, vs[i]? = some v ∧ OpAt L v o := by
  induction h with
  | nil => intro i o h; simp at h
  | cons a _ ih =>
    intro i o h
    cases i with
    | zero => cases h; exact ⟨_, rfl, a⟩
    | succ i => exact ih h
theorem OpsAt.len {L : Led} {vs : List Value} {os : List Op} (h : OpsAt L vs os) : vs.length = os.length := by
  induction h with
  | nil => rfl
  | cons _ _ ih => simp [ih]
theorem Ev.row0 {xp pos cp : Pos} {kn : Nat} (hP : ∀ n, P n → ∀ p ∈ rest, p ∈ n) (hr : RowAt rest (.ref av) row) (hn : (v, Vl.r av) ∈ lc) (hk : autoParam (Γ.env.kindOf v = some .local) rfl9) (hd : autoParam ((v == "__debug__") = false) rfl9) :
    Ev Γ lc P (.Subscript (.Name v xp) (.Constant (.int 0) kn cp) pos) (Vl.s row.name).is := by
  obtain ⟨b, t, vs, e, hm, _⟩ := hr
  injection e with e; subst e
  exact (Ev.tup (j := 0) (.name hn hk hd) .int (fun n h => hP n h _ hm) (by decide) (by decide) (seqN (Nat.succ_pos _)) rfl (fun _ => rfl)).is ⟨_, rfl⟩
/-- an operand of the row -/
theorem Ev.op {xp pos cp : Pos} {kn : Nat} {i : Int} (j : Nat) {o : Op} (hP : ∀ n, P n → ∀ p ∈ rest, p ∈ n) (hr : RowAt rest (.ref av) row) (ho : row.ops[j]? = some o) (hn : (v, Vl.r av) ∈ lc) (hi : autoParam (i = ((j + 1 : Nat) : Int)) rfl9) (hj : autoParam (Nat.ble j 5 = true) rfl9) (hk : autoParam (Γ.env.kindOf v = some .local) rfl9) (hd : autoParam ((v == "__debug__") = false) rfl9) :
    Ev Γ lc P (.Subscript (.Name v xp) (.Constant (.int i) kn cp) pos) (fun u => OpAt rest u o) := by
  obtain ⟨b, t, vs, e, hm, hops⟩ := hr
  injection e with e; subst e
  obtain ⟨u, hu, hq⟩ := hops.get ho
  have hj' := Nat.le_of_ble_eq_true hj
  subst hi
  have hl : j < vs.length := (List.getElem?_eq_some_iff.mp hu).1
  exact (Ev.tup (j := j + 1) (.name hn hk hd) .int (fun n h => hP n h _ hm) (by omega) (by omega) (seqN (Nat.succ_lt_succ hl)) hu (fun _ => rfl)).mono fun _ e => e ▸ hq
/-- the last operand -/
theorem Ev.last {xp xp' np pos cp bp lp : Pos} {kn : Nat} {o : Op} (hP : ∀ n, P n → ∀ p ∈ rest, p ∈ n) (hr : RowAt rest (.ref av) row) (j : Nat) (hj : row.ops.length = j + 1) (ho : row.ops[j]? = some o) (hn : (v, Vl.r av) ∈ lc) (hj5 : autoParam (Nat.ble j 5 = true) rfl9) (hk : autoParam (Γ.env.kindOf v = some .local) rfl9) (hkl : autoParam (Γ.env.kindOf (Str.ofString "len") = some .globalImplicit) rfl9) (hd : autoParam ((v == "__debug__") = false) rfl9)
    (hst : autoParam (starEach [.Name v xp'] Γ.env = (false, eval (.Name v xp') Γ.env) :: starEach [] Γ.env) rfl9) (hcall : autoParam (callIs (Str.ofString "len") np lp [.Name v xp'] Γ.env) rfl9) :
    Ev Γ lc P (.Subscript (.Name v xp) (.BinOp (.Call (.Name (Str.ofString "len") np) [.Name v xp'] [] lp) .Sub (.Constant (.int 1) kn cp) bp) pos) (fun u => OpAt rest u o) := by
  obtain ⟨b, t, vs, e, hm, hops⟩ := hr
  injection e with e; subst e
  obtain ⟨u, hu, hq⟩ := hops.get ho
  have hj' := Nat.le_of_ble_eq_true hj5
  have hlen : (Value.str row.name t :: vs).length = j + 2 := by rw [List.length_cons, hops.len, hj]
  refine (Ev.tup (j := j + 1) (k := ((j + 1 : Nat) : Int)) (.name hn hk hd) ?_ (fun n h => hP n h _ hm) (by omega) (by omega) (seqN (by omega)) hu (fun _ => rfl)).mono fun _ e => e ▸ hq
  have h := Ev.sub (pos := bp) (Ev.lenT (np := np) (pos := lp) (.name (pos := xp') hn hk hd) (fun n h => hP n h _ hm) (by omega) hkl (by kernel_rfl!) hst rfl hcall) (Ev.int (n := 1) (k := kn) (pos := cp))
  have e : ((Value.str row.name t :: vs).length : Int) - 1 = ((j + 1 : Nat) : Int) := by omega
  rw [e] at h; exact h
theorem regOp {u : Value} {r : Reg} (h : OpAt rest u (.reg r)) : ∃ a, u = .ref a ∧ RegAt rest (.ref a) r := by
  obtain ⟨a, t1, t2, e, m, ok⟩ := h
  exact ⟨a, e, a, t1, t2, rfl, m, ok⟩
/-- self.meth(e) -/
theorem Ex.meth1 {S' : CS} {meth : Str} {f : Addr} {self : Str} {sp ap pos pos' : Pos} {dp un : Nat} {e : PX} {st : List Stmt} {V : Value → Prop} (M : Mth w 358 meth f) (hs : (self, Vl.r x) ∈ lc) (hx : (x, instObj 358 dx) ∈ rest) (he : Ev Γ lc (Ck w k sg dx S rest) e V)
    (spec : ∀ v, V v → ∀ n, Ck w k sg dx S rest n → Spec w f dp un [.ref x, v] n (fun r n' => r = .none ∧ Ck w k sg dx S' rest n')) (hroom : Γ.room dp un) (hr : Ex Γ lc (Ck w k sg dx S' rest) st R)
    (hg : autoParam (∀ P a b c d e f g h i, getL meth (ckEs P k a b c d e f g h i) = some none) irfl9) (hk : autoParam (Γ.env.kindOf self = some .local) rfl9) (hd : autoParam ((self == "__debug__") = false) rfl9) (hst : autoParam (starEach [e] Γ.env = (false, eval e Γ.env) :: starEach [] Γ.env) rfl9)
    (hpl : autoParam (methIs self sp ap pos meth [e] Γ.env) some9) (hi : autoParam (interactive Γ.env = false) rfl9) (hw : autoParam (swapsWith (.Call (.Attribute (.Name self sp) meth ap) [e] [] pos) none pos'.line Γ.env = pure false) rfl9) :
    Ex Γ lc (Ck w k sg dx S rest) (.Expr (.Call (.Attribute (.Name self sp) meth ap) [e] [] pos) pos' :: st) R :=
  .ckCall M hs hx hk hd hg (.cons he .nil hst) hst rfl hpl hi hw (fun vs hv n hn => by
    obtain ⟨v, r, rfl, hv, rfl⟩ := hv
    exact spec v hv n hn) hroom hr
theorem Ex.read {r : Reg} {self : Str} {sp ap pos pos' : Pos} {e : PX} {st : List Stmt} (hs : (self, Vl.r x) ∈ lc) (hx : (x, instObj 358 dx) ∈ rest) (he : Ev Γ lc (Ck w k sg dx S rest) e (fun u => OpAt rest u (.reg r))) (hroom : Γ.room 8 400) (hr : Ex Γ lc (Ck w k sg dx (S.read r) rest) st R)
    (hk : autoParam (Γ.env.kindOf self = some .local) rfl9) (hd : autoParam ((self == "__debug__") = false) rfl9) (hst : autoParam (starEach [e] Γ.env = (false, eval e Γ.env) :: starEach [] Γ.env) rfl9) (hpl : autoParam (methIs self sp ap pos (Str.ofString "read") [e] Γ.env) some9) (hi : autoParam (interactive Γ.env = false) rfl9)
    (hw : autoParam (swapsWith (.Call (.Attribute (.Name self sp) (Str.ofString "read") ap) [e] [] pos) none pos'.line Γ.env = pure false) rfl9) : Ex Γ lc (Ck w k sg dx S rest) (.Expr (.Call (.Attribute (.Name self sp) (Str.ofString "read") ap) [e] [] pos) pos' :: st) R :=
  .meth1 (m_read w) hs hx he (fun v hv n hn => by obtain ⟨a, rfl, h⟩ := regOp hv; exact read_q hx h n hn) hroom hr (by intros; rfl) hk hd hst hpl hi hw
theorem Ex.write {r : Reg} {self : Str} {sp ap pos pos' : Pos} {e : PX} {st : List Stmt} (hs : (self, Vl.r x) ∈ lc) (hx : (x, instObj 358 dx) ∈ rest) (he : Ev Γ lc (Ck w k sg dx S rest) e (fun u => OpAt rest u (.reg r))) (hok : S.ok) (hroom : Γ.room 8 400) (hr : Ex Γ lc (Ck w k sg dx (S.write r) rest) st R)
    (hk : autoParam (Γ.env.kindOf self = some .local) rfl9) (hd : autoParam ((self == "__debug__") = false) rfl9) (hst : autoParam (starEach [e] Γ.env = (false, eval e Γ.env) :: starEach [] Γ.env) rfl9) (hpl : autoParam (methIs self sp ap pos (Str.ofString "write") [e] Γ.env) some9) (hi : autoParam (interactive Γ.env = false) rfl9)
    (hw : autoParam (swapsWith (.Call (.Attribute (.Name self sp) (Str.ofString "write") ap) [e] [] pos) none pos'.line Γ.env = pure false) rfl9) : Ex Γ lc (Ck w k sg dx S rest) (.Expr (.Call (.Attribute (.Name self sp) (Str.ofString "write") ap) [e] [] pos) pos' :: st) R :=
  .meth1 (m_write w) hs hx he (fun v hv n hn => by obtain ⟨a, rfl, h⟩ := regOp hv; exact write_q hx h hok n hn) hroom hr (by intros; rfl) hk hd hst hpl hi hw
end
end Mine
end

section
open PySem PySem.W PySem.Spec PySem.Calls PyProof.Rows
set_option Elab.async false
set_option maxRecDepth 100000
set_option maxHeartbeats 4000000
namespace Mine
theorem fillq4 : True ∨ (PySem.Challenge.rw_sa0151_01 = PySem.Challenge.rw_sa0151_01 ∧ hd.heap_1 = hd.heap_1) := by
  k_fill
  exact .inl trivial
theorem m_fcount (w : World) : Mth w 162 (Str.ofString "functor_count") 152 := ⟨by kernel_rfl!, by kernel_rfl!, by kernel_rfl!, by kernel_rfl!⟩
theorem m_arity (w : World) : Mth w 162 (Str.ofString "arity") 131 := ⟨by kernel_rfl!, by kernel_rfl!, by kernel_rfl!, by kernel_rfl!⟩
theorem fcount_q {w : World} {sg : Addr} {rest : Led} {P : Led → Prop} (hP : ∀ n, P n → ∀ p ∈ rest, p ∈ n) (hs : SymAt w sg rest) :
    ∀ n, P n → Spec w 152 2 50 [.ref sg] n (fun r n' => (Vl.i 33).is r ∧ P n') := by
  obtain ⟨ds, fl, kt, v1, v2, v4, fs, nf, s1, s2, s3, s4, s5⟩ := hs.ex
  refine' Spec.body (lc := [(Str.ofString "self", .r sg)]) ?k6 ?k7 ?k9 ?kB ?c2 ?c3 ?c4 ?c5 ?hlc ?hd1 ?hu1 ?H
  case k6 => k_is
  case k7 => k_is
  case k9 => exact rfl
  case kB => exact rfl
  case c2 => exact rfl
  case c3 => exact rfl
  case c4 => exact rfl
  case c5 => decide
  case hlc => exact ⟨⟨_, rfl, rfl⟩, trivial⟩
  case hd1 => exact rfl
  case hu1 => exact rfl
  intro Γ hroom
  refine .ret (V := (Vl.i 33).is) ?_ (fun v hv n hn => ⟨hv, hn⟩)
  have e : Vl.i 33 = Vl.i fs.length := by rw [s4]; rfl
  rw [e]
  exact Ev.lenL ((Ev.inst (C := 162) (.name (.head _) rfl rfl) (fun n h => hP n h _ s1) (fun n h => hP n h _ s2) (by kernel_rfl!) (by kernel_rfl!) (by kernel_rfl!) rfl rfl).is (vl := .r fl) rfl) (fun n h => hP n h _ s3) (by omega) rfl (by kernel_rfl!) rfl rfl rfl
theorem sarity_q {w : World} {sg : Addr} {rest : Led} {P : Led → Prop} {f : Int} {tf : Tok} (hP : ∀ n, P n → ∀ p ∈ rest, p ∈ n) (hs : SymAt w sg rest) (hf : FOk f) :
    ∀ n, P n → Spec w 131 2 50 [.ref sg, .int f tf] n (fun r n' => (Vl.i (arF f)).is r ∧ P n') := by
  obtain ⟨ds, fl, kt, v1, v2, v4, fs, nf, s1, s2, s3, s4, s5⟩ := hs.ex
  obtain ⟨t, v, tk, q1, q2⟩ := s5 f hf
  have hf0 : 0 ≤ f ∧ f < 2 ^ 63 := by rcases hf with rfl | rfl | rfl <;> decide
  refine' Spec.body (lc := [(Str.ofString "self", .r sg), (Str.ofString "functor", .i f)]) ?k6 ?k7 ?k9 ?kB ?c2 ?c3 ?c4 ?c5 ?hlc ?hd1 ?hu1 ?H
  case k6 => k_is
  case k7 => k_is
  case k9 => exact rfl
  case kB => exact rfl
  case c2 => exact rfl
  case c3 => exact rfl
  case c4 => exact rfl
  case c5 => decide
  case hlc => exact ⟨⟨_, rfl, rfl⟩, ⟨_, rfl, _, rfl⟩, trivial⟩
  case hd1 => exact rfl
  case hu1 => exact rfl
  intro Γ hroom
  exact .ret (V := (Vl.i (arF f)).is) ((Ev.tup (j := 1) ((Ev.lst ((Ev.inst (C := 162) (.name (.head _) rfl rfl) (fun n h => hP n h _ s1) (fun n h => hP n h _ s2) (by kernel_rfl!) (by kernel_rfl!) (by kernel_rfl!) rfl rfl).is (vl := .r fl) rfl) (.name (.tail _ (.head _)) rfl rfl) (fun n h => hP n h _ s3) hf0.1 hf0.2 q1 (fun _ => rfl)).is (vl := .r t) rfl) .int
    (fun n h => hP n h _ q2) (by decide) (by decide) (seqN (Nat.le_refl 2)) rfl (fun _ => rfl)).is ⟨_, rfl⟩) (fun v hv n hn => ⟨hv, hn⟩)
theorem arity_q {w : World} {k : Nat → Tok} {sg dx x : Addr} {S : CS} {rest : Led} {f : Int} {tf : Tok} (hx : (x, instObj 358 dx) ∈ rest) (hs : SymAt w sg rest) (hf : FOk f) :
    ∀ n, Ck w k sg dx S rest n → Spec w 292 8 400 [.ref x, .int f tf] n (fun r n' => (Vl.i (arF f)).is r ∧ Ck w k sg dx S rest n') := by
  obtain ⟨ds, fl, kt, v1, v2, v4, fs, nf, s1, s2, s3, s4, s5⟩ := hs.ex
  have hP : ∀ n, Ck w k sg dx S rest n → ∀ p ∈ rest, p ∈ n := fun n h => ck_rest h
  have hf0 : 0 ≤ f ∧ f < 33 := by rcases hf with rfl | rfl | rfl <;> decide
  refine' Spec.body (lc := [(Str.ofString "self", .r x), (Str.ofString "functor", .i f)]) ?k6 ?k7 ?k9 ?kB ?c2 ?c3 ?c4 ?c5 ?hlc ?hd1 ?hu1 ?H
  case k6 => k_is
  case k7 => k_is
  case k9 => exact rfl
  case kB => exact rfl
  case c2 => exact rfl
  case c3 => exact rfl
  case c4 => exact rfl
  case c5 => decide
  case hlc => exact ⟨⟨_, rfl, rfl⟩, ⟨_, rfl, _, rfl⟩, trivial⟩
  case hd1 => exact rfl
  case hu1 => exact rfl
  intro Γ hroom
  refine .ifF (.row (.or (.lt (.name (.tail _ (.head _)) rfl rfl) .int) fun _ => .or (.ge (y := 33) (.name (.tail _ (.head _)) rfl rfl) (.ofT (.callM0 (m_fcount w) (.ck (.head _) hx .symbols rfl rfl) (instI (fun n h => hP n h _ s1) (fun n h => hP n h _ s2) rfl) ⟨_, rfl⟩ (fcount_q hP hs) (hroom.le (by decide) (by decide))) fun v P' e n hn => by subst e; exact ⟨hn.1, n, hn.2, fun _ h => h⟩)) fun _ => .or0)) ?_ (.nilT ?_)
  · have h1 : decide (f < 0) = false := decide_eq_false (by omega)
    have h2 : decide ((33 : Int) ≤ f) = false := decide_eq_false (by omega)
    rw [h1, h2]; rfl
  · exact .ret (V := (Vl.i (arF f)).is) (.ofT (.callM (m_arity w) (.ck (.head _) hx .symbols rfl rfl) (instI (fun n h => hP n h _ s1) (fun n h => hP n h _ s2) rfl) (.cons (.name (.tail _ (.head _)) rfl rfl) .nil rfl) rfl rfl ⟨_, rfl⟩ (fun vs hv n hn => by
      obtain ⟨v, r, rfl, ⟨t, rfl⟩, rfl⟩ := hv
      exact sarity_q hP hs hf n hn) (hroom.le (by decide) (by decide))) fun v P' e n hn => by subst e; exact ⟨hn.1, n, hn.2, fun _ h => h⟩) (fun v hv n hn => ⟨hv, hn⟩)
section
variable {w : World} {k : Nat → Tok} {sg dx x : Addr} {S : CS} {rest : Led} {I : Addr} {it : Obj}
theorem rot4 {a b c e : Addr × Obj} {r : Led} : ∀ p ∈ a :: b :: c :: e :: r, p ∈ e :: a :: b :: c :: r := fun p hp => by
  simp only [List.mem_cons] at hp ⊢
  rcases hp with h | h | h | h | h
  · exact .inr (.inl h)
  · exact .inr (.inr (.inl h))
  · exact .inr (.inr (.inr (.inl h)))
  · exact .inl h
  · exact .inr (.inr (.inr (.inr h)))
theorem rot4' {a b c e : Addr × Obj} {r : Led} : ∀ p ∈ e :: a :: b :: c :: r, p ∈ a :: b :: c :: e :: r := fun p hp => by
  simp only [List.mem_cons] at hp ⊢
  rcases hp with h | h | h | h | h
  · exact .inr (.inr (.inr (.inl h)))
  · exact .inl h
  · exact .inr (.inl h)
  · exact .inr (.inr (.inl h))
  · exact .inr (.inr (.inr (.inr h)))
theorem cons_ne {e : Addr × Obj} {r : Led} {d : Addr} (h : e.1 ≠ d) (hr : ∀ p ∈ r, p.1 ≠ d) : ∀ p ∈ e :: r, p.1 ≠ d := fun p hp => (List.mem_cons.mp hp).elim (fun h' => h' ▸ h) (hr p)
theorem ck_in {n : Led} (h : Fresh I it (Ck w k sg dx S rest) n) : ∃ n', Ck w k sg dx S ((I, it) :: rest) n' ∧ ∀ p ∈ n', p ∈ n := by
  obtain ⟨nx, rfl, ⟨D, rfl⟩, ho⟩ := h
  exact ⟨_, ⟨{ D with hr1 := cons_ne (Ne.symm (ho _ (.head _))) D.hr1, hr2 := cons_ne (Ne.symm (ho _ (.tail _ (.head _)))) D.hr2, hr3 := cons_ne (Ne.symm (ho _ (.tail _ (.tail _ (.head _))))) D.hr3 }, rfl⟩, rot4⟩
theorem ck_out {n : Led} (ho : ∀ p ∈ rest, p.1 ≠ I) (hC : Ck w k sg dx S ((I, it) :: rest) n) : ∃ n', Fresh I it (Ck w k sg dx S rest) n' ∧ ∀ p ∈ n', p ∈ n := by
  obtain ⟨D, rfl⟩ := hC
  exact ⟨_, ⟨_, rfl, ⟨{ D with hr1 := fun p hp => D.hr1 p (.tail _ hp), hr2 := fun p hp => D.hr2 p (.tail _ hp), hr3 := fun p hp => D.hr3 p (.tail _ hp) }, rfl⟩, cons_ne (Ne.symm (D.hr1 _ (.head _))) (cons_ne (Ne.symm (D.hr2 _ (.head _))) (cons_ne (Ne.symm (D.hr3 _ (.head _))) ho))⟩, rot4'⟩
theorem ck_drop {n : Led} {e : Addr × Obj} (hC : Ck w k sg dx S (e :: rest) n) : ∃ n', Ck w k sg dx S rest n' ∧ ∀ p ∈ n', p ∈ n := by
  obtain ⟨D, rfl⟩ := hC
  exact ⟨_, ⟨{ D with hr1 := fun p hp => D.hr1 p (.tail _ hp), hr2 := fun p hp => D.hr2 p (.tail _ hp), hr3 := fun p hp => D.hr3 p (.tail _ hp) }, rfl⟩, fun p hp => rot4' p (.tail _ hp)⟩
theorem fresh_off {n : Led} (h : Fresh I it (Ck w k sg dx S rest) n) : ∀ p ∈ rest, p.1 ≠ I := by
  obtain ⟨nx, rfl, hC, ho⟩ := h
  exact fun p hp => ho p (ck_rest hC p hp)
end
theorem args_q {w : World} {k : Nat → Tok} {sg dx x : Addr} {S : CS} {rest : Led} {f : Int} {tf : Tok} (hx : (x, instObj 358 dx) ∈ rest) (hs : SymAt w sg rest) (hf : f = 21 ∨ f = 32) :
    ∀ n, Ck w k sg dx S rest n → Spec w 299 12 600 [.ref x, .int f tf] n (fun r n' => r = .none ∧ Ck w k sg dx (S.args f) rest n') := by
  refine' Spec.body (lc := [(Str.ofString "self", .r x), (Str.ofString "functor", .i f)]) ?k6 ?k7 ?k9 ?kB ?c2 ?c3 ?c4 ?c5 ?hlc ?hd1 ?hu1 ?H
  case k6 => k_is
  case k7 => k_is
  case k9 => exact rfl
  case kB => exact rfl
  case c2 => exact rfl
  case c3 => exact rfl
  case c4 => exact rfl
  case c5 => decide
  case hlc => exact ⟨⟨_, rfl, rfl⟩, ⟨_, rfl, _, rfl⟩, trivial⟩
  case hd1 => exact rfl
  case hu1 => exact rfl
  intro Γ hroom
  have har : arF f = 0 ∧ f = 21 ∨ arF f = 2 ∧ f = 32 := by rcases hf with rfl | rfl <;> decide
  refine .forRange (a := 1) (b := arF f + 1) (arF f).toNat (fun i l p => l = [(Str.ofString "self", .r x), (Str.ofString "functor", .i f)] ∧ p = Ck w k sg dx S rest ∧ ∀ j : Nat, j < i → (1 + (j : Int)) ∈ S.xs) ?_ ?_ ?_ rfl rfl (fun _ => rfl) ?_ ?_ ?_
  · exact .two .int (.add (.ofT (.callM (m_arity_of w) (.name (.head _) rfl rfl) (ckI hx (by intros; rfl)) (.cons (.name (.tail _ (.head _)) rfl rfl) .nil rfl) rfl rfl ⟨_, rfl⟩ (fun vs hv n hn => by
      obtain ⟨v, r, rfl, ⟨t, rfl⟩, rfl⟩ := hv
      exact arity_q hx hs (.inr hf) n hn) (hroom.le (by decide) (by decide))) fun v P' e n hn => by subst e; exact ⟨hn.1, n, hn.2, fun _ h => h⟩) .int) rfl (by kernel_rfl!) rfl rfl rfl rfl
  · rcases har with ⟨e, _⟩ | ⟨e, _⟩ <;> (rw [e]; decide)
  · rcases har with ⟨e, _⟩ | ⟨e, _⟩ <;> (rw [e]; decide)
  · exact ⟨rfl, rfl, fun j h => absurd h (Nat.not_lt_zero _)⟩
  · rintro i l p I it hi ⟨rfl, rfl, hj⟩
    refine ⟨_, .cons (by kernel_rfl!), ?_⟩
    refine .fact (fun n h => fresh_off h) fun hoff => .weak (fun _ h => h) (fun n h => ck_in h) ?_
    have hx' : (x, instObj 358 dx) ∈ (I, it) :: rest := .tail _ hx
    have hi2 : f = 32 ∧ i < 2 := by rcases har with ⟨e, _⟩ | ⟨e, e2⟩ <;> rw [e] at hi <;> simp only [Int.reduceToNat] at hi <;> first | omega | exact ⟨e2, hi⟩
    refine .ifC (.notin (y := false) (.name (.head _) rfl rfl) (.tail _ (.head _)) hx' rfl rfl) (fun h => ?_) (fun h => ?_)
    · refine .say (.tail _ (.head _)) hx' (.cat (.cat (.text rfl) (.numtext (.name (.head _) rfl rfl) (by omega) (by omega) (hroom.le (by decide) (by decide))) (by decide)) (.text rfl) (by decide)) (hroom.le (by decide) (by decide)) (.weak (fun _ h => h) (fun n h => ck_drop h) (.ret0 fun n hn => ⟨rfl, ?_⟩))
      obtain ⟨rfl, hi2⟩ := hi2
      have hn1 : (1 + (i : Int)) ∉ S.xs := of_decide_eq_true h
      have : S.args 32 = S.complain := by
        rw [CS.args_32]
        by_cases h1 : (1 : Int) ∉ S.xs
        · rw [if_pos h1]
        · rw [if_neg h1]
          have e : i = 1 := by
            rcases Nat.lt_or_ge i 1 with h0 | h0
            · have : i = 0 := by omega
              subst this
              exact absurd hn1 h1
            · omega
          subst e
          rw [if_pos (show (2 : Int) ∉ S.xs from hn1)]
      rw [this]; exact hn
    · refine .nilT (.nil ⟨_, _, ⟨rfl, rfl, fun j hj' => ?_⟩, fun p hp => .tail _ hp, fun n hn => ck_out hoff hn⟩)
      have hn1 : ¬ (1 + (i : Int)) ∉ S.xs := of_decide_eq_false h
      rcases Nat.lt_or_ge j i with h2 | h2
      · exact hj j h2
      · have : j = i := by omega
        subst this
        exact Classical.not_not.mp hn1
  · rintro l p ⟨rfl, rfl, hj⟩
    refine .nil fun n hn => ⟨rfl, ?_⟩
    have : S.args f = S := by
      rcases har with ⟨e, rfl⟩ | ⟨e, rfl⟩
      · exact CS.args_21 S
      · rw [e] at hj
        rw [CS.args_32, if_neg (fun h => h (hj 0 (by decide))), if_neg (fun h => h (hj 1 (by decide)))]
    rw [this]; exact hn
end Mine
end

section
open PySem PySem.W PySem.Spec PySem.Calls PyProof.Rows
set_option Elab.async false
set_option maxRecDepth 100000
set_option maxHeartbeats 4000000
namespace Mine
theorem fillq5 : True ∨ (PySem.Challenge.rw_sa0151_01 = PySem.Challenge.rw_sa0151_01 ∧ hd.heap_1 = hd.heap_1) := by
  k_fill
  exact .inl trivial
noncomputable def Row.kind : Row → Str
  | .famValue .. => Str.ofString "value" | .famLocal .. => Str.ofString "local_value" | .famVariable .. => Str.ofString "variable" | .famVoid .. => Str.ofString "void" | _ => Str.ofString "constant"
theorem kind_is (row : Row) (g : Bool) (h : row.fam? = some g) : Txt.slice row.name (some ((Str.ofString (famPre g)).length : Int)) none = row.kind := by
  cases row <;> first | (cases h; done) | (injection h with h; subst h; rename_i g _; cases g <;> kernel_rfl!) | (injection h with h; subst h; rename_i g; cases g <;> kernel_rfl!)
theorem fam_len (g : Bool) : (Str.ofString (famPre g)).length ≤ 1000 := by cases g <;> decide +kernel
theorem name_len (row : Row) (g : Bool) (h : row.fam? = some g) : row.name.length ≤ 1000 := by
  cases row <;> first | (cases h; done) | (injection h with h; subst h; rename_i g _; cases g <;> exact Nat.le_of_ble_eq_true (by kernel_rfl!)) | (injection h with h; subst h; rename_i g; cases g <;> exact Nat.le_of_ble_eq_true (by kernel_rfl!))
/-- how many places the row takes, and what it reads or writes -/
noncomputable def Row.many : Row → Int
  | .famVoid _ n => n | _ => 1
noncomputable def CS.pre (S : CS) : Row → CS
  | .famValue _ r => S.read r | .famLocal _ r => S.read r | .famVariable _ r => S.write r | _ => S
theorem structA_pre (S : CS) (row : Row) (g : Bool) (h : row.fam? = some g) : S.structA row = (S.pre row).take row.many := by cases row <;> first | rfl | (cases h; done)
inductive StrA (S : CS) (row : Row) : Int → CS → Prop
  | void (n : Int) : (row.kind == Str.ofString "void") = true → row.ops[0]? = some (.int n) → StrA S row n S
  | wr (r : Reg) : (row.kind == Str.ofString "void") = false → (row.kind == Str.ofString "variable") = true → row.ops[0]? = some (.reg r) → StrA S row 1 (S.write r)
  | rd (r : Reg) : (row.kind == Str.ofString "void") = false → (row.kind == Str.ofString "variable") = false → (row.kind == Str.ofString "value" || (row.kind == Str.ofString "local_value" || false)) = true → row.ops[0]? = some (.reg r) → StrA S row 1 (S.read r)
  | no : (row.kind == Str.ofString "void") = false → (row.kind == Str.ofString "variable") = false → (row.kind == Str.ofString "value" || (row.kind == Str.ofString "local_value" || false)) = false → StrA S row 1 S
theorem struct_way (S : CS) (row : Row) (g : Bool) (hg : row.fam? = some g) : StrA S row row.many (S.pre row) := by
  cases row <;> first
    | (cases hg; done)
    | exact .void _ (by kernel_rfl!) rfl
    | exact .wr _ (by kernel_rfl!) (by kernel_rfl!) rfl
    | exact .rd _ (by kernel_rfl!) (by kernel_rfl!) (by kernel_rfl!) rfl
    | exact .no (by kernel_rfl!) (by kernel_rfl!) (by kernel_rfl!)
theorem struct_q {w : World} {k : Nat → Tok} {sg dx x : Addr} {S : CS} {rest : Led} {row : Row} {g : Bool} {av : Addr} (hx : (x, instObj 358 dx) ∈ rest) (hr : RowAt rest (.ref av) row) (hg : row.fam? = some g) (hfam : S.fam = Str.ofString (famPre g)) (hok : S.ok) :
    ∀ n, Ck w k sg dx S rest n → Spec w 313 12 600 [.ref x, .ref av] n (fun v n' => v = .none ∧ Ck w k sg dx (S.structA row) rest n') := by
  rw [structA_pre S row g hg]
  refine' Spec.body (lc := [(Str.ofString "self", .r x), (Str.ofString "ins", .r av)]) ?k6 ?k7 ?k9 ?kB ?c2 ?c3 ?c4 ?c5 ?hlc ?hd1 ?hu1 ?H
  case k6 => k_is
  case k7 => k_is
  case k9 => exact rfl
  case kB => exact rfl
  case c2 => exact rfl
  case c3 => exact rfl
  case c4 => exact rfl
  case c5 => decide
  case hlc => exact ⟨⟨_, rfl, rfl⟩, ⟨_, rfl, rfl⟩, trivial⟩
  case hd1 => exact rfl
  case hu1 => exact rfl
  intro Γ hroom
  have hP : ∀ {S : CS}, ∀ n, Ck w k sg dx S rest n → ∀ p ∈ rest, p ∈ n := fun n h => ck_rest h
  refine .set (vl := .s row.kind) ?_ (nm_ok (by kernel_rfl!)) rfl rfl ?_
  · have h := kind_is row g hg
    rw [← hfam] at h
    rw [← h]
    exact .cutS (.row0 hP hr (.tail _ (.head _))) (.lenS (.ck (.head _) hx .family rfl rfl) (by rw [hfam]; exact fam_len g) rfl (by kernel_rfl!) rfl rfl rfl) (name_len row g hg) (fun _ _ => rfl) (fun _ _ => rfl)
  refine .set (vl := .i 1) .int (nm_ok (by kernel_rfl!)) rfl rfl ?_
  have hA := struct_way S row g hg
  generalize S.pre row = S0 at hA ⊢
  generalize row.many = d at hA ⊢
  generalize hL : [(Str.ofString "done", Vl.i 1), (Str.ofString "kind", Vl.s row.kind), (Str.ofString "self", Vl.r x), (Str.ofString "ins", Vl.r av)] = L
  have hv : (Str.ofString "ins", Vl.r av) ∈ L := hL ▸ .tail _ (.tail _ (.tail _ (.head _)))
  have hs : (Str.ofString "self", Vl.r x) ∈ L := hL ▸ .tail _ (.tail _ (.head _))
  have hk9 : (Str.ofString "kind", Vl.s row.kind) ∈ L := hL ▸ .tail _ (.head _)
  have hd9 : (Str.ofString "done", Vl.i 1) ∈ L := hL ▸ .head _
  clear hL
  have nd : ∀ p ∈ [(Str.ofString "self", Vl.r x)], p.1 ≠ Str.ofString "done" := nm_ok (by kernel_rfl!)
  generalize hJ : (fun (f : Flow) (l : Lcs) (p : Led → Prop) => f = .next ∧ (∀ q ∈ [(Str.ofString "done", Vl.i d), (Str.ofString "self", Vl.r x)], q ∈ l) ∧ p = Ck w k sg dx S0 rest) = J
  have keep : d = 1 → J .next L (Ck w k sg dx S0 rest) := fun h1 => hJ ▸ ⟨rfl, fun q hq => by
    rw [h1] at hq
    rcases List.mem_cons.mp hq with rfl | hq
    · exact hd9
    · rw [List.mem_singleton.mp hq]; exact hs, rfl⟩
  refine .ifJ (fun l p => (∀ q ∈ [(Str.ofString "done", Vl.i d), (Str.ofString "self", Vl.r x)], q ∈ l) ∧ p = Ck w k sg dx S0 rest) (.eqS (.name hk9 rfl rfl) .str) (fun h => ?_) (fun h => ?_) ?_
  · clear keep
    cases hA with
    | void n _ ho =>
      refine .setT (Ev.toT (.op (rest := rest) 0 hP hr ho hv)) rfl rfl fun u P' ⟨hu, e⟩ => ⟨.i d, [(Str.ofString "done", .i d), (Str.ofString "self", .r x)], hu, fun p hp => ?_, ?_⟩
      · rcases List.mem_cons.mp hp with rfl | hp
        · exact .inl rfl
        · exact .inr ⟨nd p hp, by rw [List.mem_singleton.mp hp]; exact hs⟩
      · subst e
        exact .nil ⟨rfl, fun q hq => hq, rfl⟩
    | wr _ h' => cases h.symm.trans h'
    | rd _ h' => cases h.symm.trans h'
    | no h' => cases h.symm.trans h'
  · show Ex Γ L _ _ (fun (f : Flow) (l : Lcs) (p : Led → Prop) => f = .next ∧ (∀ q ∈ [(Str.ofString "done", Vl.i d), (Str.ofString "self", Vl.r x)], q ∈ l) ∧ p = Ck w k sg dx S0 rest)
    rw [hJ]
    clear hJ
    cases hA with
    | void _ h' => cases h.symm.trans h'
    | wr r _ h2 ho => exact .ifT (.eqS (.name hk9 rfl rfl) .str) h2 (.write hs hx (.op (rest := rest) 0 hP hr ho hv) hok (hroom.le (by decide) (by decide)) (.nilT (.nil (keep rfl))))
    | rd r _ h2 h3 ho => exact .ifF (.eqS (.name hk9 rfl rfl) .str) h2 (.ifT (.row (.or (.eqS (.name hk9 rfl rfl) .str) fun _ => .or (.eqS (.name hk9 rfl rfl) .str) fun _ => .or0)) h3 (.read hs hx (.op (rest := rest) 0 hP hr ho hv) (hroom.le (by decide) (by decide)) (.nilT (.nilT (.nil (keep rfl))))))
    | no _ h2 h3 => exact .ifF (.eqS (.name hk9 rfl rfl) .str) h2 (.ifF (.row (.or (.eqS (.name hk9 rfl rfl) .str) fun _ => .or (.eqS (.name hk9 rfl rfl) .str) fun _ => .or0)) h3 (.nilT (.nilT (.nil (keep rfl)))))
  rintro l p ⟨hl, rfl⟩
  refine .weak hl (fun n hn => ⟨n, hn, fun _ h => h⟩) ?_
  refine .ifJ (fun l p => ∃ S0' d', (∀ q ∈ [(Str.ofString "done", Vl.i d'), (Str.ofString "self", Vl.r x)], q ∈ l) ∧ p = Ck w k sg dx S0' rest ∧ S0'.lower d' = S0.take d) (.row (.or (.lt (.name (.head _) rfl rfl) .int) fun _ => .or (.gt (.name (.head _) rfl rfl) (.ck (.tail _ (.head _)) hx .due rfl rfl)) fun _ => .or0)) (fun h => ?_) (fun h => ?_) ?_
  · refine .say (.tail _ (.head _)) hx (.text rfl) (hroom.le (by decide) (by decide)) (.setT (Ev.toT (.ck (.tail _ (.head _)) hx .due rfl rfl)) rfl rfl fun u P' ⟨hu, e⟩ => ⟨.i S0.complain.due, [(Str.ofString "done", .i S0.complain.due), (Str.ofString "self", .r x)], hu, fun p hp => ?_, ?_⟩)
    · rcases List.mem_cons.mp hp with rfl | hp
      · exact .inl rfl
      · exact .inr ⟨nm_ok (lc := [(Str.ofString "self", Vl.r x)]) (by kernel_rfl!) _ hp, .tail _ hp⟩
    · subst e
      refine .nil ⟨rfl, S0.complain, S0.complain.due, fun q hq => hq, rfl, ?_⟩
      unfold CS.take
      rw [if_pos (by simpa using h)]; rfl
  · refine .nil ⟨rfl, S0, d, fun q hq => hq, rfl, ?_⟩
    unfold CS.take
    rw [if_neg (by simpa using h)]
  rintro l p ⟨S0', d', hl, rfl, e⟩
  refine .weak hl (fun n hn => ⟨n, hn, fun _ h => h⟩) ?_
  rw [← e]
  refine .ckSub (.tail _ (.head _)) hx (.name (.head _) rfl rfl) rfl rfl (.ifC (.eqI (.ck (.tail _ (.head _)) hx .due rfl rfl) .int) (fun h => ?_) (fun h => ?_))
  · refine .ckSet (.tail _ (.head _)) hx .int (.building 0) rfl rfl rfl (.nilT (.nil fun n hn => ⟨rfl, ?_⟩))
    unfold CS.lower
    rw [if_pos (eq_of_beq h)]; exact hn
  · refine .nilT (.nil fun n hn => ⟨rfl, ?_⟩)
    unfold CS.lower
    rw [if_neg (fun e : S0'.due - d' = 0 => by simp only [e] at h; exact absurd h (by decide))]; exact hn
end Mine
end

section
open PySem PySem.W PySem.Spec PySem.Calls PyProof.Rows
set_option Elab.async false
set_option maxRecDepth 100000
set_option maxHeartbeats 4000000
namespace Mine
theorem fillq6 : True ∨ (PySem.Challenge.rw_sa0151_01 = PySem.Challenge.rw_sa0151_01 ∧ hd.heap_1 = hd.heap_1) := by
  k_fill
  exact .inl trivial
section
variable {w : World} {F : Fn} {Γ : Cx w F} {lc : Lcs} {R : RX} {k : Nat → Tok} {sg dx x : Addr} {S : CS} {rest : Led} {P : Led → Prop} {row : Row} {av : Addr}
/-- self.open_structure(count, family) -/
theorem Ex.open {self : Str} {sp ap pos pos' vp : Pos} {kn : Nat} {fam : Str} {e : PX} {st : List Stmt} (hs : (self, Vl.r x) ∈ lc) (hx : (x, instObj 358 dx) ∈ rest) (he : Ev Γ lc (Ck w k sg dx S rest) e (Vl.i 2).is) (hroom : Γ.room 8 400) (hr : Ex Γ lc (Ck w k sg dx (S.opens fam) rest) st R)
    (hk : autoParam (Γ.env.kindOf self = some .local) rfl9) (hd : autoParam ((self == "__debug__") = false) rfl9) (hst : autoParam (starEach [e, .Constant (.str fam) kn vp] Γ.env = (false, eval e Γ.env) :: starEach [.Constant (.str fam) kn vp] Γ.env) rfl9)
    (hpl : autoParam (methIs self sp ap pos (Str.ofString "open_structure") [e, .Constant (.str fam) kn vp] Γ.env) some9) (hi : autoParam (interactive Γ.env = false) rfl9) (hw : autoParam (swapsWith (.Call (.Attribute (.Name self sp) (Str.ofString "open_structure") ap) [e, .Constant (.str fam) kn vp] [] pos) none pos'.line Γ.env = pure false) rfl9) :
    Ex Γ lc (Ck w k sg dx S rest) (.Expr (.Call (.Attribute (.Name self sp) (Str.ofString "open_structure") ap) [e, .Constant (.str fam) kn vp] [] pos) pos' :: st) R :=
  .ckCall (m_open w) hs hx hk hd (fun _ _ _ _ _ _ _ _ _ _ => rfl) (.two he .str hst rfl) hst rfl hpl hi hw (fun vs hv n hn => by
    obtain ⟨v, v', rfl, ⟨t, rfl⟩, ⟨t', rfl⟩⟩ := hv
    exact open_q hx rfl n hn) hroom hr
/-- self.arguments(ins[1]) -/
theorem Ex.args {self : Str} {sp ap pos pos' : Pos} {f : Int} {e : PX} {st : List Stmt} (hs : (self, Vl.r x) ∈ lc) (hx : (x, instObj 358 dx) ∈ rest) (hsy : SymAt w sg rest) (hf : f = 21 ∨ f = 32) (he : Ev Γ lc (Ck w k sg dx S rest) e (fun u => OpAt rest u (.int f))) (hroom : Γ.room 12 600) (hr : Ex Γ lc (Ck w k sg dx (S.args f) rest) st R)
    (hk : autoParam (Γ.env.kindOf self = some .local) rfl9) (hd : autoParam ((self == "__debug__") = false) rfl9) (hst : autoParam (starEach [e] Γ.env = (false, eval e Γ.env) :: starEach [] Γ.env) rfl9) (hpl : autoParam (methIs self sp ap pos (Str.ofString "arguments") [e] Γ.env) some9) (hi : autoParam (interactive Γ.env = false) rfl9)
    (hw : autoParam (swapsWith (.Call (.Attribute (.Name self sp) (Str.ofString "arguments") ap) [e] [] pos) none pos'.line Γ.env = pure false) rfl9) : Ex Γ lc (Ck w k sg dx S rest) (.Expr (.Call (.Attribute (.Name self sp) (Str.ofString "arguments") ap) [e] [] pos) pos' :: st) R :=
  .meth1 (m_arguments w) hs hx he (fun v hv n hn => by obtain ⟨t, rfl⟩ := hv; exact args_q hx hsy hf n hn) hroom hr (by intros; rfl) hk hd hst hpl hi hw
/-- self.arity_of(ins[1]) -/
theorem Ev.arity {self : Str} {sp ap pos : Pos} {f : Int} {e : PX} (hs : (self, Vl.r x) ∈ lc) (hx : (x, instObj 358 dx) ∈ rest) (hsy : SymAt w sg rest) (hf : FOk f) (he : Ev Γ lc (Ck w k sg dx S rest) e (fun u => OpAt rest u (.int f))) (hroom : Γ.room 8 400)
    (hk : autoParam (Γ.env.kindOf self = some .local) rfl9) (hd : autoParam ((self == "__debug__") = false) rfl9) (hst : autoParam (starEach [e] Γ.env = (false, eval e Γ.env) :: starEach [] Γ.env) rfl9) (hpl : autoParam (methIs self sp ap pos (Str.ofString "arity_of") [e] Γ.env) some9) : Ev Γ lc (Ck w k sg dx S rest) (.Call (.Attribute (.Name self sp) (Str.ofString "arity_of") ap) [e] [] pos) (Vl.i (arF f)).is :=
  .ofT (.callM (m_arity_of w) (.name hs hk hd) (ckI hx (by intros; rfl)) (.cons he .nil hst) hst rfl hpl (fun vs hv n hn => by
      obtain ⟨v, r, rfl, ⟨t, rfl⟩, rfl⟩ := hv
      exact arity_q hx hsy hf n hn) hroom) fun v P' e n hn => by subst e; exact ⟨hn.1, n, hn.2, fun _ h => h⟩
end
noncomputable def Row.isGet : Row → Bool
  | .getList _ | .getStructure _ | .getVariable .. | .getValue .. | .getConstant _ => true | _ => false
noncomputable def Row.isPut : Row → Bool
  | .putValue .. | .putUnsafe _ | .putVariable .. | .putConstant _ | .putList _ | .putStructure _ | .putVoid _ => true | _ => false
noncomputable def Row.here : Row → Int
  | .getList h | .getStructure h | .getVariable _ h | .getValue _ h | .getConstant h | .putValue _ h | .putUnsafe h | .putVariable _ h | .putConstant h | .putList h | .putStructure h | .putVoid h => h | _ => 0
/-- what a get row does behind its first look -/
inductive GetA (S : CS) (row : Row) : CS → Prop
  | wr (r : Reg) : (row.name == Str.ofString "get_variable") = true → row.ops[0]? = some (.reg r) → GetA S row (S.write r)
  | rd (r : Reg) : (row.name == Str.ofString "get_variable") = false → (row.name == Str.ofString "get_value") = true → row.ops[0]? = some (.reg r) → GetA S row (S.read r)
  | l : (row.name == Str.ofString "get_variable") = false → (row.name == Str.ofString "get_value") = false → (row.name == Str.ofString "get_list") = true → GetA S row (S.opens (Str.ofString "unify_"))
  | s : (row.name == Str.ofString "get_variable") = false → (row.name == Str.ofString "get_value") = false → (row.name == Str.ofString "get_list") = false → (row.name == Str.ofString "get_structure") = true → row.ops[0]? = some (.int 0) → GetA S row (S.opens (Str.ofString "unify_"))
  | no : (row.name == Str.ofString "get_variable") = false → (row.name == Str.ofString "get_value") = false → (row.name == Str.ofString "get_list") = false → (row.name == Str.ofString "get_structure") = false → GetA S row S
theorem get_way (S : CS) (row : Row) (hg : row.isGet = true) : (∃ j, row.ops.length = j + 1 ∧ row.ops[j]? = some (.reg (X row.here)) ∧ Nat.ble j 5 = true) ∧ GetA (S.read (X row.here)) row (S.step0 row) := by
  cases row <;> first
    | (cases hg; done)
    | exact ⟨⟨1, rfl, rfl, rfl⟩, .wr _ (by kernel_rfl!) rfl⟩
    | exact ⟨⟨1, rfl, rfl, rfl⟩, .rd _ (by kernel_rfl!) (by kernel_rfl!) rfl⟩
    | exact ⟨⟨0, rfl, rfl, rfl⟩, .l (by kernel_rfl!) (by kernel_rfl!) (by kernel_rfl!)⟩
    | exact ⟨⟨1, rfl, rfl, rfl⟩, .s (by kernel_rfl!) (by kernel_rfl!) (by kernel_rfl!) (by kernel_rfl!) rfl⟩
    | exact ⟨⟨1, rfl, rfl, rfl⟩, .no (by kernel_rfl!) (by kernel_rfl!) (by kernel_rfl!) (by kernel_rfl!)⟩
theorem get_q {w : World} {k : Nat → Tok} {sg dx x : Addr} {S : CS} {rest : Led} {row : Row} {av : Addr} (hx : (x, instObj 358 dx) ∈ rest) (hs : SymAt w sg rest) (hr : RowAt rest (.ref av) row) (hg : row.isGet = true) (hroomS : S.room) :
    ∀ n, Ck w k sg dx S rest n → Spec w 320 14 700 [.ref x, .ref av] n (fun v n' => v = .none ∧ Ck w k sg dx (S.step0 row) rest n') := by
  obtain ⟨⟨j, hj1, hj2, hj3⟩, hA⟩ := get_way S row hg
  generalize S.step0 row = T9 at hA ⊢
  refine' Spec.body (lc := [(Str.ofString "self", .r x), (Str.ofString "ins", .r av)]) ?k6 ?k7 ?k9 ?kB ?c2 ?c3 ?c4 ?c5 ?hlc ?hd1 ?hu1 ?H
  case k6 => k_is
  case k7 => k_is
  case k9 => exact rfl
  case kB => exact rfl
  case c2 => exact rfl
  case c3 => exact rfl
  case c4 => exact rfl
  case c5 => decide
  case hlc => exact ⟨⟨_, rfl, rfl⟩, ⟨_, rfl, rfl⟩, trivial⟩
  case hd1 => exact rfl
  case hu1 => exact rfl
  intro Γ hroom
  have hP : ∀ {S : CS}, ∀ n, Ck w k sg dx S rest n → ∀ p ∈ rest, p ∈ n := fun n h => ck_rest h
  refine .set (vl := .s row.name) (.row0 hP hr (.tail _ (.head _))) (nm_ok (by kernel_rfl!)) rfl rfl ?_
  generalize hL : [(Str.ofString "name", Vl.s row.name), (Str.ofString "self", Vl.r x), (Str.ofString "ins", Vl.r av)] = L
  have hv : (Str.ofString "ins", Vl.r av) ∈ L := hL ▸ .tail _ (.tail _ (.head _))
  have hse : (Str.ofString "self", Vl.r x) ∈ L := hL ▸ .tail _ (.head _)
  have nm : (Str.ofString "name", Vl.s row.name) ∈ L := hL ▸ .head _
  have nc : ∀ p ∈ L, p.1 ≠ Str.ofString "count" := hL ▸ nm_ok (by kernel_rfl!)
  clear hL
  refine .read (r := X row.here) hse hx (.last (rest := rest) hP hr j hj1 hj2 hv hj3) (hroom.le (by decide) (by decide)) ?_
  cases hA with
  | wr r h1 ho => exact .ifT (.eqS (.name nm rfl rfl) .str) h1 (.write (r := r) hse hx (.op (rest := rest) 0 hP hr ho hv) (hroomS.read _) (hroom.le (by decide) (by decide)) (.nilT (.nil fun n hn => ⟨rfl, hn⟩)))
  | rd r h1 h2 ho => exact .ifF (.eqS (.name nm rfl rfl) .str) h1 (.ifT (.eqS (.name nm rfl rfl) .str) h2 (.read (r := r) hse hx (.op (rest := rest) 0 hP hr ho hv) (hroom.le (by decide) (by decide)) (.nilT (.nilT (.nil fun n hn => ⟨rfl, hn⟩)))))
  | l h1 h2 h3 => exact .ifF (.eqS (.name nm rfl rfl) .str) h1 (.ifF (.eqS (.name nm rfl rfl) .str) h2 (.ifT (.eqS (.name nm rfl rfl) .str) h3 (.open hse hx .int (hroom.le (by decide) (by decide)) (.nilT (.nilT (.nilT (.nil fun n hn => ⟨rfl, hn⟩)))))))
  | s h1 h2 h3 h4 ho => exact .ifF (.eqS (.name nm rfl rfl) .str) h1 (.ifF (.eqS (.name nm rfl rfl) .str) h2 (.ifF (.eqS (.name nm rfl rfl) .str) h3 (.ifT (.eqS (.name nm rfl rfl) .str) h4 (.set (vl := .i 2) (.arity (f := 0) hse hx hs (.inl rfl) (.op (rest := rest) 0 hP hr ho hv) (hroom.le (by decide) (by decide))) nc rfl rfl (.ifT (.ge (.name (.head _) rfl rfl) .int) rfl (.open (.tail _ hse) hx (.name (.head _) rfl rfl) (hroom.le (by decide) (by decide)) (.nilT (.nilT (.nilT (.nilT (.nilT (.nil fun n hn => ⟨rfl, hn⟩))))))))))))
  | no h1 h2 h3 h4 => exact .ifF (.eqS (.name nm rfl rfl) .str) h1 (.ifF (.eqS (.name nm rfl rfl) .str) h2 (.ifF (.eqS (.name nm rfl rfl) .str) h3 (.ifF (.eqS (.name nm rfl rfl) .str) h4 (.nilT (.nilT (.nilT (.nilT (.nil fun n hn => ⟨rfl, hn⟩))))))))
end Mine
end

section
open PySem PySem.W PySem.Spec PySem.Calls PyProof.Rows
set_option Elab.async false
set_option maxRecDepth 100000
set_option maxHeartbeats 4000000
namespace Mine
theorem fillq7 : True ∨ (PySem.Challenge.rw_sa0151_01 = PySem.Challenge.rw_sa0151_01 ∧ hd.heap_1 = hd.heap_1) := by
  k_fill
  exact .inl trivial
section
variable {w : World} {F : Fn} {Γ : Cx w F} {lc : Lcs} {R : RX} {k : Nat → Tok} {sg dx x : Addr} {S : CS} {rest : Led} {P : Led → Prop} {row : Row} {av : Addr}
/-- ins[i][1] of an operand that is a register -/
theorem Ev.opReg1 {e : PX} {r : Reg} {cp pos : Pos} {kn : Nat} (hP : ∀ n, P n → ∀ p ∈ rest, p ∈ n) (he : Ev Γ lc P e (fun u => OpAt rest u (.reg r))) : Ev Γ lc P (.Subscript e (.Constant (.int 1) kn cp) pos) (Vl.i r.n).is := by
  intro s Q E S q
  refine Subscript_ (he s _ E S fun o h1 t1 x1 S1 => Ev.int _ _ E S1 fun o2 h2 t2 x2 S2 => ?_)
  obtain ⟨a, rfl, hr⟩ := regOp x1
  obtain ⟨b, u1, u2, e, hm, _⟩ := hr
  injection e with e; subst e
  obtain ⟨t, rfl⟩ := x2
  obtain ⟨⟨m, Fm, hml⟩, news, N, hPn⟩ := S2
  exact item_tupleT (News.isTup N (hP news hPn _ hm)) (by decide) (by decide) (seqN (Nat.le_refl 2)) rfl (q _ h2 t2 ⟨_, rfl⟩ ⟨⟨m, Fm, hml⟩, news, N, hPn⟩)
end
/-- what a put row reads or writes first -/
inductive PutA (S : CS) (row : Row) : CS → Prop
  | rd (r : Reg) : (row.name == Str.ofString "put_value" || (row.name == Str.ofString "put_unsafe_value" || false)) = true → row.ops[0]? = some (.reg r) → PutA S row (S.read r)
  | wr (r : Reg) : (row.name == Str.ofString "put_value" || (row.name == Str.ofString "put_unsafe_value" || false)) = false → (row.name == Str.ofString "put_variable") = true → row.ops[0]? = some (.reg r) → PutA S row (S.write r)
  | no : (row.name == Str.ofString "put_value" || (row.name == Str.ofString "put_unsafe_value" || false)) = false → (row.name == Str.ofString "put_variable") = false → PutA S row S
/-- what a put row opens at last -/
inductive PutB (S : CS) (row : Row) : CS → Prop
  | l : (row.name == Str.ofString "put_list") = true → row.ops[0]? = some (.reg (X row.here)) → PutB S row { S.opens (Str.ofString "set_") with bld := row.here }
  | s : (row.name == Str.ofString "put_list") = false → (row.name == Str.ofString "put_structure") = true → row.ops[0]? = some (.int 0) → row.ops[1]? = some (.reg (X row.here)) → PutB S row { S.opens (Str.ofString "set_") with bld := row.here }
  | no : (row.name == Str.ofString "put_list") = false → (row.name == Str.ofString "put_structure") = false → PutB S row S
theorem put_way (S : CS) (row : Row) (hg : row.isPut = true) (hroom : S.room) : (∃ j, row.ops.length = j + 1 ∧ row.ops[j]? = some (.reg (X row.here)) ∧ Nat.ble j 5 = true) ∧ ∃ S1 : CS, S1.ok ∧ PutA S row S1 ∧ PutB (S1.write (X row.here)) row (S.step0 row) := by
  cases row <;> first
    | (cases hg; done)
    | exact ⟨⟨1, rfl, rfl, rfl⟩, S.read _, hroom.read _, .rd _ (by kernel_rfl!) rfl, .no (by kernel_rfl!) (by kernel_rfl!)⟩
    | exact ⟨⟨1, rfl, rfl, rfl⟩, S.write _, hroom.write _, .wr _ (by kernel_rfl!) (by kernel_rfl!) rfl, .no (by kernel_rfl!) (by kernel_rfl!)⟩
    | exact ⟨⟨1, rfl, rfl, rfl⟩, S, hroom.ok, .no (by kernel_rfl!) (by kernel_rfl!), .no (by kernel_rfl!) (by kernel_rfl!)⟩
    | exact ⟨⟨0, rfl, rfl, rfl⟩, S, hroom.ok, .no (by kernel_rfl!) (by kernel_rfl!), .no (by kernel_rfl!) (by kernel_rfl!)⟩
    | exact ⟨⟨0, rfl, rfl, rfl⟩, S, hroom.ok, .no (by kernel_rfl!) (by kernel_rfl!), .l (by kernel_rfl!) rfl⟩
    | exact ⟨⟨1, rfl, rfl, rfl⟩, S, hroom.ok, .no (by kernel_rfl!) (by kernel_rfl!), .s (by kernel_rfl!) (by kernel_rfl!) rfl rfl⟩
theorem put_q {w : World} {k : Nat → Tok} {sg dx x : Addr} {S : CS} {rest : Led} {row : Row} {av : Addr} (hx : (x, instObj 358 dx) ∈ rest) (hs : SymAt w sg rest) (hr : RowAt rest (.ref av) row) (hg : row.isPut = true) (hroomS : S.room) :
    ∀ n, Ck w k sg dx S rest n → Spec w 327 14 700 [.ref x, .ref av] n (fun v n' => v = .none ∧ Ck w k sg dx (S.step0 row) rest n') := by
  obtain ⟨⟨j, hj1, hj2, hj3⟩, S1, hS1, hA, hB⟩ := put_way S row hg hroomS
  generalize S.step0 row = T9 at hB ⊢
  refine' Spec.body (lc := [(Str.ofString "self", .r x), (Str.ofString "ins", .r av)]) ?k6 ?k7 ?k9 ?kB ?c2 ?c3 ?c4 ?c5 ?hlc ?hd1 ?hu1 ?H
  case k6 => k_is
  case k7 => k_is
  case k9 => exact rfl
  case kB => exact rfl
  case c2 => exact rfl
  case c3 => exact rfl
  case c4 => exact rfl
  case c5 => decide
  case hlc => exact ⟨⟨_, rfl, rfl⟩, ⟨_, rfl, rfl⟩, trivial⟩
  case hd1 => exact rfl
  case hu1 => exact rfl
  intro Γ hroom
  have hP : ∀ {S : CS}, ∀ n, Ck w k sg dx S rest n → ∀ p ∈ rest, p ∈ n := fun n h => ck_rest h
  refine .set (vl := .s row.name) (.row0 hP hr (.tail _ (.head _))) (nm_ok (by kernel_rfl!)) rfl rfl ?_
  generalize hL : [(Str.ofString "name", Vl.s row.name), (Str.ofString "self", Vl.r x), (Str.ofString "ins", Vl.r av)] = L
  have hv : (Str.ofString "ins", Vl.r av) ∈ L := hL ▸ .tail _ (.tail _ (.head _))
  have hse : (Str.ofString "self", Vl.r x) ∈ L := hL ▸ .tail _ (.head _)
  have nm : (Str.ofString "name", Vl.s row.name) ∈ L := hL ▸ .head _
  have nc : ∀ p ∈ L, p.1 ≠ Str.ofString "count" := hL ▸ nm_ok (by kernel_rfl!)
  clear hL
  refine .ifJ (fun l p => l = L ∧ p = Ck w k sg dx S1 rest) (.row (.or (.eqS (.name nm rfl rfl) .str) fun _ => .or (.eqS (.name nm rfl rfl) .str) fun _ => .or0)) (fun h => ?_) (fun h => ?_) ?_
  · clear hB
    cases hA with
    | rd r _ ho => exact .read hse hx (.op (rest := rest) 0 hP hr ho hv) (hroom.le (by decide) (by decide)) (.nil ⟨rfl, rfl, rfl⟩)
    | wr r h' => cases h.symm.trans h'
    | no h' => cases h.symm.trans h'
  · clear hB
    cases hA with
    | rd r h' => cases h.symm.trans h'
    | wr r _ h1 ho => exact .ifT (.eqS (.name nm rfl rfl) .str) h1 (.write hse hx (.op (rest := rest) 0 hP hr ho hv) hroomS.ok (hroom.le (by decide) (by decide)) (.nilT (.nil ⟨rfl, rfl, rfl⟩)))
    | no _ h1 => exact .ifF (.eqS (.name nm rfl rfl) .str) h1 (.nilT (.nil ⟨rfl, rfl, rfl⟩))
  clear hA
  rintro l p ⟨rfl, rfl⟩
  refine .write (r := X row.here) hse hx (.last (rest := rest) hP hr j hj1 hj2 hv hj3) hS1 (hroom.le (by decide) (by decide)) ?_
  cases hB with
  | l h1 ho => exact .ifT (.eqS (.name nm rfl rfl) .str) h1 (.open hse hx .int (hroom.le (by decide) (by decide)) (.ckSet hse hx (.opReg1 hP (.op (rest := rest) 0 hP hr ho hv)) (.building _) rfl rfl rfl (.nilT (.nil fun n hn => ⟨rfl, hn⟩))))
  | s h1 h2 ho ho1 => exact .ifF (.eqS (.name nm rfl rfl) .str) h1 (.ifT (.eqS (.name nm rfl rfl) .str) h2 (.set (vl := .i 2) (.arity (f := 0) hse hx hs (.inl rfl) (.op (rest := rest) 0 hP hr ho hv) (hroom.le (by decide) (by decide))) nc rfl rfl (.ifT (.ge (.name (.head _) rfl rfl) .int) rfl (.open (.tail _ hse) hx (.name (.head _) rfl rfl) (hroom.le (by decide) (by decide)) (.nilT (.ckSet (.tail _ hse) hx (.opReg1 hP (.op (rest := rest) 1 hP hr ho1 (.tail _ hv))) (.building _) rfl rfl rfl (.nilT (.nilT (.nil fun n hn => ⟨rfl, hn⟩)))))))))
  | no h1 h2 => exact .ifF (.eqS (.name nm rfl rfl) .str) h1 (.ifF (.eqS (.name nm rfl rfl) .str) h2 (.nilT (.nilT (.nil fun n hn => ⟨rfl, hn⟩))))
noncomputable def Row.isLeave : Row → Bool
  | .execute _ | .proceed => true | _ => false
theorem leave_way {row : Row} (h : row.isLeave = true) : (∃ f, row = .execute f) ∨ row = .proceed := by
  cases row <;> first | exact .inl ⟨_, rfl⟩ | exact .inr rfl | cases h
theorem leave_q {w : World} {k : Nat → Tok} {sg dx x : Addr} {S : CS} {rest : Led} {row : Row} {av : Addr} (hx : (x, instObj 358 dx) ∈ rest) (hs : SymAt w sg rest) (hr : RowAt rest (.ref av) row) (hg : row.isLeave = true) (hwf : row.wf) :
    ∀ n, Ck w k sg dx S rest n → Spec w 341 16 700 [.ref x, .ref av] n (fun v n' => v = .none ∧ Ck w k sg dx (S.step0 row) rest n') := by
  refine' Spec.body (lc := [(Str.ofString "self", .r x), (Str.ofString "ins", .r av)]) ?k6 ?k7 ?k9 ?kB ?c2 ?c3 ?c4 ?c5 ?hlc ?hd1 ?hu1 ?H
  case k6 => k_is
  case k7 => k_is
  case k9 => exact rfl
  case kB => exact rfl
  case c2 => exact rfl
  case c3 => exact rfl
  case c4 => exact rfl
  case c5 => decide
  case hlc => exact ⟨⟨_, rfl, rfl⟩, ⟨_, rfl, rfl⟩, trivial⟩
  case hd1 => exact rfl
  case hu1 => exact rfl
  intro Γ hroom
  have hP : ∀ {S : CS}, ∀ n, Ck w k sg dx S rest n → ∀ p ∈ rest, p ∈ n := fun n h => ck_rest h
  refine .ifJ (fun l p => l = [(Str.ofString "self", Vl.r x), (Str.ofString "ins", Vl.r av)] ∧ p = Ck w k sg dx S.left rest) (.ge (.ck (.head _) hx .size rfl rfl) .int) (fun h => ?_) (fun h => ?_) ?_
  · refine .say (.head _) hx (.text rfl) (hroom.le (by decide) (by decide)) (.nil ⟨rfl, rfl, ?_⟩)
    unfold CS.left
    rw [if_pos (of_decide_eq_true h)]
  · refine .nil ⟨rfl, rfl, ?_⟩
    unfold CS.left
    rw [if_neg (of_decide_eq_false h)]
  rintro l p ⟨rfl, rfl⟩
  rcases leave_way hg with ⟨f, rfl⟩ | rfl
  · exact .ifT (.eqS (.row0 hP hr (.tail _ (.head _))) .str) (by kernel_rfl!) (.args (.head _) hx hs hwf (.op (rest := rest) 0 hP hr rfl (.tail _ (.head _))) (hroom.le (by decide) (by decide)) (.nilT (.ckSet (.head _) hx .bool (.ended true) rfl rfl rfl (.nil fun n hn => ⟨rfl, hn⟩))))
  · exact .ifF (.eqS (.row0 hP hr (.tail _ (.head _))) .str) (by kernel_rfl!) (.nilT (.ckSet (.head _) hx .bool (.ended true) rfl rfl rfl (.nil fun n hn => ⟨rfl, hn⟩)))
end Mine
end

section
open PySem PySem.W PySem.Spec PySem.Calls PyProof.Rows
set_option Elab.async false
set_option maxRecDepth 100000
set_option maxHeartbeats 4000000
namespace Mine
theorem fillq8 : True ∨ (PySem.Challenge.rw_sa0151_01 = PySem.Challenge.rw_sa0151_01 ∧ hd.heap_1 = hd.heap_1) := by
  k_fill
  exact .inl trivial
/-- what is left when the first i of ms are looked at -/
noncomputable def kept (ys ms : List Int) (c : Int) (i : Nat) : List Int := ys.filter fun j => decide (¬ (j ∈ ms.take i ∧ c < j))
theorem kept0 (ys ms : List Int) (c : Int) : kept ys ms c 0 = ys := by
  unfold kept
  exact List.filter_eq_self.mpr fun a _ => by simp
theorem kept_succ {ys ms : List Int} {c m : Int} {i : Nat} (h : ms[i]? = some m) : kept ys ms c (i + 1) = if c < m then (kept ys ms c i).filter (fun j => decide (j ≠ m)) else kept ys ms c i := by
  obtain ⟨hl, e⟩ := List.getElem?_eq_some_iff.mp h
  have ht : ms.take (i + 1) = ms.take i ++ [m] := by rw [← e]; exact (List.take_append_getElem hl).symm
  unfold kept
  rw [ht]
  split
  · rename_i hc
    rw [List.filter_filter]
    apply List.filter_congr
    intro a _
    by_cases e : a = m
    · subst e; simp [hc]
    · simp [e]
  · rename_i hc
    apply List.filter_congr
    intro a _
    by_cases e : a = m
    · subst e; simp [hc]
    · simp [e]
theorem kept_all {ys ms : List Int} {c : Int} (h : ms.Perm ys) : kept ys ms c ms.length = ys.filter fun j => decide (j ≤ c) := by
  unfold kept
  rw [List.take_length]
  apply List.filter_congr
  intro a ha
  have : a ∈ ms := h.mem_iff.mpr ha
  by_cases hc : c < a
  · have : ¬ a ≤ c := by omega
    simp [*]
  · have h2 : a ≤ c := by omega
    simp [hc, h2]
theorem kept_mem {ys ms : List Int} {c m : Int} {i : Nat} (hp : ms.Perm ys) (hn : ys.Nodup) (h : ms[i]? = some m) : m ∈ kept ys ms c i := by
  obtain ⟨hl, e⟩ := List.getElem?_eq_some_iff.mp h
  have hm : m ∈ ms := e ▸ List.getElem_mem hl
  unfold kept
  refine List.mem_filter.mpr ⟨hp.mem_iff.mp hm, decide_eq_true fun ⟨h1, _⟩ => ?_⟩
  obtain ⟨j, hj, e2⟩ := List.mem_take_iff_getElem.mp h1
  have hnd := hp.nodup_iff.mpr hn
  exact (List.pairwise_iff_getElem.mp hnd) j i (by omega) hl (by omega) (by rw [e2, e])
theorem kept_len (ys ms : List Int) (c : Int) (i : Nat) : (kept ys ms c i).length ≤ ys.length := List.length_filter_le ..
theorem ints_at {vs : List Value} {ms : List Int} (h : IntsAre vs ms) : ∀ {i : Nat} {v : Value}, vs[i]? = some v → ∃ m t, ms[i]? = some m ∧ v = .int m t := by
  induction h with
  | nil => intro i v h; simp at h
  | cons _ _ _ ih =>
    intro i v h
    cases i with
    | zero => cases h; exact ⟨_, _, rfl, rfl⟩
    | succ i => exact ih h
theorem ck_nodup {w : World} {k : Nat → Tok} {sg dx : Addr} {S : CS} {rest n : Led} (h : Ck w k sg dx S rest n) : S.ys.Nodup := by
  obtain ⟨D, rfl⟩ := h
  obtain ⟨es, ep, _, _, _, _, hn⟩ := D.hoy
  have : (kvL S.ys).map (fun x => x.1) = S.ys := by unfold kvL; rw [List.map_map]; exact List.map_id _
  rw [this] at hn; exact hn
theorem call_q {w : World} {k : Nat → Tok} {sg dx x : Addr} {S : CS} {rest : Led} {f c : Int} {av : Addr} (hx : (x, instObj 358 dx) ∈ rest) (hs : SymAt w sg rest) (hr : RowAt rest (.ref av) (.call f c)) (hf : f = 21 ∨ f = 32) (hroomS : S.room) :
    ∀ n, Ck w k sg dx S rest n → Spec w 334 16 700 [.ref x, .ref av] n (fun v n' => v = .none ∧ Ck w k sg dx (S.step0 (.call f c)) rest n') := by
  refine' Spec.body (lc := [(Str.ofString "self", .r x), (Str.ofString "ins", .r av)]) ?k6 ?k7 ?k9 ?kB ?c2 ?c3 ?c4 ?c5 ?hlc ?hd1 ?hu1 ?H
  case k6 => k_is
  case k7 => k_is
  case k9 => exact rfl
  case kB => exact rfl
  case c2 => exact rfl
  case c3 => exact rfl
  case c4 => exact rfl
  case c5 => decide
  case hlc => exact ⟨⟨_, rfl, rfl⟩, ⟨_, rfl, rfl⟩, trivial⟩
  case hd1 => exact rfl
  case hu1 => exact rfl
  intro Γ hroom
  have hP : ∀ {S : CS}, ∀ n, Ck w k sg dx S rest n → ∀ p ∈ rest, p ∈ n := fun n h => ck_rest h
  refine .args (.head _) hx hs hf (.op (rest := rest) 0 hP hr rfl (.tail _ (.head _))) (hroom.le (by decide) (by decide)) ?_
  have hys : (S.args f).ys = S.ys := args_ys S f
  generalize hT : S.args f = T at *
  let U : CS := if T.size < 0 then T.complain else if T.size < c then T.complain else T
  have hUy : U.ys = S.ys := by
    show (if T.size < 0 then T.complain else if T.size < c then T.complain else T).ys = _
    rw [← hys]
    split
    · rfl
    · split <;> rfl
  have hc2 : ∀ {S : CS} {Q : Led → Prop} {rest' : Led} {l : Lcs} {xp pos cp : Pos} {kn : Nat}, (∀ n, Q n → ∀ p ∈ rest, p ∈ n) → (Str.ofString "ins", Vl.r av) ∈ l → Ev Γ l Q (.Subscript (.Name (Str.ofString "ins") xp) (.Constant (.int 2) kn cp) pos) (Vl.i c).is := fun hq hl =>
    (Ev.op (rest := rest) 1 hq hr rfl hl).mono fun _ h => h
  refine .ifJ (fun l p => l = [(Str.ofString "self", Vl.r x), (Str.ofString "ins", Vl.r av)] ∧ p = Ck w k sg dx U rest) (.lt (.ck (.head _) hx .size rfl rfl) .int) (fun h => ?_) (fun h => ?_) ?_
  · refine .say (.head _) hx (.text rfl) (hroom.le (by decide) (by decide)) (.nil ⟨rfl, rfl, ?_⟩)
    show _ = Ck w k sg dx (if T.size < 0 then T.complain else _) rest
    rw [if_pos (of_decide_eq_true h)]
  · refine .ifC (.gt (hc2 (S := T) (rest' := rest) hP (.tail _ (.head _))) (.ck (.head _) hx .size rfl rfl)) (fun h2 => ?_) (fun h2 => ?_)
    · refine .say (.head _) hx (.text rfl) (hroom.le (by decide) (by decide)) (.nilT (.nil ⟨rfl, rfl, ?_⟩))
      show _ = Ck w k sg dx (if T.size < 0 then T.complain else if T.size < c then T.complain else T) rest
      rw [if_neg (of_decide_eq_false h), if_pos (of_decide_eq_true h2)]
    · refine .nilT (.nil ⟨rfl, rfl, ?_⟩)
      show _ = Ck w k sg dx (if T.size < 0 then T.complain else if T.size < c then T.complain else T) rest
      rw [if_neg (of_decide_eq_false h), if_neg (of_decide_eq_false h2)]
  rintro l p ⟨rfl, rfl⟩
  have hU : S.step0 (.call f c) = { U with xs := [], ys := U.ys.filter (fun i => decide (i ≤ c)) } := by
    show (let T := S.args f; let U := if T.size < 0 then T.complain else if T.size < c then T.complain else T; { U with xs := [], ys := U.ys.filter (fun i => decide (i ≤ c)) } : CS) = _
    rw [hT]
  rw [hU]
  have hz : U.ys.length ≤ 60 := by rw [hUy]; have := hroomS.2; omega
  clear hU
  generalize U = U' at *
  refine .ckNew (y := false) (.head _) hx rfl rfl rfl (.fact (fun n h => ck_nodup h) fun hnd => .forListT (.ckSorted (y := true) (.head _) hx hz rfl rfl rfl rfl rfl) rfl rfl (fun _ => rfl) ?_)
  rintro v P' ⟨B, vs, ms, c9, rfl, hi, hp, rfl⟩
  replace hp : ms.Perm U'.ys := hp
  refine ⟨B, vs, c9, fun i l p => l = [(Str.ofString "self", Vl.r x), (Str.ofString "ins", Vl.r av)] ∧ p = Ck w k sg dx { U' with xs := [], ys := kept U'.ys ms c i } ((B, listOf vs.toArray c9) :: rest), rfl, ?_, ?_, ?_, ?_⟩
  · rintro i l p ⟨rfl, rfl⟩ n hn
    exact ck_rest hn _ (.head _)
  · exact ⟨rfl, by rw [kept0]; rfl⟩
  · rintro i v l p I it hv _ ⟨rfl, rfl⟩
    obtain ⟨m, t, hm, rfl⟩ := ints_at hi hv
    refine ⟨.i m, _, ⟨t, rfl⟩, .cons (by kernel_rfl!), .fact (fun n h => fresh_off h) fun hoff => .weak (fun _ h => h) (fun n h => ck_in h) ?_⟩
    have hx' : (x, instObj 358 dx) ∈ (I, it) :: (B, listOf vs.toArray c9) :: rest := .tail _ (.tail _ hx)
    have hP' : ∀ {S : CS}, ∀ n, Ck w k sg dx S ((I, it) :: (B, listOf vs.toArray c9) :: rest) n → ∀ p ∈ rest, p ∈ n := fun n h p hp => ck_rest h p (.tail _ (.tail _ hp))
    have hk := kept_succ (ys := U'.ys) (c := c) hm
    refine .ifC (.gt (.name (.head _) rfl rfl) (hc2 (S := T) (rest' := rest) hP' (.tail _ (.tail _ (.head _))))) (fun h => ?_) (fun h => ?_)
    · refine .ckDel (y := true) (fun P hq => .name (.head _) rfl rfl) (.tail _ (.head _)) hx' rfl rfl ?_ (kept_mem hp hnd hm) (.nilT (.nil ⟨_, _, ⟨rfl, rfl⟩, fun p hp => .tail _ hp, fun n hn => ?_⟩))
      · show (kept U'.ys ms c i).length ≤ 1000
        have := kept_len U'.ys ms c i
        omega
      · rw [hk, if_pos (of_decide_eq_true h)]
        exact ck_out hoff hn
    · refine .nilT (.nil ⟨_, _, ⟨rfl, rfl⟩, fun p hp => .tail _ hp, fun n hn => ?_⟩)
      rw [hk, if_neg (of_decide_eq_false h)]
      exact ck_out hoff hn
  · rintro l p ⟨rfl, rfl⟩
    refine .weak (fun _ h => h) (fun n h => ck_drop h) (.nil fun n hn => ⟨rfl, ?_⟩)
    have hl : vs.length = ms.length := by rw [hi.length]
    rw [hl, kept_all hp] at hn
    exact hn
noncomputable def Row.isControl : Row → Bool
  | .cutTo _ | .mark _ | .getLevel _ | .call .. | .builtin _ | .execute _ | .allocate | .neckCut | .deallocate | .proceed => true | _ => false
theorem control_q {w : World} {k : Nat → Tok} {sg dx x : Addr} {S : CS} {rest : Led} {row : Row} {av : Addr} (hx : (x, instObj 358 dx) ∈ rest) (hs : SymAt w sg rest) (hr : RowAt rest (.ref av) row) (hg : row.isControl = true) (hwf : row.wf) (hroomS : S.room) :
    ∀ n, Ck w k sg dx S rest n → Spec w 348 20 800 [.ref x, .ref av] n (fun v n' => v = .none ∧ Ck w k sg dx (S.step0 row) rest n') := by
  refine' Spec.body (lc := [(Str.ofString "self", .r x), (Str.ofString "ins", .r av)]) ?k6 ?k7 ?k9 ?kB ?c2 ?c3 ?c4 ?c5 ?hlc ?hd1 ?hu1 ?H
  case k6 => k_is
  case k7 => k_is
  case k9 => exact rfl
  case kB => exact rfl
  case c2 => exact rfl
  case c3 => exact rfl
  case c4 => exact rfl
  case c5 => decide
  case hlc => exact ⟨⟨_, rfl, rfl⟩, ⟨_, rfl, rfl⟩, trivial⟩
  case hd1 => exact rfl
  case hu1 => exact rfl
  intro Γ hroom
  have hP : ∀ {S : CS}, ∀ n, Ck w k sg dx S rest n → ∀ p ∈ rest, p ∈ n := fun n h => ck_rest h
  have hv : (Str.ofString "ins", Vl.r av) ∈ [(Str.ofString "name", Vl.s row.name), (Str.ofString "self", Vl.r x), (Str.ofString "ins", Vl.r av)] := .tail _ (.tail _ (.head _))
  have hse : (Str.ofString "self", Vl.r x) ∈ [(Str.ofString "name", Vl.s row.name), (Str.ofString "self", Vl.r x), (Str.ofString "ins", Vl.r av)] := .tail _ (.head _)
  refine .set (vl := .s row.name) (.row0 hP hr (.tail _ (.head _))) (nm_ok (by kernel_rfl!)) rfl rfl ?_
  have nm : (Str.ofString "name", Vl.s row.name) ∈ [(Str.ofString "name", Vl.s row.name), (Str.ofString "self", Vl.r x), (Str.ofString "ins", Vl.r av)] := .head _
  generalize [(Str.ofString "name", Vl.s row.name), (Str.ofString "self", Vl.r x), (Str.ofString "ins", Vl.r av)] = L at hv hse nm ⊢
  cases row <;> first | (cases hg; done) | skip
  case allocate =>
    refine .ifT (.eqS (.name nm rfl rfl) .str) (by kernel_rfl!) (.ifC (.ge (.ck hse hx .size rfl rfl) .int) (fun h => ?_) (fun h => ?_))
    · refine .say hse hx (.text rfl) (hroom.le (by decide) (by decide)) (.nilT (.ckSet hse hx (.op (rest := rest) 0 hP hr rfl hv) (.size 3) rfl rfl rfl (.nilT (.nil fun n hn => ⟨rfl, ?_⟩))))
      show Ck w k sg dx { S.left with size := 3 } rest n
      unfold CS.left; rw [if_pos (of_decide_eq_true h)]; exact hn
    · refine .nilT (.ckSet hse hx (.op (rest := rest) 0 hP hr rfl hv) (.size 3) rfl rfl rfl (.nilT (.nil fun n hn => ⟨rfl, ?_⟩)))
      show Ck w k sg dx { S.left with size := 3 } rest n
      unfold CS.left; rw [if_neg (of_decide_eq_false h)]; exact hn
  all_goals refine .ifF (.eqS (.name nm rfl rfl) .str) (by kernel_rfl!) ?_
  case deallocate =>
    have neg1 : ∀ {T : CS} {kn : Nat} {cp up : Pos}, Ev Γ L (Ck w k sg dx T rest) (.UnaryOp .USub (.Constant (.int 1) kn cp) up) (Vl.i (-1)).is := by
      intro T kn cp up s Q E S q
      exact UnaryOp_ (wpAny_Constant_int (neg_int (q _ s.heap _ ⟨_, rfl⟩ S)))
    refine .ifT (.eqS (.name nm rfl rfl) .str) (by kernel_rfl!) (.ifC (.lt (.ck hse hx .size rfl rfl) .int) (fun h => ?_) (fun h => ?_))
    · refine .say hse hx (.text rfl) (hroom.le (by decide) (by decide)) (.nilT (.ckSet hse hx neg1 (.size (-1)) rfl rfl rfl (.ckNew (y := true) hse hx rfl rfl rfl (.nilT (.nilT (.nil fun n hn => ⟨rfl, ?_⟩))))))
      show Ck w k sg dx { (if S.size < 0 then S.complain else S) with size := -1, ys := [] } rest n
      rw [if_pos (of_decide_eq_true h)]; exact hn
    · refine .nilT (.ckSet hse hx neg1 (.size (-1)) rfl rfl rfl (.ckNew (y := true) hse hx rfl rfl rfl (.nilT (.nilT (.nil fun n hn => ⟨rfl, ?_⟩)))))
      show Ck w k sg dx { (if S.size < 0 then S.complain else S) with size := -1, ys := [] } rest n
      rw [if_neg (of_decide_eq_false h)]; exact hn
  all_goals refine .ifF (.eqS (.name nm rfl rfl) .str) (by kernel_rfl!) ?_
  case call f c =>
    exact .ifT (.eqS (.name nm rfl rfl) .str) (by kernel_rfl!) (.meth1 (V := fun u => u = .ref av) (m_call w) hse hx (.name hv rfl rfl) (fun v hv n hn => by subst hv; exact call_q hx hs hr hwf hroomS n hn) (hroom.le (by decide) (by decide)) (.nilT (.nilT (.nilT (.nil fun n hn => ⟨rfl, hn⟩)))))
  all_goals refine .ifF (.eqS (.name nm rfl rfl) .str) (by kernel_rfl!) ?_
  case execute f =>
    exact .ifT (.row (.or (.eqS (.name nm rfl rfl) .str) fun _ => .or (.eqS (.name nm rfl rfl) .str) fun _ => .or0)) (by kernel_rfl!) (.meth1 (V := fun u => u = .ref av) (m_leave w) hse hx (.name hv rfl rfl) (fun v hv n hn => by subst hv; exact leave_q hx hs hr rfl hwf n hn) (hroom.le (by decide) (by decide)) (.nilT (.nilT (.nilT (.nilT (.nil fun n hn => ⟨rfl, hn⟩))))))
  case proceed =>
    exact .ifT (.row (.or (.eqS (.name nm rfl rfl) .str) fun _ => .or (.eqS (.name nm rfl rfl) .str) fun _ => .or0)) (by kernel_rfl!) (.meth1 (V := fun u => u = .ref av) (m_leave w) hse hx (.name hv rfl rfl) (fun v hv n hn => by subst hv; exact leave_q hx hs hr rfl hwf n hn) (hroom.le (by decide) (by decide)) (.nilT (.nilT (.nilT (.nilT (.nil fun n hn => ⟨rfl, hn⟩))))))
  all_goals refine .ifF (.row (.or (.eqS (.name nm rfl rfl) .str) fun _ => .or (.eqS (.name nm rfl rfl) .str) fun _ => .or0)) (by kernel_rfl!) ?_
  case builtin f => exact .ifT (.eqS (.name nm rfl rfl) .str) (by kernel_rfl!) (.args hse hx hs hwf (.op (rest := rest) 0 hP hr rfl hv) (hroom.le (by decide) (by decide)) (.nilT (.nilT (.nilT (.nilT (.nilT (.nil fun n hn => ⟨rfl, hn⟩)))))))
  all_goals refine .ifF (.eqS (.name nm rfl rfl) .str) (by kernel_rfl!) ?_
  case getLevel r => exact .ifT (.row (.or (.eqS (.name nm rfl rfl) .str) fun _ => .or (.eqS (.name nm rfl rfl) .str) fun _ => .or0)) (by kernel_rfl!) (.write (r := r) hse hx (.op (rest := rest) 0 hP hr rfl hv) hroomS.ok (hroom.le (by decide) (by decide)) (.nilT (.nilT (.nilT (.nilT (.nilT (.nilT (.nil fun n hn => ⟨rfl, hn⟩))))))))
  case mark r => exact .ifT (.row (.or (.eqS (.name nm rfl rfl) .str) fun _ => .or (.eqS (.name nm rfl rfl) .str) fun _ => .or0)) (by kernel_rfl!) (.write (r := r) hse hx (.op (rest := rest) 0 hP hr rfl hv) hroomS.ok (hroom.le (by decide) (by decide)) (.nilT (.nilT (.nilT (.nilT (.nilT (.nilT (.nil fun n hn => ⟨rfl, hn⟩))))))))
  all_goals refine .ifF (.row (.or (.eqS (.name nm rfl rfl) .str) fun _ => .or (.eqS (.name nm rfl rfl) .str) fun _ => .or0)) (by kernel_rfl!) ?_
  case cutTo r => exact .ifT (.eqS (.name nm rfl rfl) .str) (by kernel_rfl!) (.read (r := r) hse hx (.op (rest := rest) 0 hP hr rfl hv) (hroom.le (by decide) (by decide)) (.nilT (.nilT (.nilT (.nilT (.nilT (.nilT (.nilT (.nil fun n hn => ⟨rfl, hn⟩)))))))))
  case neckCut =>
    refine .ifF (.eqS (.name nm rfl rfl) .str) (by kernel_rfl!) (.ifF (.row (.or (.eqS (.name nm rfl rfl) .str) fun _ => .or (.eqS (.name nm rfl rfl) .str) fun _ => .or0)) (by kernel_rfl!) (.ifF (.neS (.name nm rfl rfl) .str) (by kernel_rfl!) ?_))
    exact .nilT (.nilT (.nilT (.nilT (.nilT (.nilT (.nilT (.nilT (.nilT (.nil fun n hn => ⟨rfl, hn⟩)))))))))
end Mine
end

section
open PySem PySem.W PySem.Spec PySem.Calls PyProof.Rows
set_option Elab.async false
set_option maxRecDepth 100000
set_option maxHeartbeats 4000000
namespace Mine
theorem fillq9 : True ∨ (PySem.Challenge.rw_sa0151_01 = PySem.Challenge.rw_sa0151_01 ∧ hd.heap_1 = hd.heap_1) := by
  k_fill
  exact .inl trivial
/-- where a row goes outside of a structure: 0 complained of, 1 control_step, 2 get_step, 3 put_step -/
theorem row_way (row : Row) :
    (∃ g, row.fam? = some g ∧ (Txt.startswith row.name (Str.ofString "unify_") || (Txt.startswith row.name (Str.ofString "set_") || false)) = true) ∨
    (row.fam? = none ∧ (Txt.startswith row.name (Str.ofString "unify_") || (Txt.startswith row.name (Str.ofString "set_") || false)) = false ∧
      ((row.isControl = true ∧ ((row.name == Str.ofString "get_level") = true ∨ ((row.name == Str.ofString "get_level") = false ∧ Txt.startswith row.name (Str.ofString "get_") = false ∧ Txt.startswith row.name (Str.ofString "put_") = false))) ∨
       (row.isGet = true ∧ (row.name == Str.ofString "get_level") = false ∧ Txt.startswith row.name (Str.ofString "get_") = true) ∨
       (row.isPut = true ∧ (row.name == Str.ofString "get_level") = false ∧ Txt.startswith row.name (Str.ofString "get_") = false ∧ Txt.startswith row.name (Str.ofString "put_") = true))) := by
  cases row with
  | famValue g r => exact .inl ⟨g, rfl, by cases g <;> kernel_rfl!⟩
  | famLocal g r => exact .inl ⟨g, rfl, by cases g <;> kernel_rfl!⟩
  | famVariable g r => exact .inl ⟨g, rfl, by cases g <;> kernel_rfl!⟩
  | famVoid g r => exact .inl ⟨g, rfl, by cases g <;> kernel_rfl!⟩
  | famConstant g => exact .inl ⟨g, rfl, by cases g <;> kernel_rfl!⟩
  | getLevel r => exact .inr ⟨rfl, by kernel_rfl!, .inl ⟨rfl, .inl (by kernel_rfl!)⟩⟩
  | getList | getStructure | getVariable | getValue | getConstant => exact .inr ⟨rfl, by kernel_rfl!, .inr (.inl ⟨rfl, by kernel_rfl!, by kernel_rfl!⟩)⟩
  | putValue | putUnsafe | putVariable | putConstant | putList | putStructure | putVoid => exact .inr ⟨rfl, by kernel_rfl!, .inr (.inr ⟨rfl, by kernel_rfl!, by kernel_rfl!, by kernel_rfl!⟩)⟩
  | _ => exact .inr ⟨rfl, by kernel_rfl!, .inl ⟨rfl, .inr ⟨by kernel_rfl!, by kernel_rfl!, by kernel_rfl!⟩⟩⟩
theorem step0_out (S : CS) (row : Row) (g : Bool) (h : row.fam? = some g) : S.step0 row = S.complain := by cases row <;> first | rfl | (cases h; done)
theorem step_q {w : World} {k : Nat → Tok} {sg dx x : Addr} {S : CS} {rest : Led} {row : Row} {av : Addr} (hx : (x, instObj 358 dx) ∈ rest) (hs : SymAt w sg rest) (hr : RowAt rest (.ref av) row) (hwf : row.wf) (hroomS : S.room) (hfam : S.famOk) :
    ∀ n, Ck w k sg dx S rest n → Spec w 355 30 1200 [.ref x, .ref av] n (fun v n' => v = .none ∧ Ck w k sg dx (S.step row) rest n') := by
  refine' Spec.body (lc := [(Str.ofString "self", .r x), (Str.ofString "ins", .r av)]) ?k6 ?k7 ?k9 ?kB ?c2 ?c3 ?c4 ?c5 ?hlc ?hd1 ?hu1 ?H
  case k6 => k_is
  case k7 => k_is
  case k9 => exact rfl
  case kB => exact rfl
  case c2 => exact rfl
  case c3 => exact rfl
  case c4 => exact rfl
  case c5 => decide
  case hlc => exact ⟨⟨_, rfl, rfl⟩, ⟨_, rfl, rfl⟩, trivial⟩
  case hd1 => exact rfl
  case hu1 => exact rfl
  intro Γ hroom
  have hP : ∀ {S : CS}, ∀ n, Ck w k sg dx S rest n → ∀ p ∈ rest, p ∈ n := fun n h => ck_rest h
  have hv : (Str.ofString "ins", Vl.r av) ∈ [(Str.ofString "name", Vl.s row.name), (Str.ofString "self", Vl.r x), (Str.ofString "ins", Vl.r av)] := .tail _ (.tail _ (.head _))
  have hse : (Str.ofString "self", Vl.r x) ∈ [(Str.ofString "name", Vl.s row.name), (Str.ofString "self", Vl.r x), (Str.ofString "ins", Vl.r av)] := .tail _ (.head _)
  refine .set (vl := .s row.name) (.row0 hP hr (.tail _ (.head _))) (nm_ok (by kernel_rfl!)) rfl rfl ?_
  have nm : (Str.ofString "name", Vl.s row.name) ∈ [(Str.ofString "name", Vl.s row.name), (Str.ofString "self", Vl.r x), (Str.ofString "ins", Vl.r av)] := .head _
  generalize [(Str.ofString "name", Vl.s row.name), (Str.ofString "self", Vl.r x), (Str.ofString "ins", Vl.r av)] = L at hv hse nm ⊢
  refine .ifC (.gt (.ck hse hx .due rfl rfl) .int) (fun h => ?_) (fun h => ?_)
  · have hdue : 0 < S.due := of_decide_eq_true h
    obtain ⟨g, hg⟩ := hfam hdue
    have e : S.step row = match row.fam? with | some g => if S.fam = Str.ofString (famPre g) then S.structA row else S.complain | none => S.complain := by unfold CS.step; rw [if_pos hdue]; first | done | (cases row.fam? <;> rfl)
    refine .ifC (.plain (.starts (.name nm rfl rfl) (.ck hse hx .family rfl rfl) rfl rfl ⟨_, rfl⟩) rfl) (fun h => ?_) (fun h => ?_)
    · rw [hg] at h
      cases hf : row.fam? with
      | none => rw [sw_none row g hf] at h; cases h
      | some g' =>
        by_cases eg : g' = g
        · subst eg
          refine .meth1 (V := fun u => u = .ref av) (m_struct w) hse hx (.name hv rfl rfl) (fun v hv n hn => by subst hv; exact struct_q hx hr hf hg hroomS.ok n hn) (hroom.le (by decide) (by decide)) (.nilT (.nilT (.nil fun n hn => ⟨rfl, ?_⟩)))
          rw [e, hf]
          show Ck w k sg dx (if S.fam = Str.ofString (famPre g') then S.structA row else S.complain) rest n
          rw [if_pos hg]; exact hn
        · rw [sw_diff row g' g hf eg] at h; cases h
    · refine .say hse hx (.text rfl) (hroom.le (by decide) (by decide)) (.nilT (.nilT (.nil fun n hn => ⟨rfl, ?_⟩)))
      rw [e]
      cases hf : row.fam? with
      | none => exact hn
      | some g' =>
        show Ck w k sg dx (if S.fam = Str.ofString (famPre g') then S.structA row else S.complain) rest n
        rw [if_neg]
        · exact hn
        · intro e2
          rw [e2, sw_same row g' hf] at h; cases h
  have e : S.step row = S.step0 row := by unfold CS.step; rw [if_neg (of_decide_eq_false h)]
  rw [e]
  clear e
  rcases row_way row with ⟨g, hg, h1⟩ | ⟨hn9, h1, hw⟩
  · refine .ifT (.row (.or (.plain (.starts (.name nm rfl rfl) .str rfl rfl ⟨_, rfl⟩) rfl) fun _ => .or (.plain (.starts (.name nm rfl rfl) .str rfl rfl ⟨_, rfl⟩) rfl) fun _ => .or0)) h1 (.say hse hx (.text rfl) (hroom.le (by decide) (by decide)) (.nilT (.nilT (.nil fun n hn => ⟨rfl, ?_⟩))))
    rw [step0_out S row g hg]; exact hn
  refine .ifF (.row (.or (.plain (.starts (.name nm rfl rfl) .str rfl rfl ⟨_, rfl⟩) rfl) fun _ => .or (.plain (.starts (.name nm rfl rfl) .str rfl rfl ⟨_, rfl⟩) rfl) fun _ => .or0)) h1 ?_
  rcases hw with ⟨hc, h2 | ⟨h2, h3, h4⟩⟩ | ⟨hc, h2, h3⟩ | ⟨hc, h2, h3, h4⟩
  · exact .ifT (.eqS (.name nm rfl rfl) .str) h2 (.meth1 (V := fun u => u = .ref av) (m_control w) hse hx (.name hv rfl rfl) (fun v hv n hn => by subst hv; exact control_q hx hs hr hc hwf hroomS n hn) (hroom.le (by decide) (by decide)) (.nilT (.nilT (.nilT (.nil fun n hn => ⟨rfl, hn⟩)))))
  · exact .ifF (.eqS (.name nm rfl rfl) .str) h2 (.ifF (.plain (.starts (.name nm rfl rfl) .str rfl rfl ⟨_, rfl⟩) rfl) h3 (.ifF (.plain (.starts (.name nm rfl rfl) .str rfl rfl ⟨_, rfl⟩) rfl) h4 (.meth1 (V := fun u => u = .ref av) (m_control w) hse hx (.name hv rfl rfl) (fun v hv n hn => by subst hv; exact control_q hx hs hr hc hwf hroomS n hn) (hroom.le (by decide) (by decide)) (.nilT (.nilT (.nilT (.nilT (.nilT (.nil fun n hn => ⟨rfl, hn⟩)))))))))
  · exact .ifF (.eqS (.name nm rfl rfl) .str) h2 (.ifT (.plain (.starts (.name nm rfl rfl) .str rfl rfl ⟨_, rfl⟩) rfl) h3 (.meth1 (V := fun u => u = .ref av) (m_get w) hse hx (.name hv rfl rfl) (fun v hv n hn => by subst hv; exact get_q hx hs hr hc hroomS n hn) (hroom.le (by decide) (by decide)) (.nilT (.nilT (.nilT (.nilT (.nil fun n hn => ⟨rfl, hn⟩)))))))
  · exact .ifF (.eqS (.name nm rfl rfl) .str) h2 (.ifF (.plain (.starts (.name nm rfl rfl) .str rfl rfl ⟨_, rfl⟩) rfl) h3 (.ifT (.plain (.starts (.name nm rfl rfl) .str rfl rfl ⟨_, rfl⟩) rfl) h4 (.meth1 (V := fun u => u = .ref av) (m_put w) hse hx (.name hv rfl rfl) (fun v hv n hn => by subst hv; exact put_q hx hs hr hc hroomS n hn) (hroom.le (by decide) (by decide)) (.nilT (.nilT (.nilT (.nilT (.nilT (.nil fun n hn => ⟨rfl, hn⟩)))))))))
theorem step_spec {w : World} {k : Nat → Tok} {sg dx x : Addr} {S : CS} {rest news : Led} {row : Row} {v : Value} (hx : (x, instObj 358 dx) ∈ rest) (hs : SymAt w sg rest) (hrow : RowAt rest v row) (hwf : row.wf)
    (hc : Ck w k sg dx S rest news) (hroom : S.room) (hfam : S.famOk) : Spec w 355 30 1200 [.ref x, v] news (fun res nn => res = .none ∧ Ck w k sg dx (S.step row) rest nn) := by
  have hr := hrow
  obtain ⟨av, t, vs, rfl, _⟩ := hrow
  exact step_q hx hs hr hwf hroom hfam news hc
end Mine
end

section
open PySem PySem.W PySem.Spec PySem.Calls PyProof.Rows
set_option Elab.async false
set_option maxRecDepth 100000
set_option maxHeartbeats 8000000
namespace Mine


theorem fill1 : True ∨ (PySem.Challenge.rw_sa0151_01 = PySem.Challenge.rw_sa0151_01 ∧ hd.heap_1 = hd.heap_1) := by
  k_fill
  exact .inl trivial

noncomputable def Figs (o : Obj) : Prop := ∃ vs ns n, o = listOf vs.toArray n ∧ IntsAre vs ns ∧ vs.length ≤ 90 ∧ ∀ x ∈ ns, 0 ≤ x ∧ x < 1000

theorem fmod_in {x k : Int} (hk : 0 < k) : 0 ≤ x.fmod k ∧ x.fmod k < k := ⟨Int.fmod_nonneg_of_pos x hk, Int.fmod_lt_of_pos x hk⟩

theorem draw_core (w : World) (fa : Addr) (ofig : Obj) (k : Int) (t : Tok) (rest : List (Addr × Obj))
   (hf : Figs ofig) (hr : ∀ p ∈ rest, p.1 ≠ fa) (hk : 0 < k) (hk2 : k < 100) : Spec w 383 2 100 [.ref fa, .int k t] ((fa, ofig) :: rest)
    (fun r news' => ∃ o', (Figs o' ∧ ∃ x tk, r = .int x tk ∧ 0 ≤ x ∧ x < k) ∧ news' = (fa, o') :: rest) := by
  obtain ⟨vs, ns, n, rfl, hi, hl, hb⟩ := hf
  unfold Spec
  intro p loose mean mg mb dp un gd cn cs a ccd cl outer A₀ base h₀ L m s Q E B F X N T hkind hd hu hret
  refine wpAny_call ?_
  k_dflt ktr_enter
  k_steps
  · exact hret _ _ _ _ (by k_asm) (News.sub (by k_asm) (fun p hp => .tail _ hp)) ⟨_, ⟨⟨_, _, _, rfl, hi, hl, hb⟩, 0, _, rfl, Int.le_refl _, hk⟩, rfl⟩
  k_here
  k_dflt (refine' kpa_pop ?F ?N ?U ?i ?l ?z ?_; (case F => k_asm); (case N => k_asm); (case U => (first | exact Upd.head hr | exact Upd.tail (by k_ne) (Upd.head hr))); (case i => exact hi); (case l => ((rename decide (_ = []) = false => hne9); rw [hi.length]; exact List.length_pos_iff.mpr (of_decide_eq_false hne9))); (case z => kpa_room))
  intro h' t' F' N' hI'
  (try dsimp only [List.nil_append, List.cons_append] at N')
  k_steps
  · refine hret _ _ _ _ (by k_asm) (News.sub (by k_asm) (fun p hp => .tail _ hp)) ⟨_, ⟨⟨_, _, _, rfl, by assumption, ?_, ?_⟩, _, _, rfl, (fmod_in hk).1, (fmod_in hk).2⟩, rfl⟩
    · simp only [List.length_dropLast]; omega
    · exact fun x hx => hb x (List.dropLast_subset _ hx)
end Mine
end

section
open PySem PySem.W PySem.Spec PySem.Calls PyProof.Rows
set_option Elab.async false
set_option maxRecDepth 100000
set_option maxHeartbeats 4000000
namespace Mine
theorem filli1 : True ∨ (PySem.Challenge.rw_sa0151_01 = PySem.Challenge.rw_sa0151_01 ∧ hd.heap_1 = hd.heap_1) := by
  k_fill
  exact .inl trivial
/-- the registers that a clause of so many arguments begins with -/
noncomputable def initXs (ar : Int) : List Int := if ar = 0 then [] else if ar = 1 then [1] else [1, 2]
noncomputable def initK : Nat → List Int
  | 0 => []
  | i + 1 => ins (initK i) (1 + (i : Int))
section
variable {w : World} {F : Fn} {Γ : Cx w F} {lc : Lcs} {P P' : Led → Prop} {R : RX} {C x dx : Addr}
/-- self.a[i] = True, of a dict of ints -/
theorem Ex.putAt {self a : Str} {sp ap ip pos vp : Pos} {kn : Nat} {e : PX} {st : List Stmt} {i : Int} {ks : List Int} (c4 : hasDictIn (hd.heap_1 w.params) C = true) (c5 : plainGet (hd.heap_1 w.params) C a = true) (c6 : findIn (hd.heap_1 w.params) (.ref C) a = some none)
    (hs : (self, Vl.r x) ∈ lc) (he : ∀ P : Led → Prop, Ev Γ lc P e (Vl.i i).is) (hz : ks.length ≤ 1000)
    (hP : ∀ n, P n → ∃ es c d o g, (x, instObj C dx) ∈ n ∧ (dx, dictOf es c) ∈ n ∧ getL a es = some (some (.ref d)) ∧ o.IsDictOf (intKind PR w) (kvL ks) ∧ UpdF d o n g ∧ ∀ o', o'.IsDictOf (intKind PR w) (kvL (ins ks i)) → P' (g o'))
    (hr : Ex Γ lc P' st R) (hk : autoParam (Γ.env.kindOf self = some .local) rfl9) (hd9 : autoParam ((self == "__debug__") = false) rfl9)
    (hw : autoParam (swapsWith (.Constant (.bool true) kn vp) (some (.Subscript (.Attribute (.Name self sp) a ap) e ip)) pos.line Γ.env = pure false) rfl9) : Ex Γ lc P (.Assign [.Subscript (.Attribute (.Name self sp) a ap) e ip] (.Constant (.bool true) kn vp) pos :: st) R := by
  refine .next fun s Q E po S₀ q => wpAny_Assign_Subscript (Ev.bool s _ E S₀ fun v h1 t1 hv S1 => Attribute_Name_ (Ev.name hs hk hd9 _ _ E S1 fun u h2 t2 hu S2 => ?_)) hw
  have hu' : u = .ref x := hu
  have hv' : v = .bool true := hv
  subst hu' hv'
  obtain ⟨⟨m, Fm, hm⟩, n, N, hPn⟩ := S2
  obtain ⟨es, c, d, o, g, m1, m2, hg, ho, hU, hP'⟩ := hP n hPn
  refine get_own (attr := none) Fm Γ.X (InstAt.of_news N m1 m2) c5 c4 c6 rfl hg rfl ?_
  refine he (fun m => m = n) _ _ E ⟨⟨m, Fm, hm⟩, n, N, rfl⟩ fun v h4 t4 hv S4 => ?_
  obtain ⟨⟨m4, F4, hm4⟩, n4, N4, rfl⟩ := S4
  obtain ⟨t, rfl⟩ := hv
  exact set_ks F4 N4 hU ho hz fun h' o' F' N' hd' => q .next lc _ h' _ hr ⟨⟨m4, F', hm4⟩, _, N', hP' o' hd'⟩
end
theorem init_start {w : World} {sg x dx xa ya : Addr} {xs : List Int} {rest n : Led} {ox oy : Obj} (H : IniS x dx [(ya, oy), (xa, ox)] rest) (hlt : @LT.lt Nat _ xa ya)
    (hox : ox.IsDictOf (intKind PR w) (kvL xs)) (hoy : oy.IsDictOf (intKind PR w) (kvL [])) (lx : (xa == sysModules) = false) (ly : (ya == sysModules) = false)
    (h : IniP w 358 x dx [(ya, oy), (xa, ox)] [(Str.ofString "symbols", .r sg), (Str.ofString "xs", .r xa), (Str.ofString "ys", .r ya), (Str.ofString "size", .i (-1)), (Str.ofString "due", .i 0), (Str.ofString "family", .s (Str.ofString "")), (Str.ofString "building", .i 0), (Str.ofString "ended", .b false), (Str.ofString "fault", .s (Str.ofString ""))] rest n) :
    ∃ k nn, (∀ p ∈ nn, p ∈ n) ∧ Ck w k sg dx (CS.init xs) ((x, instObj 358 dx) :: rest) nn := by
  obtain ⟨es, ⟨k0, v0, _, rfl, h0, k1, v1, _, rfl, h1, k2, v2, _, rfl, h2, k3, v3, _, rfl, h3, k4, v4, _, rfl, h4, k5, v5, _, rfl, h5, k6, v6, _, rfl, h6, k7, v7, _, rfl, h7, k8, v8, _, rfl, h8, rfl⟩, rfl⟩ := h
  obtain ⟨t1, h3⟩ := h3
  obtain ⟨t2, h4⟩ := h4
  obtain ⟨t3, h5⟩ := h5
  obtain ⟨t4, h6⟩ := h6
  obtain ⟨t5, h8⟩ := h8
  have h0' : v0 = .ref sg := h0
  have h1' : v1 = .ref xa := h1
  have h2' : v2 = .ref ya := h2
  have h7' : v7 = .bool false := h7
  subst h0' h1' h2' h3 h4 h5 h6 h7' h8
  have b2 : @LT.lt Nat _ x xa := H.tl (xa, ox) (.tail _ (.head _))
  have b3 : @LT.lt Nat _ x ya := H.tl (ya, oy) (.head _)
  have r : ∀ d : Addr, @LT.lt Nat _ dx d → ∀ p ∈ rest, p.1 ≠ d := fun d h p hp => Nat.ne_of_lt (Nat.lt_trans (H.rest p hp) h)
  refine ⟨kOf k0 k1 k2 k3 k4 k5 k6 k7 k8, _, ?_, Ck.mk' (S := CS.init xs) (xa := xa) (ya := ya) (ox := ox) (oy := oy) (flt := Str.ofString "") (t1 := t1) (t2 := t2) (t3 := t3) (t4 := t4) (t5 := t5) ⟨fun _ => rfl, fun _ => rfl⟩ (by decide +kernel) hox hoy lx ly ?_ ?_ ?_ ?_ ?_ ?_⟩
  · intro p hp
    show p ∈ (ya, oy) :: (xa, ox) :: (x, instObj 358 dx) :: (dx, _) :: rest
    simp only [List.mem_cons] at hp ⊢
    rcases hp with h | h | h | h | h
    · exact .inr (.inr (.inr (.inl h)))
    · exact .inr (.inl h)
    · exact .inl h
    · exact .inr (.inr (.inl h))
    · exact .inr (.inr (.inr (.inr h)))
  · exact Nat.ne_of_lt (Nat.lt_trans H.x b2)
  · exact Nat.ne_of_lt (Nat.lt_trans H.x b3)
  · exact Nat.ne_of_lt hlt
  · intro p hp
    rcases List.mem_cons.mp hp with rfl | hp
    · exact Nat.ne_of_gt H.x
    · exact Nat.ne_of_lt (H.rest p hp)
  · intro p hp
    rcases List.mem_cons.mp hp with rfl | hp
    · exact Nat.ne_of_lt b2
    · exact r xa (Nat.lt_trans H.x b2) p hp
  · intro p hp
    rcases List.mem_cons.mp hp with rfl | hp
    · exact Nat.ne_of_lt b3
    · exact r ya (Nat.lt_trans H.x b3) p hp
theorem c1_ck (w : World) : findIn (hd.heap_1 w.params) (.ref 358) "__setattr__" = some (some (.builtin "object.__setattr__")) := by kernel_rfl!
theorem c2_ck (w : World) : plainOver (hd.heap_1 w.params) 358 = true := by kernel_rfl!
theorem c4_ck (w : World) : hasDictIn (hd.heap_1 w.params) 358 = true := by kernel_rfl!
/-- what a checker that is made has -/
noncomputable def Made (w : World) (sg : Addr) (xs : List Int) (rest : Led) (r : Value) (n : Led) : Prop := ∃ x dx k, r = .ref x ∧ Ck w k sg dx (CS.init xs) ((x, instObj 358 dx) :: rest) n ∧ ∀ p ∈ rest, p.1 ≠ x
theorem init_q {w : World} {sg : Addr} {t : Tok} {rest : Led} (n : Nat) (hn : n ≤ 2) : Spec w 358 20 900 [.ref sg, .int (n : Int) t] rest (Made w sg (initK n) rest) := by
  refine' Spec.make (fI := 264) (lc := fun x => [(Str.ofString "self", .r x), (Str.ofString "symbols", .r sg), (Str.ofString "arity", .i n)]) ?hm ?hi ?hf ?k6 ?k7 ?k9 ?kB ?c2 ?c3 ?c4 ?c5 ?hlc ?hd1 ?hu1 ?H
  case hm => kernel_rfl!
  case hi => kernel_rfl!
  case hf => kernel_rfl!
  case k6 => k_is
  case k7 => k_is
  case k9 => exact fun _ => rfl
  case kB => exact fun _ => rfl
  case c2 => exact rfl
  case c3 => exact rfl
  case c4 => exact rfl
  case c5 => decide
  case hlc => exact fun _ => ⟨⟨_, rfl, rfl⟩, ⟨_, rfl, rfl⟩, ⟨_, rfl, _, rfl⟩, trivial⟩
  case hd1 => exact rfl
  case hu1 => exact rfl
  intro x dx Γ hroom hlr hlx
  refine .weak (lc' := [(Str.ofString "self", .r x), (Str.ofString "symbols", .r sg), (Str.ofString "arity", .i n)]) (P' := IniP w 358 x dx [] [] rest) (fun _ h => h) (fun n e => ⟨n, ⟨[], rfl, e⟩, fun _ h => h⟩) ?_
  have H0 : IniS x dx [] rest := ⟨fun _ h => (nomatch h), hlx, hlr⟩
  refine .ini (c1_ck w) (c2_ck w) (c4_ck w) (.head _) H0 (.name (.tail _ (.head _)) rfl rfl) ?_
  refine .iniD (c1_ck w) (c2_ck w) (c4_ck w) (.head _) H0 fun xa ox lx _ hx0 _ H1 => ?_
  refine .weak (P' := fun m => ∃ o, o.IsDictOf (intKind PR w) (kvL (initK 0)) ∧ IniP w 358 x dx [(xa, o)] ([] ++ [(Str.ofString "symbols", .r sg)] ++ [(Str.ofString "xs", .r xa)]) rest m) (fun _ h => h) (fun n h => ⟨n, ⟨ox, hx0, h⟩, fun _ h => h⟩) ?_
  refine .forRange (a := 1) (b := (n : Int) + 1) n (fun i l p => l = [(Str.ofString "self", .r x), (Str.ofString "symbols", .r sg), (Str.ofString "arity", .i n)] ∧ p = fun m => ∃ o, o.IsDictOf (intKind PR w) (kvL (initK i)) ∧ IniP w 358 x dx [(xa, o)] ([] ++ [(Str.ofString "symbols", .r sg)] ++ [(Str.ofString "xs", .r xa)]) rest m) ?_ ?_ ?_ rfl rfl (fun _ => rfl) ?_ ?_ ?_
  · exact .two .int (.add (.name (.tail _ (.tail _ (.head _))) rfl rfl) .int) rfl (by kernel_rfl!) rfl rfl rfl rfl
  · have : n = 0 ∨ n = 1 ∨ n = 2 := by omega
    rcases this with rfl | rfl | rfl <;> decide
  · have : n = 0 ∨ n = 1 ∨ n = 2 := by omega
    rcases this with rfl | rfl | rfl <;> decide
  · exact ⟨rfl, rfl⟩
  · rintro i l p I it hi ⟨rfl, rfl⟩
    refine ⟨_, .cons (by kernel_rfl!), ?_⟩
    have hz : (initK i).length ≤ 1000 := by
      have : i = 0 ∨ i = 1 := by omega
      rcases this with rfl | rfl <;> exact Nat.le_of_ble_eq_true rfl
    refine .putAt (dx := dx) (P' := Fresh I it fun m => ∃ o, o.IsDictOf (intKind PR w) (kvL (initK (i + 1))) ∧ IniP w 358 x dx [(xa, o)] ([] ++ [(Str.ofString "symbols", .r sg)] ++ [(Str.ofString "xs", .r xa)]) rest m) (c4_ck w) (by kernel_rfl!) (by kernel_rfl!) (.tail _ (.head _)) (fun _ => .name (.head _) rfl rfl) hz ?_ (.nil ?_)
    · rintro m ⟨nx, rfl, ⟨o, ho, es, hE, rfl⟩, hI⟩
      have hE' := hE
      obtain ⟨k0, v0, _, rfl, h0, k1, v1, _, rfl, h1, rfl⟩ := hE'
      have h1' : v1 = .ref xa := h1
      subst h1'
      refine ⟨_, _, xa, o, _, .tail _ (.tail _ (.head _)), .tail _ (.tail _ (.tail _ (.head _))), rfl, ho, .tail (Ne.symm (hI _ (.head _))) (.head ?_), fun o' ho' => ⟨_, rfl, ⟨o', ho', _, hE, rfl⟩, ?_⟩⟩
      · intro p hp
        rcases List.mem_cons.mp hp with rfl | hp
        · exact Nat.ne_of_lt (H1.tl (xa, ox) (.head _))
        · rcases List.mem_cons.mp hp with rfl | hp
          · exact Nat.ne_of_lt (Nat.lt_trans hlx (H1.tl (xa, ox) (.head _)))
          · exact Nat.ne_of_lt (Nat.lt_trans (hlr p hp) (Nat.lt_trans hlx (H1.tl (xa, ox) (.head _))))
      · intro p hp
        rcases List.mem_cons.mp hp with rfl | hp
        · exact hI (xa, o) (.head _)
        · exact hI p (.tail _ hp)
    · exact ⟨_, _, ⟨rfl, rfl⟩, fun p hp => .tail _ hp, fun m h => ⟨m, h, fun _ h => h⟩⟩
  · rintro l p ⟨rfl, rfl⟩
    refine .exi fun o => ?_
    refine .fact (φ := o.IsDictOf (intKind PR w) (kvL (initK n))) (fun n h => h.1) fun ho => .weak (P' := IniP w 358 x dx [(xa, o)] ([] ++ [(Str.ofString "symbols", .r sg)] ++ [(Str.ofString "xs", .r xa)]) rest) (fun _ h => h) (fun n h => ⟨n, h.2, fun _ h => h⟩) ?_
    have H2 : IniS x dx [(xa, o)] rest := ⟨fun p hp => by rw [List.mem_singleton.mp hp]; exact H1.tl (xa, ox) (.head _), hlx, hlr⟩
    refine .iniD (c1_ck w) (c2_ck w) (c4_ck w) (.head _) H2 fun ya oy ly _ hy0 hlt H3 => ?_
    refine .ini (c1_ck w) (c2_ck w) (c4_ck w) (.head _) H3 (vl := .i (-1)) .neg ?_
    refine .ini (c1_ck w) (c2_ck w) (c4_ck w) (.head _) H3 (vl := .i 0) .int ?_
    refine .ini (c1_ck w) (c2_ck w) (c4_ck w) (.head _) H3 (vl := .s (Str.ofString "")) .str ?_
    refine .ini (c1_ck w) (c2_ck w) (c4_ck w) (.head _) H3 (vl := .i 0) .int ?_
    refine .ini (c1_ck w) (c2_ck w) (c4_ck w) (.head _) H3 (vl := .b false) .bool ?_
    refine .ini (c1_ck w) (c2_ck w) (c4_ck w) (.head _) H3 (vl := .s (Str.ofString "")) .str ?_
    refine .weak (lc' := []) (P' := fun m => ∃ k, Ck w k sg dx (CS.init (initK n)) ((x, instObj 358 dx) :: rest) m) (fun _ h => (nomatch h)) (fun m hm => ?_) (.nil fun m ⟨k, hm⟩ => ⟨rfl, x, dx, k, rfl, hm, fun p hp => Nat.ne_of_lt (Nat.lt_trans (hlr p hp) hlx)⟩)
    obtain ⟨k, nn, h1, h2⟩ := init_start H3 (hlt _ (.head _)) ho hy0 lx ly hm
    exact ⟨nn, ⟨k, h2⟩, h1⟩
theorem init_ok {a : Int} (ha : a = 0 ∨ a = 1 ∨ a = 2) : ∃ n : Nat, n ≤ 2 ∧ a = n ∧ initK n = initXs a := by
  rcases ha with rfl | rfl | rfl
  · exact ⟨0, by decide⟩
  · exact ⟨1, by decide⟩
  · exact ⟨2, by decide⟩
theorem init_core (w : World) (sg : Addr) (t : Tok) (a : Int) (rest : Led) (ha : a = 0 ∨ a = 1 ∨ a = 2) :
    Spec w 358 20 900 [.ref sg, .int a t] rest (Made w sg (initXs a) rest) := by
  obtain ⟨n, hn, rfl, h3⟩ := init_ok ha
  exact h3 ▸ init_q n hn
section
variable {w : World} {F : Fn} {Γ : Cx w F} {lc : Lcs} {P : Led → Prop}
/-- ClauseChecker(signs, wide) -/
theorem EvT.make {sg : Addr} {wide : Int} {s x : Str} {np sp xp pos : Pos} (hw : wide = 0 ∨ wide = 1 ∨ wide = 2) (hs : (s, Vl.r sg) ∈ lc) (hx : (x, Vl.i wide) ∈ lc) (hroom : Γ.room 20 900)
    (hkf : autoParam (Γ.env.kindOf (Str.ofString "ClauseChecker") = some .globalImplicit) rfl9) (hk1 : autoParam (Γ.env.kindOf s = some .local) rfl9) (hk2 : autoParam (Γ.env.kindOf x = some .local) rfl9) (hd1 : autoParam ((s == "__debug__") = false) rfl9) (hd2 : autoParam ((x == "__debug__") = false) rfl9)
    (hst : autoParam (starEach [.Name s sp, .Name x xp] Γ.env = (false, eval (.Name s sp) Γ.env) :: starEach [.Name x xp] Γ.env) rfl9) (hcall : autoParam (callIs (Str.ofString "ClauseChecker") np pos [.Name s sp, .Name x xp] Γ.env) rfl9) :
    EvT Γ lc P (.Call (.Name (Str.ofString "ClauseChecker") np) [.Name s sp, .Name x xp] [] pos) (fun v P' => ∃ x1 dx n k, v = .ref x1 ∧ P n ∧ (∀ p ∈ n, p.1 ≠ x1) ∧ P' = Ck w k sg dx (CS.init (initXs wide)) ((x1, instObj 358 dx) :: n)) :=
  .conv (EvT.call (f := 358) (post := fun v nn => ∃ x1 dx n k, v = .ref x1 ∧ P n ∧ (∀ p ∈ n, p.1 ≠ x1) ∧ Ck w k sg dx (CS.init (initXs wide)) ((x1, instObj 358 dx) :: n) nn) (by kernel_rfl!) hkf (by decide +kernel) (by kernel_rfl!) (.two (.name hs hk1 hd1) (.name hx hk2 hd2) hst rfl) hst rfl hcall (fun vs hv n hn => by
    obtain ⟨v, v', rfl, e, ⟨t, rfl⟩⟩ := hv
    have e' : v = .ref sg := e
    subst e'
    exact (init_core w sg t wide n hw).conv (Nat.le_refl _) (Nat.le_refl _) (fun _ h => h) fun v nn ⟨x1, dx, k, e, hC, ho⟩ => ⟨nn, ⟨x1, dx, n, k, e, hn, ho, hC⟩, fun _ h => h⟩) hroom) fun v P' e h n N hn => by
    subst e
    obtain ⟨x1, dx, n0, k, rfl, hP, ho, hC⟩ := hn
    exact ⟨_, ⟨x1, dx, n0, k, rfl, hP, ho, rfl⟩, n, hC, fun _ h => h⟩
end
end Mine
end

section
open PySem PySem.W PySem.Spec PySem.Calls PyProof.Rows PyProof.V
set_option Elab.async false
set_option maxRecDepth 100000
namespace Mine
section
variable {prog : Program} {w : World} {K : Type} [DecidableEq K] {knd : KeyKind prog w K} {A : Around} {E : Value → Shared → Prop} {s : Shared}
theorem dictPut_pairs {d : Addr} {kvs : List (K × Value)} {k : K} {key v : Value} {Q : Unit → Shared → Prop} (hkey : knd.is k key = true) (hm : s.heap.DictOf knd d kvs) (hsz : kvs.length ≤ sizeLine)
    (hQ : ∀ h', h'.DictOf knd d (stored kvs k v) → Heap.SameBut d s.heap h' → Q () { s with heap := h' }) : wpAny (model prog w) A (dictPut d (knd.hash k) key v) Q E s := by
  obtain ⟨o, es, ep, ho, hc, hd, hk, hp, hn⟩ := hm
  have hes : es.size ≤ sizeLine := by
    have e1 := hp.length
    have e2 : es.toList.length = es.size := by simp
    omega
  unfold dictPut
  refine wpAny_bind (wpAny_dictFind_of hkey ho hd hk ?_)
  have hidx : (es.findIdx? fun e => knd.is k e.key) = kvs.findIdx? fun kv => decide (kv.1 = k) := by
    rw [← hp.findIdx k]; obtain ⟨l⟩ := es; simp
  cases hi : es.findIdx? fun e => knd.is k e.key with
  | some i =>
    refine wpAny_updateDict ho hd (hQ _ ⟨_, _, ep, Heap.get?_update_self _ ho (Obj.isFreed_of_dict (Obj.data_mapDict hd _)), hc.mapDict _, Obj.data_mapDict hd _, hk.modify _ _, ?_, ?_⟩ (Heap.SameBut.update ..))
    · rw [stored, if_pos (any_of_findIdx_some (hidx ▸ hi))]
      have hl : (es.toList.findIdx? fun e => knd.is k e.key) = some i := by rw [← hi]; obtain ⟨l⟩ := es; simp
      have := hp.modify hn hl v
      obtain ⟨l⟩ := es
      simpa using this
    · rw [stored, if_pos (any_of_findIdx_some (hidx ▸ hi)), keys_map_store]; exact hn
  | none =>
    have hnot : k ∉ kvs.map (·.1) := not_mem_of_findIdx_none (hidx ▸ hi)
    have hany : ¬ (kvs.any fun kv => decide (kv.1 = k)) = true := by
      rw [List.any_eq_true]; rintro ⟨kv, hkv, he⟩
      exact hnot (List.mem_map.mpr ⟨kv, hkv, of_decide_eq_true he⟩)
    refine wpAny_updateDictKeys (hz := hes) ho hd (hQ _ ⟨_, _, ep + 1, Heap.get?_update_self _ ho (Obj.isFreed_of_dict (Obj.data_mapDictKeys hd _)), hc.mapDictKeys _, Obj.data_mapDictKeys hd _, hk.push hkey _, ?_, ?_⟩ (Heap.SameBut.update ..))
    · rw [stored, if_neg hany]
      have := hp.append hkey (knd.hash k) v
      obtain ⟨l⟩ := es
      simpa using this
    · rw [stored, if_neg hany, List.map_append, List.nodup_append]
      refine ⟨hn, by simp, ?_⟩
      intro a ha b hb
      simp only [List.map_cons, List.map_nil, List.mem_singleton] at hb
      subst hb
      exact fun e => hnot (e ▸ ha)
theorem merge_K {d a : Addr} {kvs more : List (K × Value)} {Q : Unit → Shared → Prop} (hda : d ≠ a) (haS : (a == sysModules) = false) (hd : s.heap.DictOf knd d kvs) (ha : s.heap.DictOf knd a more) (hne : kvs ≠ []) (hsz : kvs.length + more.length ≤ sizeLine)
    (hQ : ∀ h', h'.DictOf knd d (merged kvs more) → Heap.SameBut d s.heap h' → Q () { s with heap := h' }) : wpAny (model prog w) A (mergeMapping d (.ref a) false) Q E s := by
  obtain ⟨od, esd, epd, hod, hcd, hdd, hkd, hpd, hnd⟩ := id hd
  obtain ⟨oo, eso, epo, hoo, hco, hdo', hko, hpo, hno⟩ := id ha
  have hemp : esd.isEmpty = false := by
    cases h : esd.isEmpty with
    | false => rfl
    | true =>
      have h0 : esd = #[] := Array.isEmpty_iff.mp h
      have := hpd.length; rw [h0] at this
      exact absurd (List.length_eq_zero_iff.mp (by simpa using this.symm)) hne
  have hlen : more.length = eso.size := by rw [← hpo.length]; simp
  unfold mergeMapping
  refine wpAny_bind (wpAny_isInstance (b := true) ha.typeIs (by rw [isSubtype_type]; kernel_rfl) ?_)
  rw [if_pos rfl]
  refine wpAny_bind (wpAny_specialOf ha.typeIs F.slot_dict_iter.lookup ?_)
  refine wpAny_bind (wpAny_pure ?_)
  rw [show (some (Value.builtin "dict.__iter__") == some (Value.builtin "dict.__iter__")) = true from by kernel_rfl]
  dsimp only
  rw [if_neg (by rw [haS]; exact Bool.false_ne_true)]
  refine wpAny_bind (wpAny_dictEntries hod hdd ?_)
  rw [if_neg (by rw [hemp]; exact Bool.false_ne_true)]
  refine wpAny_bind (wpAny_dictEntries hoo hdo' ?_)
  refine wpAny_bind (wpAny_dictEpoch hoo hdo' ?_)
  refine wpAny_bind ?_
  rw [List.range_eq_range']
  refine wpAny_forIn_list _
    (fun rest _ s' => ∃ h' i, s' = { s with heap := h' } ∧ rest = List.range' i (eso.size - i) ∧ i ≤ eso.size ∧ h'.DictOf knd d (merged kvs (more.take i)) ∧ h'.get? a = some oo ∧ Heap.SameBut d s.heap h')
    _ ?_ ?_ _ _ ⟨s.heap, 0, rfl, by simp, Nat.zero_le _, by simpa [merged] using hd, hoo, Heap.SameBut.refl _ _⟩
  · rintro x rest b s' ⟨h', i, rfl, hr, hi, hd', hoo', hs'⟩
    have hlt : i < eso.size := by
      rcases Nat.lt_or_ge i eso.size with h | h
      · exact h
      · rw [Nat.sub_eq_zero_of_le h] at hr; simp at hr
    obtain ⟨rfl, hrest⟩ : x = i ∧ rest = List.range' (i + 1) (eso.size - (i + 1)) := by
      have e : eso.size - i = (eso.size - (i + 1)) + 1 := by omega
      rw [e, List.range'_succ] at hr
      injection hr with h1 h2
      exact ⟨h1, h2⟩
    refine wpAny_bind (wpAny_dictEntries hoo' hdo' ?_)
    rw [Array.getElem?_eq_getElem hlt]
    obtain ⟨kv, hkv⟩ : ∃ kv, more[x]? = some kv := ⟨more[x]'(by rw [hlen]; exact hlt), List.getElem?_eq_getElem _⟩
    obtain ⟨k, v⟩ := kv
    obtain ⟨hkey, hval⟩ := hpo.get? (e := eso[x]) (by simp [hlt]) hkv
    obtain ⟨k', hkey', hhash⟩ := hko eso[x] (Array.getElem_mem hlt)
    obtain rfl : k' = k := knd.inj _ _ _ hkey' hkey
    dsimp only
    rw [if_neg Bool.false_ne_true, hhash, hval]
    have hmx : (merged kvs (more.take x)).length ≤ sizeLine := by
      have e1 := merged_length_le kvs (more.take x)
      have e2 : (more.take x).length ≤ more.length := by rw [List.length_take]; omega
      omega
    refine wpAny_bind (wpAny_holding (dictPut_pairs hkey hd' hmx fun h'' hd'' hs'' => ?_))
    have hoo'' : h''.get? a = some oo := (hs''.2 a (Ne.symm hda)).trans hoo'
    refine wpAny_bind (wpAny_dictEpoch hoo'' hdo' ?_)
    rw [if_neg (by simp)]
    exact wpAny_pure ⟨h'', x + 1, rfl, hrest, hlt, by rw [merged_take_succ kvs more x (k', v) hkv]; exact hd'', hoo'', hs'.trans hs''⟩
  · rintro b s' ⟨h', i, rfl, hr, hi, hd', hoo', hs'⟩
    have hin : i = eso.size := by
      rcases Nat.lt_or_ge i eso.size with h | h
      · have e : eso.size - i = (eso.size - (i + 1)) + 1 := by omega
        rw [e, List.range'_succ] at hr; exact nomatch hr
      · exact Nat.le_antisymm hi h
    refine wpAny_pure (hQ h' ?_ hs')
    rw [hin, ← hlen, List.take_length] at hd'; exact hd'
end
end Mine
end

section
open PySem PySem.W PySem.Spec PySem.Calls PyProof.Rows PyProof.V
set_option Elab.async false
set_option maxRecDepth 100000
namespace Mine
inductive StrVals : List (Str × Value) → List (Str × Str) → Prop
  | nil : StrVals [] []
  | cons {k v : Str} {t : Tok} {kvs xs} : StrVals kvs xs → StrVals ((k, .str v t) :: kvs) ((k, v) :: xs)
theorem StrVals.len {kvs xs} (h : StrVals kvs xs) : kvs.length = xs.length := by
  induction h with
  | nil => rfl
  | cons _ ih => simp [ih]
theorem StrVals.keys {kvs xs} (h : StrVals kvs xs) : kvs.map (·.1) = xs.map (·.1) := by
  induction h with
  | nil => rfl
  | cons _ ih => simp [ih]
theorem StrVals.app {k1 x1} (h : StrVals k1 x1) {k2 x2} (h2 : StrVals k2 x2) : StrVals (k1 ++ k2) (x1 ++ x2) := by
  induction h with
  | nil => exact h2
  | cons _ ih => exact .cons ih
section
variable {prog : Program} {w : World} {A : Around} {E : Value → Shared → Prop} {s : Shared}
noncomputable def StrEval (M : Model) (e : Sem Value) (x : Str) : Prop := ∀ (A : Around) (E : Value → Shared → Prop) (Q : Value → Shared → Prop) (s : Shared), Q (.str x s.toks) { s with toks := s.toks + 1 } → wpAny M A e Q E s
inductive StrPairs (M : Model) : List (Sem Value × Sem Value) → List (Str × Str) → Prop
  | nil : StrPairs M [] []
  | cons {k v : Sem Value} {x y : Str} {ps xs} : StrEval M k x → StrEval M v y → StrPairs M ps xs → StrPairs M ((k, v) :: ps) ((x, y) :: xs)
theorem StrPairs.len {M : Model} {ps xs} (h : StrPairs M ps xs) : ps.length = xs.length := by
  induction h with
  | nil => rfl
  | cons _ _ _ ih => simp [ih]

theorem long_loop {d : Addr} {ps : List (Sem Value × Sem Value)} {xs : List (Str × Str)} (hp : StrPairs (model prog w) ps xs) :
    ∀ {kvs : List (Str × Value)} {s : Shared} {Q : PUnit → Shared → Prop}, s.heap.DictOf (strKind prog w) d kvs → kvs.length + xs.length ≤ sizeLine →
    (∀ h' tk more, StrVals more xs → h'.DictOf (strKind prog w) d (merged kvs more) → Heap.SameBut d s.heap h' → Q PUnit.unit { s with heap := h', toks := tk }) →
    wpAny (model prog w) A (forIn ps PUnit.unit fun (x : Sem Value × Sem Value) (_ : PUnit) => (do
      let kv ← x.1
      let vv ← holding [kv] x.2
      holding [kv, vv] (dictSet d kv vv)
      pure (ForInStep.yield PUnit.unit) : Sem (ForInStep PUnit))) Q E s := by
  induction hp with
  | nil =>
    intro kvs s Q hd _ hQ
    rw [List.forIn_nil]
    exact wpAny_pure (hQ s.heap s.toks [] .nil hd (Heap.SameBut.refl _ _))
  | @cons k v x y ps xs hk hv hr ih =>
    intro kvs s Q hd hsz hQ
    rw [List.length_cons] at hsz
    rw [List.forIn_cons]
    refine wpAny_bind (wpAny_bind (hk _ _ _ _ ?_))
    refine wpAny_bind (wpAny_holding (hv _ _ _ _ ?_))
    refine wpAny_bind (wpAny_holding (wpAny_dictSet_pairs (knd := strKind prog w) (k := x) (hsz := by omega) (by exact beq_self_eq_true x) hd fun h' hd' hs' => wpAny_pure ?_))
    refine ih hd' (Nat.le_trans (Nat.add_le_add_right (stored_length_le _ _ _) _) (by omega)) fun h'' tk more hm hd'' hs'' => ?_
    exact hQ h'' tk ((x, _) :: more) (.cons hm) hd'' (hs'.trans hs'')

theorem evalPairs_str {ps : List (Sem Value × Sem Value)} {xs : List (Str × Str)} (hp : StrPairs (model prog w) ps xs) :
    ∀ {s : Shared} {Q : List (Value × Value) → Shared → Prop}, 
    (∀ tk vs more, StrVals more xs → Carries (strKind prog w) vs more → Q vs { s with toks := tk }) →
    wpAny (model prog w) A (evalPairs ps) Q E s := by
  induction hp with
  | nil =>
    intro s Q hQ
    exact wpAny_pure (hQ s.toks [] [] .nil trivial)
  | @cons k v x y ps xs hk hv hr ih =>
    intro s Q hQ
    rw [evalPairs]
    refine wpAny_bind (hk _ _ _ _ ?_)
    refine wpAny_bind (wpAny_holding (hv _ _ _ _ ?_))
    refine wpAny_bind (wpAny_holding (ih fun tk vs more hm hc => wpAny_pure ?_))
    exact hQ tk _ ((x, _) :: more) (.cons hm) ⟨by exact beq_self_eq_true x, rfl, hc⟩

theorem subDict_str {ps : List (Sem Value × Sem Value)} {xs : List (Str × Str)} (hp : StrPairs (model prog w) ps xs) {Q : Addr → Shared → Prop} (hsz : xs.length ≤ sizeLine)
    (hQ : ∀ h' tk more, StrVals more xs → h'.DictOf (strKind prog w) s.heap.objs.size (merged [] more) → Heap.SameBut s.heap.objs.size (s.heap.push { cls := .type "dict", data := .dict #[] }) h' → Q s.heap.objs.size { s with heap := h', toks := tk }) :
    wpAny (model prog w) A (subDict ps) Q E s := by
  by_cases hl : ps.length ≤ 15
  · refine wpAny_subDict (knd := strKind prog w) hl (evalPairs_str hp fun tk vs more hm hc => ⟨more, hc, Heap.DictOf.new s.heap, fun h' hd' hs' => hQ h' _ more hm hd' hs'⟩)
  · unfold subDict
    refine wpAny_bind (wpAny_alloc ?_)
    refine wpAny_bind (wpAny_holding ?_)
    rw [if_neg hl]
    refine wpAny_bind (wpAny_rule ?_)
    refine wpAny_bind (long_loop hp (Heap.DictOf.new s.heap) (by simpa using hsz) fun h' tk more hm hd' hs' => wpAny_pure (wpAny_pure (hQ h' tk more hm hd' hs')))

theorem gather (f : (Option (Sem Value) × Sem Value) → (Option Addr × List (Sem Value × Sem Value)) → Sem (ForInStep (Option Addr × List (Sem Value × Sem Value)))) (main : Option Addr)
    (hf : ∀ (p : Sem Value × Sem Value) (run : List (Sem Value × Sem Value)), run.length + 1 < 17 → f (some p.1, p.2) (main, run) = pure (.yield (main, run ++ [p]))) :
    ∀ (items run : List (Sem Value × Sem Value)) (rest : List (Option (Sem Value) × Sem Value)), run.length + items.length < 17 →
      forIn (items.map (fun p => (some p.1, p.2)) ++ rest) (main, run) f = forIn rest (main, run ++ items) f
  | [], run, rest, _ => by simp
  | p :: items, run, rest, h => by
    rw [List.map_cons, List.cons_append, List.forIn_cons, hf p run (by simp at h; omega), pure_bind]
    have := gather f main hf items (run ++ [p]) rest (by simp at h ⊢; omega)
    simpa using this

theorem lt_of_get {h : Heap} {a : Addr} {o : Obj} (ho : h.get? a = some o) : a < h.objs.size := by
  rcases Nat.lt_or_ge a h.objs.size with hl | hl
  · exact hl
  · rw [Heap.get?_none_of_le hl] at ho; exact nomatch ho
theorem flush_next {d : Addr} {kvs : List (Str × Value)} {ps : List (Sem Value × Sem Value)} {xs : List (Str × Str)} (hd : s.heap.DictOf (strKind prog w) d kvs) (hne : kvs ≠ []) (hp : StrPairs (model prog w) ps xs)
    (hnd : (kvs.map (·.1) ++ xs.map (·.1)).Nodup) (hsz : kvs.length + xs.length ≤ sizeLine) (hbig : sysModules < s.heap.objs.size) {Q : Option Addr → Shared → Prop}
    (hQ : ∀ h' tk more, StrVals more xs → h'.DictOf (strKind prog w) d (kvs ++ more) → (∀ b o, b ≠ d → s.heap.get? b = some o → h'.get? b = some o) → sysModules < h'.objs.size → Q (some d) { s with heap := h', toks := tk }) :
    wpAny (model prog w) A (do
      let sub ← holding [.ref d] (subDict ps)
      (holding [.ref d, .ref sub] (mergeMapping d (.ref sub) false)).onRaise fun x => do let _ ← holding [.ref d, x] (runValue (.builtin "proto.let_go" {}))
      return some d) Q E s := by
  have hlt : d < s.heap.objs.size := by
    obtain ⟨o, es, ep, ho, _⟩ := hd
    exact lt_of_get ho
  refine wpAny_bind (wpAny_holding (subDict_str hp (by omega) fun h' tk more hm hsub hs => ?_))
  rw [merged_nil_of_nodup more (by rw [hm.keys]; exact (List.nodup_append.mp hnd).2.1)] at hsub
  have hd1 : h'.DictOf (strKind prog w) d kvs := (hd.push _).sameBut hs (Nat.ne_of_lt hlt)
  refine wpAny_bind (wpAny_onRaise (wpAny_holding (merge_K (Nat.ne_of_lt hlt) (beq_eq_false_iff_ne.mpr (Nat.ne_of_gt hbig)) hd1 hsub hne (by rw [hm.len]; exact hsz) fun h'' hd'' hs'' => wpAny_pure ?_)))
  rw [merged_append_of_fresh kvs more (by rw [List.map_append, hm.keys]; exact hnd)] at hd''
  refine hQ h'' tk more hm hd'' (fun b o hb ho => ?_) ?_
  · have hbl : b < s.heap.objs.size := lt_of_get ho
    rw [hs''.2 b hb, hs.2 b (Nat.ne_of_lt hbl)]
    exact Heap.get?_push_of_some _ ho
  · have e1 : h''.objs.size = h'.objs.size := hs''.1
    have e2 : h'.objs.size = s.heap.objs.size + 1 := by rw [hs.1]; simp
    show sysModules < h''.objs.size
    rw [e1, e2]; exact Nat.lt_succ_of_lt hbig

theorem disp_str {ps1 ps2 ps3 : List (Sem Value × Sem Value)} {q1 q2 : Sem Value × Sem Value} {xs1 xs2 xs3 : List (Str × Str)}
    (h1 : StrPairs (model prog w) (ps1 ++ [q1]) xs1) (h2 : StrPairs (model prog w) (ps2 ++ [q2]) xs2) (h3 : StrPairs (model prog w) ps3 xs3)
    (l1 : ps1.length = 16) (l2 : ps2.length = 16) (l3 : ps3.length < 17) (hne : ps3 ≠ []) (hnd : ((xs1 ++ xs2 ++ xs3).map (·.1)).Nodup) (hbig : sysModules < s.heap.objs.size) {Q : Value → Shared → Prop}
    (hQ : ∀ h' tk more, StrVals more (xs1 ++ xs2 ++ xs3) → h'.DictOf (strKind prog w) s.heap.objs.size more → (∀ b o, s.heap.get? b = some o → h'.get? b = some o) → Q (.ref s.heap.objs.size) { s with heap := h', toks := tk }) :
    wpAny (model prog w) A (dictDisplay ((ps1 ++ [q1] ++ (ps2 ++ [q2]) ++ ps3).map fun p => (some p.1, p.2))) Q E s := by
  have n1 : xs1.length = 17 := by have := h1.len; simp [l1] at this; omega
  have n2 : xs2.length = 17 := by have := h2.len; simp [l2] at this; omega
  have n3 : xs3.length < 17 := by have := h3.len; omega
  have hsl : 100 ≤ sizeLine := by rw [sizeLine_eq]; decide
  rw [List.map_append, List.map_append] at hnd
  have hnd12 := (List.nodup_append.mp hnd).1
  have hnd1 := (List.nodup_append.mp hnd12).1
  unfold dictDisplay
  dsimp only
  rw [List.map_append, List.map_append, List.map_append, List.append_assoc, List.append_assoc]
  rw [gather _ none (fun p run h => by
    have hne : ((run ++ [(p.1, p.2)]).length == 17) = false := by simp; omega
    simp only [hne, Bool.false_eq_true, if_false]) ps1 [] _ (by simp [l1])]
  rw [List.map_cons, List.map_nil, List.cons_append, List.nil_append, List.forIn_cons]
  refine wpAny_bind (wpAny_bind ?_)
  dsimp only [List.nil_append]
  rw [if_pos (by simp [l1]), if_neg (by simp)]
  refine wpAny_bind (wpAny_bind (subDict_str h1 (by omega) fun h' tk m1 v1 d1 s1 => wpAny_pure (wpAny_pure ?_)))
  dsimp only
  rw [merged_nil_of_nodup m1 (by rw [v1.keys]; exact hnd1)] at d1
  rw [List.map_append, List.append_assoc]
  rw [gather _ (some _) (fun p run h => by
    have hne : ((run ++ [(p.1, p.2)]).length == 17) = false := by simp; omega
    simp only [hne, Bool.false_eq_true, if_false]) ps2 [] _ (by simp [l2])]
  rw [List.map_cons, List.map_nil, List.cons_append, List.nil_append, List.forIn_cons]
  refine wpAny_bind ?_
  dsimp only [List.nil_append]
  rw [if_pos (by simp [l2]), if_neg (by simp)]
  have b1 : h'.objs.size = s.heap.objs.size + 1 := by rw [s1.1]; simp
  refine wpAny_bind (flush_next d1 (by intro e; rw [e] at v1; have := v1.len; simp [n1] at this) h2 (by rw [v1.keys]; exact hnd12) (by rw [v1.len]; omega) (by show sysModules < h'.objs.size; rw [b1]; exact Nat.lt_succ_of_lt hbig) fun h2' tk2 m2 v2 d2 k2 b2 => wpAny_pure ?_)
  dsimp only
  rw [← List.append_nil (List.map (fun p => (some p.1, p.2)) ps3)]
  rw [gather _ (some _) (fun p run h => by
    have hne : ((run ++ [(p.1, p.2)]).length == 17) = false := by simp; omega
    simp only [hne, Bool.false_eq_true, if_false]) ps3 [] _ (by simpa using l3)]
  rw [List.forIn_nil]
  refine wpAny_pure ?_
  dsimp only [List.nil_append]
  rw [if_neg (by simp [hne])]
  have c1 := v1.len
  have c2 := v2.len
  refine wpAny_bind (flush_next d2 (by intro e; have := congrArg List.length e; simp [c1, n1] at this) h3 (by rw [List.map_append, v1.keys, v2.keys]; exact hnd) (by rw [List.length_append, c1, c2]; omega) b2 fun h3' tk3 m3 v3 d3 k3 b3 => wpAny_pure ?_)
  refine hQ h3' tk3 _ ((v1.app v2).app v3) d3 (fun b o ho => ?_)
  have hb : b ≠ s.heap.objs.size := Nat.ne_of_lt (lt_of_get ho)
  refine k3 b o hb (k2 b o hb ?_)
  show h'.get? b = some o
  rw [s1.2 b hb]
  exact Heap.get?_push_of_some _ ho

inductive StrItems : List (Option Expr) → List Expr → List (Str × Str) → Prop
  | nil : StrItems [] [] []
  | cons {k v : Str} {i j : Nat} {p q : Pos} {ks : List (Option Expr)} {vs : List Expr} {xs : List (Str × Str)} : StrItems ks vs xs → StrItems (some (.Constant (.str k) i p) :: ks) (.Constant (.str v) j q :: vs) ((k, v) :: xs)
theorem strItems_pairs {env : Env} {pos : Pos} {keys : List (Option Expr)} {values : List Expr} {xs : List (Str × Str)} (h : StrItems keys values xs) :
    StrPairs (model prog w) (pairTrees keys values env pos) xs ∧ keys.all (·.isSome) = true ∧ keys.length = values.length := by
  induction h with
  | nil => exact ⟨.nil, rfl, rfl⟩
  | cons _ ih =>
    obtain ⟨a, b, c⟩ := ih
    refine ⟨.cons (fun A E Q s hq => Constant_str hq) (fun A E Q s hq => wpAny_bind (Constant_str (wpAny_bind (wpAny_standAt (wpAny_pure hq))))) a, ?_, ?_⟩
    · simpa using b
    · simpa using c
theorem StrPairs.take {M : Model} {ps xs} (h : StrPairs M ps xs) : ∀ n, StrPairs M (ps.take n) (xs.take n) := by
  induction h with
  | nil => intro n; simp; exact .nil
  | cons a b _ ih =>
    intro n
    cases n with
    | zero => exact .nil
    | succ n => exact .cons a b (ih n)
theorem StrPairs.drop {M : Model} {ps xs} (h : StrPairs M ps xs) : ∀ n, StrPairs M (ps.drop n) (xs.drop n) := by
  induction h with
  | nil => intro n; simp; exact .nil
  | @cons k v x y ps xs a b c ih =>
    intro n
    cases n with
    | zero => exact .cons a b c
    | succ n => exact ih n
theorem take17 {α : Type} (l : List α) (h : 17 ≤ l.length) : ∃ a q, l.take 17 = a ++ [q] ∧ a.length = 16 :=
  ⟨l.take 16, l[16]'(by omega), by rw [List.take_append_getElem], by simp; omega⟩
theorem Dict_long {keys : List (Option Expr)} {values : List Expr} {pos : Pos} {env : Env} {xs : List (Str × Str)} (hx : StrItems keys values xs) (l1 : 34 < xs.length) (l2 : xs.length < 51)
    (hnd : (xs.map (·.1)).Nodup) (hbig : sysModules < s.heap.objs.size) {Q : Value → Shared → Prop}
    (hQ : ∀ h' tk more, StrVals more xs → h'.DictOf (strKind prog w) s.heap.objs.size more → (∀ b o, s.heap.get? b = some o → h'.get? b = some o) → Q (.ref s.heap.objs.size) { s with heap := h', toks := tk }) :
    wpAny (model prog w) A (eval (.Dict keys values pos) env) Q E s := by
  obtain ⟨hp, ha, hl⟩ := strItems_pairs (prog := prog) (w := w) (env := env) (pos := pos) hx
  rw [arm_eval_Dict, zip_pairTrees keys values env pos ha hl]
  refine wpAny_bind (wpAny_standAt ?_)
  generalize pairTrees keys values env pos = ps at hp
  have hn := hp.len
  obtain ⟨a1, q1, e1, n1⟩ := take17 ps (by omega)
  obtain ⟨a2, q2, e2, n2⟩ := take17 (ps.drop 17) (by simp; omega)
  have hps : ps = a1 ++ [q1] ++ (a2 ++ [q2]) ++ (ps.drop 17).drop 17 := by
    rw [← e1, ← e2, List.append_assoc, List.take_append_drop, List.take_append_drop]
  have hxs : xs = xs.take 17 ++ (xs.drop 17).take 17 ++ (xs.drop 17).drop 17 := by
    rw [List.append_assoc, List.take_append_drop, List.take_append_drop]
  have g3 : ((ps.drop 17).drop 17).length < 17 := by simp; omega
  have g4 : (ps.drop 17).drop 17 ≠ [] := by intro e; have := congrArg List.length e; simp at this; omega
  have H1 := hp.take 17
  have H2 := (hp.drop 17).take 17
  have H3 := (hp.drop 17).drop 17
  rw [e1] at H1
  rw [e2] at H2
  rw [hps]
  refine disp_str H1 H2 H3 n1 n2 g3 g4 (by rw [← hxs]; exact hnd) hbig ?_
  rw [← hxs]
  exact hQ

theorem Dict_long_K {h₀ : Heap} {L : Addr} {m : Str → Option Value} {news : List (Addr × Obj)} {keys : List (Option Expr)} {values : List Expr} {pos : Pos} {env : Env} {xs : List (Str × Str)} {Q : Value → Shared → Prop}
    (F : Fr h₀ L s.heap m) (N : News h₀ L s.heap news) (hbig : h₀.NoLimit) (hx : StrItems keys values xs) (l1 : 34 < xs.length) (l2 : xs.length < 51)
    (hnd : (xs.map (·.1)).Nodup) (k : ∀ d h' o kvs tk, Fr h₀ L h' m → News h₀ L h' ((d, o) :: news) → (∀ p ∈ news, p.1 < d) → (d == sysModules) = false → o.IsDictOf (strKind prog w) kvs → StrVals kvs xs → Q (.ref d) { s with heap := h', toks := tk }) :
    wpAny (model prog w) A (eval (.Dict keys values pos) env) Q E s := by
  obtain ⟨oL, a1, a2, hL, a3⟩ := F.ns
  have hlt : L < s.heap.objs.size := lt_of_get hL
  have hm := modules_low hbig
  have hsz : h₀.objs.size ≤ s.heap.objs.size := Nat.le_trans F.above (Nat.le_of_lt hlt)
  have hb : sysModules < s.heap.objs.size := Nat.lt_of_lt_of_le hm hsz
  refine Dict_long hx l1 l2 hnd hb fun h' tk more hv hd hk => ?_
  obtain ⟨o, ho, hdo⟩ := Heap.dictOf_iff.mp hd
  refine k _ h' o more tk ⟨⟨oL, a1, a2, hk _ _ hL, a3⟩, fun b ob e => hk _ _ (F.keep b ob e), F.above⟩ ?_ (fun p hp => lt_of_get (N p hp).1) (beq_eq_false_iff_ne.mpr (Nat.ne_of_gt hb)) hdo hv
  intro p hp
  rcases List.mem_cons.mp hp with rfl | hp
  · exact ⟨ho, Nat.ne_of_gt hlt, Heap.get?_none_of_le hsz⟩
  · exact ⟨hk _ _ (N p hp).1, (N p hp).2⟩
end
end Mine
end

section
open PySem PySem.W PySem.Spec PySem.Calls PyProof.Rows
set_option Elab.async false
set_option maxRecDepth 100000
set_option maxHeartbeats 4000000
namespace Mine
noncomputable def shapeL : List (Str × Str) := [(Str.ofString "get_variable", Str.ofString "RX"), (Str.ofString "get_value", Str.ofString "RX"), (Str.ofString "get_constant", Str.ofString "CX"), (Str.ofString "get_list", Str.ofString "X"), (Str.ofString "get_structure", Str.ofString "FX"), (Str.ofString "unify_variable", Str.ofString "R"), (Str.ofString "unify_value", Str.ofString "R"), (Str.ofString "unify_local_value", Str.ofString "R"), (Str.ofString "unify_constant", Str.ofString "C"), (Str.ofString "unify_void", Str.ofString "N"), (Str.ofString "put_variable", Str.ofString "RX"), (Str.ofString "put_void", Str.ofString "X"), (Str.ofString "put_value", Str.ofString "RX"), (Str.ofString "put_unsafe_value", Str.ofString "YX"), (Str.ofString "put_constant", Str.ofString "CX"), (Str.ofString "put_list", Str.ofString "X"), (Str.ofString "put_structure", Str.ofString "FX"), (Str.ofString "set_variable", Str.ofString "R"), (Str.ofString "set_value", Str.ofString "R"), (Str.ofString "set_local_value", Str.ofString "R"), (Str.ofString "set_constant", Str.ofString "C"), (Str.ofString "set_void", Str.ofString "N"), (Str.ofString "allocate", Str.ofString "N"), (Str.ofString "deallocate", Str.ofString ""), (Str.ofString "call", Str.ofString "FN"), (Str.ofString "execute", Str.ofString "F"), (Str.ofString "proceed", Str.ofString ""), (Str.ofString "builtin", Str.ofString "F"), (Str.ofString "neck_cut", Str.ofString ""), (Str.ofString "get_level", Str.ofString "R"), (Str.ofString "mark", Str.ofString "R"), (Str.ofString "cut_to", Str.ofString "R"), (Str.ofString "fail", Str.ofString ""), (Str.ofString "halt", Str.ofString ""), (Str.ofString "try", Str.ofString "LN"), (Str.ofString "retry", Str.ofString "L"), (Str.ofString "trust", Str.ofString "L"), (Str.ofString "switch_on_term", Str.ofString "LLLL"), (Str.ofString "switch_on_constant", Str.ofString "TL"), (Str.ofString "switch_on_structure", Str.ofString "UL"), (Str.ofString "meta_call", Str.ofString "N"), (Str.ofString "catch_push", Str.ofString ""), (Str.ofString "catch_exit", Str.ofString "Y"), (Str.ofString "catch_fail", Str.ofString ""), (Str.ofString "dyn_retry", Str.ofString "")]
theorem shapeN : (shapeL.map (·.1)).Nodup := by decide +kernel
theorem fille1 : True ∨ (PySem.Challenge.rw_sa0151_01 = PySem.Challenge.rw_sa0151_01 ∧ hd.heap_1 = hd.heap_1) := by
  k_fill
  exact .inl trivial
/-- a dict of many texts is made -/
theorem EvT.dictL {w : World} {F : Fn} {Γ : Cx w F} {lc : Lcs} {P : Led → Prop} {keys : List (Option PX)} {values : List PX} {pos : Pos} {xs : List (Str × Str)} (hx : StrItems keys values xs) (l1 : 34 < xs.length) (l2 : xs.length < 51) (hnd : (xs.map (·.1)).Nodup) :
    EvT Γ lc P (.Dict keys values pos) (fun v P' => ∃ d o kvs, v = .ref d ∧ (d == sysModules) = false ∧ o.IsDictOf (strKind PR w) kvs ∧ StrVals kvs xs ∧ P' = fun n => ∃ n0, n = (d, o) :: n0 ∧ P n0 ∧ ∀ p ∈ n0, p.1 < d) := by
  intro s Q E S q
  obtain ⟨⟨m, Fm, hm⟩, n, N, hP⟩ := S
  exact Dict_long_K Fm N Γ.T.nolimit hx l1 l2 hnd fun d h' o kvs tk F' N' hl hlo hd hs => q _ _ h' tk ⟨d, o, kvs, rfl, hlo, hd, hs, rfl⟩ ⟨⟨m, F', hm⟩, _, N', n, rfl, hP, hl⟩
theorem shapes_core (w : World) (rest : Led) : Spec w 173 8 400 [] rest (fun res nn => ∃ d o kvs, res = .ref d ∧ nn = (d, o) :: rest ∧ (∀ p ∈ rest, p.1 < d) ∧ (d == sysModules) = false ∧ o.IsDictOf (strKind PySem.Challenge.rw_sa0151_01.row.prog w) kvs ∧ StrVals kvs shapeL) := by
  refine (?_ : ∀ n, n = rest → Spec w 173 8 400 [] n (fun res nn => ∃ d o kvs, res = .ref d ∧ nn = (d, o) :: rest ∧ (∀ p ∈ rest, p.1 < d) ∧ (d == sysModules) = false ∧ o.IsDictOf (strKind PySem.Challenge.rw_sa0151_01.row.prog w) kvs ∧ StrVals kvs shapeL)) rest rfl
  refine' Spec.body (lc := []) ?k6 ?k7 ?k9 ?kB ?c2 ?c3 ?c4 ?c5 ?hlc ?hd1 ?hu1 ?H
  case k6 => k_is
  case k7 => k_is
  case k9 => exact rfl
  case kB => exact rfl
  case c2 => exact rfl
  case c3 => exact rfl
  case c4 => exact rfl
  case c5 => decide
  case hlc => exact trivial
  case hd1 => exact rfl
  case hu1 => exact rfl
  intro Γ hroom
  refine @Ex.retT _ _ _ _ _ _ _ _ _ _ (.dictL (xs := shapeL) ?x ?l1 ?l2 ?n) ?_
  case l1 => exact Nat.le_of_ble_eq_true rfl
  case l2 => exact Nat.le_of_ble_eq_true rfl
  case n => exact shapeN
  case x => repeat (first | exact .nil | refine .cons ?_)
  rintro v P' ⟨d, o, kvs, e, h1, h2, h3, rfl⟩ n ⟨n0, rfl, rfl, hl⟩
  exact ⟨d, o, kvs, e, rfl, hl, h1, h2, h3⟩
end Mine
end

section
open PySem PySem.W PySem.Spec PySem.Calls PyProof.Rows
set_option Elab.async false
set_option maxRecDepth 100000
set_option maxHeartbeats 4000000
namespace Mine
theorem fille2 : True ∨ (PySem.Challenge.rw_sa0151_01 = PySem.Challenge.rw_sa0151_01 ∧ hd.heap_1 = hd.heap_1) := by
  k_fill
  exact .inl trivial
section
variable {w : World} {F : Fn} {Γ : Cx w F} {lc : Lcs} {P : Led → Prop} {R : RX}
/-- a name of the builtins -/
theorem Ev.blt {x : Str} {pos : Pos} {v : Value} (hb9 : nsIn (hd.heap_1 w.params) mainGlobals x = some none) (hv : bootBuiltins x = some v) (hn : x ≠ "__name__") (hk : autoParam (Γ.env.kindOf x = some .globalImplicit) rfl9) (hd9 : autoParam ((x == "__debug__") = false) deck9) : Ev Γ lc P (.Name x pos) (fun u => u = v) := by
  intro s Q E S q
  obtain ⟨⟨m, Fm, hm⟩, n, N, hP⟩ := S
  exact nameX_B Fm Γ.X (topRead_of Γ.T) hb9 hv hn (q v s.heap s.toks rfl ⟨⟨m, Fm, hm⟩, n, N, hP⟩) Γ.hk hk hd9
/-- isinstance(e, T) -/
theorem Ev.isi {e eT : PX} {np pos : Pos} {V : Value → Prop} {T : String} {c : Bool} (he : Ev Γ lc P e V) (hT : Ev Γ lc P eT (fun u => u = .type T))
    (hop : ∀ v, V v → ∀ (s : Shared) Q E, St Γ s.heap lc P → (∀ tk, Q (.bool c) { s with toks := tk }) → wpAny (model PR w) Γ.A (call (.builtin "isinstance") [v, .type T]) Q E s)
    (hb9 : autoParam (nsIn (hd.heap_1 w.params) mainGlobals (Str.ofString "isinstance") = some none) krn9) (hk : autoParam (Γ.env.kindOf (Str.ofString "isinstance") = some .globalImplicit) rfl9) (hst : autoParam (starEach [e, eT] Γ.env = (false, eval e Γ.env) :: starEach [eT] Γ.env) rfl9) (hst' : autoParam (starEach [eT] Γ.env = (false, eval eT Γ.env) :: starEach [] Γ.env) rfl9) (hany : autoParam (((backTo pos (starEach [eT] Γ.env)).any fun x => x.1) = false) rfl9)
    (hcall : autoParam (callIs (Str.ofString "isinstance") np pos [e, eT] Γ.env) rfl9) : Ev Γ lc P (.Call (.Name (Str.ofString "isinstance") np) [e, eT] [] pos) (Vl.b c).is := by
  intro s Q E S q
  obtain ⟨⟨m, Fm, hm⟩, n, N, hP⟩ := S
  refine Call_ (nameX_B (v := .builtin "isinstance") Fm Γ.X (topRead_of Γ.T) hb9 boot_isinstance (by decide +kernel) ?_ Γ.hk hk (by decide +kernel)) hcall
  refine callWith_builtin1 (EvL.two he hT hst hst' pos s _ E ⟨⟨m, Fm, hm⟩, n, N, hP⟩ fun vs h2 t2 ⟨v, v', e1, hv, e2⟩ S2 => ?_) hst hany
  subst e1 e2
  exact hop v hv _ _ _ S2 fun tk => q _ h2 tk rfl S2
theorem Ev.notB {e : PX} {pos : Pos} {b : Bool} (he : Ev Γ lc P e (Vl.b b).is) : Ev Γ lc P (.UnaryOp .Not e pos) (Vl.b (!b)).is := fun s Q E S q => wpAny_UnaryOp (he s _ E S fun v h t e S' => by
  have e' : v = .bool b := e
  subst e'
  exact not_of (wpAny_truthy_bool (q _ h t rfl S')))
theorem Ev.and1 {e : PX} {op : BoolOp} {pos : Pos} {V : Value → Prop} (h : Ev Γ lc P e V) : Ev Γ lc P (.BoolOp op [e] pos) V := fun s Q E S q => BoolOp_one (h s Q E S q)
theorem Ev.and {e e' : PX} {r : List PX} {pos : Pos} {V : Value → Prop} (h : Ev Γ lc P e (Vl.b true).is) (h' : Ev Γ lc P (.BoolOp .And (e' :: r) pos) V) : Ev Γ lc P (.BoolOp .And (e :: e' :: r) pos) V := fun s Q E S q => BoolOp_and (h s _ E S fun v h1 t1 e S1 => by
  have e' : v = .bool true := e
  subst e'
  exact wpAny_truthy_bool (h' _ Q E S1 fun v h2 t2 hv S2 => q v h2 t2 hv S2))
theorem Ev.orT {e e' : PX} {r : List PX} {pos : Pos} (h : Ev Γ lc P e (Vl.b true).is) : Ev Γ lc P (.BoolOp .Or (e :: e' :: r) pos) (Vl.b true).is := fun s Q E S q => BoolOp_or (h s _ E S fun v h1 t1 e S1 => by
  have e' : v = .bool true := e
  subst e'
  exact wpAny_truthy_bool (q _ h1 t1 rfl S1))
theorem Ev.geI {a b : PX} {pos : Pos} {x y : Int} (ha : Ev Γ lc P a (Vl.i x).is) (hb : Ev Γ lc P b (Vl.i y).is) : Ev Γ lc P (.Compare a [.GtE] [b] pos) (Vl.b (decide (y ≤ x))).is := by
  intro s Q E S q
  refine wpAny_Compare1 (ha s _ E S fun v1 h1 t1 ⟨t, e⟩ S1 => hb _ _ E S1 fun v2 h2 t2 ⟨t', e'⟩ S2 => ?_) (marks _ _ rfl)
  subst e e'
  exact ge_int (q _ h2 t2 rfl S2)
/-- x in names, a tuple of texts -/
theorem Ev.inS {a : PX} {b : Str} {bp pos : Pos} {x : Str} {D : Addr} {ys : List Str} (ha : Ev Γ lc P a (Vl.s x).is) (hb : (b, Vl.r D) ∈ lc) (hm : ∀ n, P n → ∃ vs, (D, tupOf vs) ∈ n ∧ StrsAre vs ys) (hk : autoParam (Γ.env.kindOf b = some .local) rfl9) (hd9 : autoParam ((b == "__debug__") = false) rfl9) : Ev Γ lc P (.Compare a [.In] [.Name b bp] pos) (Vl.b (ys.any (· == x))).is := by
  intro s Q E S q
  refine wpAny_Compare1 (ha s _ E S fun v1 h1 t1 ⟨t, e⟩ S1 => Ev.name hb hk hd9 _ _ E S1 fun v2 h2 t2 e' S2 => ?_) rfl
  have e2 : v2 = .ref D := e'
  subst e e2
  obtain ⟨⟨m, Fm, hml⟩, n, N, hP⟩ := S2
  obtain ⟨vs, h1, h2'⟩ := hm n hP
  exact in_tuple_strs (News.isTup N h1) h2' (q _ h2 t2 rfl ⟨⟨m, Fm, hml⟩, n, N, hP⟩)
/-- a call of a pure first and a made second argument -/
theorem EvT.callT2 {fn : Str} {np pos : Pos} {f : Addr} {dp un : Nat} {e e' : PX} {V : Value → Prop} {RV : Value → (Led → Prop) → Prop} {post : Value → Led → Prop} (hf : nsIn (hd.heap_1 w.params) mainGlobals fn = some (some (.ref f))) (hkeep : keepIn (hd.heap_1 w.params) (.ref f) = true)
    (he : Ev Γ lc P e V) (he' : EvT Γ lc P e' RV) (spec : ∀ v v' P', V v → RV v' P' → ∀ n, P' n → Spec w f dp un [v, v'] n post) (hroom : Γ.room dp un) (hk : autoParam (Γ.env.kindOf fn = some .globalImplicit) rfl9) (hd9 : autoParam ((fn == "__debug__") = false) deck9)
    (hst : autoParam (starEach [e, e'] Γ.env = (false, eval e Γ.env) :: starEach [e'] Γ.env) rfl9) (hst' : autoParam (starEach [e'] Γ.env = (false, eval e' Γ.env) :: starEach [] Γ.env) rfl9) (hany : autoParam (((backTo pos (starEach [e'] Γ.env)).any fun x => x.1) = false) rfl9)
    (hcall : autoParam (callIs fn np pos [e, e'] Γ.env) rfl9) : EvT Γ lc P (.Call (.Name fn np) [e, e'] [] pos) (fun v P' => P' = fun n => post v n) := by
  intro s Q E S q
  obtain ⟨⟨m, Fm, hm⟩, news, N, hP⟩ := S
  refine Call_ (nameX_K Fm Γ.X (topRead_of Γ.T) hf ?_ Γ.hk hk hd9) hcall
  refine callWith_K Γ.X hkeep (args_cons (he s _ E ⟨⟨m, Fm, hm⟩, news, N, hP⟩ fun v h1 t1 hv S1 => args_cons (he' _ _ E S1 fun v' P' h2 t2 hv' S2 => args_nil ⟨?_, ?_⟩) hst') hst) hst hany
  · obtain ⟨m', F', _⟩ := S2.lc
    exact Γ.X.keeps F'.keep
  · exact spec_ev (spec v v' P' hv hv') hroom S2 fun v h2 t2 S2 => q v _ h2 t2 rfl S2
theorem Ev.call1 {fn : Str} {np pos : Pos} {f : Addr} {dp un : Nat} {e : PX} {V V' : Value → Prop} (hf : nsIn (hd.heap_1 w.params) mainGlobals fn = some (some (.ref f))) (hkeep : keepIn (hd.heap_1 w.params) (.ref f) = true) (he : Ev Γ lc P e V) (spec : ∀ v, V v → ∀ n, P n → Spec w f dp un [v] n (fun r n' => V' r ∧ P n')) (hroom : Γ.room dp un)
    (hk : autoParam (Γ.env.kindOf fn = some .globalImplicit) rfl9) (hd9 : autoParam ((fn == "__debug__") = false) deck9) (hst : autoParam (starEach [e] Γ.env = (false, eval e Γ.env) :: starEach [] Γ.env) rfl9) (hcall : autoParam (callIs fn np pos [e] Γ.env) rfl9) : Ev Γ lc P (.Call (.Name fn np) [e] [] pos) V' :=
  .ofT (EvT.call (dp := dp) (un := un) hf hk hd9 hkeep (.cons he .nil hst) hst rfl hcall (fun vs ⟨v, r, e1, hv, e2⟩ n hn => by subst e1 e2; exact spec v hv n hn) hroom) fun v P' e n hn => by subst e; exact ⟨hn.1, n, hn.2, fun _ h => h⟩
end
theorem whole_q {w : World} {P : Led → Prop} {i : Int} {t : Tok} : ∀ n, P n → Spec w 180 2 100 [.int i t] n (fun r n' => (Vl.b true).is r ∧ P n') := by
  refine' Spec.body (lc := [(Str.ofString "value", .i i)]) ?k6 ?k7 ?k9 ?kB ?c2 ?c3 ?c4 ?c5 ?hlc ?hd1 ?hu1 ?H
  case k6 => k_is
  case k7 => k_is
  case k9 => exact rfl
  case kB => exact rfl
  case c2 => exact rfl
  case c3 => exact rfl
  case c4 => exact rfl
  case c5 => decide
  case hlc => exact ⟨⟨_, rfl, _, rfl⟩, trivial⟩
  case hd1 => exact rfl
  case hu1 => exact rfl
  intro Γ hroom
  exact .ret (.and (.isi (.name (v := .i i) (.head _) rfl rfl) (.blt (v := .type "int") (by kernel_rfl!) (by kernel_rfl!) (by decide +kernel)) fun v ⟨t, e⟩ s Q E _ q => by subst e; exact IsiPair.int_int (q _)) (.and1 (.notB (b := false) (.isi (.name (v := .i i) (.head _) rfl rfl) (.blt (v := .type "bool") (by kernel_rfl!) (by kernel_rfl!) (by decide +kernel)) fun v ⟨t, e⟩ s Q E _ q => by subst e; exact IsiPair.int_bool (q _))))) fun v hv n hn => ⟨hv, hn⟩
theorem pair_q {w : World} {P : Led → Prop} {a : Addr} {v0 v1 : Value} (hP : ∀ n, P n → (a, tupOf [v0, v1]) ∈ n) : ∀ n, P n → Spec w 187 2 100 [.ref a] n (fun r n' => (Vl.b true).is r ∧ P n') := by
  refine' Spec.body (lc := [(Str.ofString "value", .r a)]) ?k6 ?k7 ?k9 ?kB ?c2 ?c3 ?c4 ?c5 ?hlc ?hd1 ?hu1 ?H
  case k6 => k_is
  case k7 => k_is
  case k9 => exact rfl
  case kB => exact rfl
  case c2 => exact rfl
  case c3 => exact rfl
  case c4 => exact rfl
  case c5 => decide
  case hlc => exact ⟨⟨_, rfl, rfl⟩, trivial⟩
  case hd1 => exact rfl
  case hu1 => exact rfl
  intro Γ hroom
  refine .ret (V := (Vl.b true).is) (.and (.isi (.name (v := .r a) (.head _) rfl rfl) (.blt (v := .type "tuple") (by kernel_rfl!) (by kernel_rfl!) (by decide +kernel)) fun v e s Q E S q => ?_) (.and1 (Ev.eqI (.lenT (.name (.head _) rfl rfl) hP (Nat.le_of_ble_eq_true rfl) rfl (by kernel_rfl!) rfl rfl rfl) .int))) fun v hv n hn => ⟨hv, hn⟩
  have e' : v = .ref a := e
  subst e'
  obtain ⟨_, n, N, hn⟩ := S
  exact IsiPair.tuple_tuple (News.get N (hP n hn)) rfl (q _)
theorem register_q {w : World} {P : Led → Prop} {a D : Addr} {y : Str} {i : Int} {t1 t2 : Tok} {ys : List Str} (hP : ∀ n, P n → (a, tupOf [.str y t1, .int i t2]) ∈ n) (hD : ∀ n, P n → ∃ vs, (D, tupOf vs) ∈ n ∧ StrsAre vs ys) (hy : ys.any (· == y) = true) (hi : 1 ≤ i) :
    ∀ n, P n → Spec w 194 4 150 [.ref a, .ref D] n (fun r n' => (Vl.b true).is r ∧ P n') := by
  refine' Spec.body (lc := [(Str.ofString "value", .r a), (Str.ofString "names", .r D)]) ?k6 ?k7 ?k9 ?kB ?c2 ?c3 ?c4 ?c5 ?hlc ?hd1 ?hu1 ?H
  case k6 => k_is
  case k7 => k_is
  case k9 => exact rfl
  case kB => exact rfl
  case c2 => exact rfl
  case c3 => exact rfl
  case c4 => exact rfl
  case c5 => decide
  case hlc => exact ⟨⟨_, rfl, rfl⟩, ⟨_, rfl, rfl⟩, trivial⟩
  case hd1 => exact rfl
  case hu1 => exact rfl
  intro Γ hroom
  have e1 : ∀ {p1 p2 p3 : Pos} {kn : Nat}, Ev Γ [(Str.ofString "value", .r a), (Str.ofString "names", .r D)] P (.Subscript (.Name (Str.ofString "value") p1) (.Constant (.int 1) kn p2) p3) (Vl.i i).is := (Ev.tup (j := 1) (.name (.head _) rfl rfl) .int hP (by decide) (by decide) rfl rfl (fun _ => rfl)).is ⟨_, rfl⟩
  have hg : decide ((1 : Int) ≤ i) = true := decide_eq_true hi
  refine .ret (V := (Vl.b true).is) (.and (.call1 (f := 187) (dp := 2) (un := 100) (by kernel_rfl!) (by kernel_rfl!) (.name (v := .r a) (.head _) rfl rfl) (fun v e n hn => ?_) (hroom.le (by decide) (by decide))) (.and (hy ▸ .inS ((Ev.tup (j := 0) (.name (.head _) rfl rfl) .int hP (by decide) (by decide) rfl rfl (fun _ => rfl)).is ⟨_, rfl⟩) (.tail _ (.head _)) hD) (.and (.call1 (f := 180) (dp := 2) (un := 100) (by kernel_rfl!) (by kernel_rfl!) e1 (fun v ⟨t, e⟩ n hn => by subst e; exact whole_q n hn) (hroom.le (by decide) (by decide))) (.and1 (hg ▸ .geI e1 .int))))) fun v hv n hn => ⟨hv, hn⟩
  have e' : v = .ref a := e
  subst e'
  exact pair_q hP n hn
theorem constant_q {w : World} {P : Led → Prop} {a : Addr} {i : Int} {t1 t2 : Tok} (hP : ∀ n, P n → (a, tupOf [.int 5 t1, .int i t2]) ∈ n) : ∀ n, P n → Spec w 201 4 150 [.ref a] n (fun r n' => (Vl.b true).is r ∧ P n') := by
  refine' Spec.body (lc := [(Str.ofString "value", .r a)]) ?k6 ?k7 ?k9 ?kB ?c2 ?c3 ?c4 ?c5 ?hlc ?hd1 ?hu1 ?H
  case k6 => k_is
  case k7 => k_is
  case k9 => exact rfl
  case kB => exact rfl
  case c2 => exact rfl
  case c3 => exact rfl
  case c4 => exact rfl
  case c5 => decide
  case hlc => exact ⟨⟨_, rfl, rfl⟩, trivial⟩
  case hd1 => exact rfl
  case hu1 => exact rfl
  intro Γ hroom
  refine .ret (V := (Vl.b true).is) (.and (.call1 (f := 187) (dp := 2) (un := 100) (by kernel_rfl!) (by kernel_rfl!) (.name (v := .r a) (.head _) rfl rfl) (fun v e n hn => ?_) (hroom.le (by decide) (by decide))) (.and (.call1 (f := 180) (dp := 2) (un := 100) (V := (Vl.i i).is) (by kernel_rfl!) (by kernel_rfl!) ((Ev.tup (j := 1) (.name (.head _) rfl rfl) .int hP (by decide) (by decide) rfl rfl (fun _ => rfl)).is ⟨_, rfl⟩) (fun v ⟨t, e⟩ n hn => by subst e; exact whole_q n hn) (hroom.le (by decide) (by decide))) (.and1 (.orT (Ev.eqI (x := 5) (y := 5) ((Ev.tup (j := 0) (.name (.head _) rfl rfl) .int hP (by decide) (by decide) rfl rfl (fun _ => rfl)).is ⟨_, rfl⟩) ((Ev.glob (v := .int 5 _) (by rfl) rfl (by decide +kernel)).is ⟨_, rfl⟩)))))) fun v hv n hn => ⟨hv, hn⟩
  have e' : v = .ref a := e
  subst e'
  exact pair_q hP n hn
theorem functor_ok {w : World} {P : Led → Prop} {i : Int} {t : Tok} (hi : 0 ≤ i) : ∀ n, P n → Spec w 208 4 150 [.int i t] n (fun r n' => (Vl.b true).is r ∧ P n') := by
  refine' Spec.body (lc := [(Str.ofString "value", .i i)]) ?k6 ?k7 ?k9 ?kB ?c2 ?c3 ?c4 ?c5 ?hlc ?hd1 ?hu1 ?H
  case k6 => k_is
  case k7 => k_is
  case k9 => exact rfl
  case kB => exact rfl
  case c2 => exact rfl
  case c3 => exact rfl
  case c4 => exact rfl
  case c5 => decide
  case hlc => exact ⟨⟨_, rfl, _, rfl⟩, trivial⟩
  case hd1 => exact rfl
  case hu1 => exact rfl
  intro Γ hroom
  have hg : decide ((0 : Int) ≤ i) = true := decide_eq_true hi
  exact .ret (V := (Vl.b true).is) (.and (.call1 (f := 180) (dp := 2) (un := 100) (V := (Vl.i i).is) (by kernel_rfl!) (by kernel_rfl!) (.name (.head _) rfl rfl) (fun v ⟨t, e⟩ n hn => by subst e; exact whole_q n hn) (hroom.le (by decide) (by decide))) (.and1 (hg ▸ .geI (.name (.head _) rfl rfl) .int))) fun v hv n hn => ⟨hv, hn⟩
/-- is_register(value, ('x', ..)) -/
theorem Ev.isReg {w : World} {F : Fn} {Γ : Cx w F} {lc : Lcs} {P : Led → Prop} {v : Str} {np vp tp pos : Pos} {k : Nat} {es : List PX} {a : Addr} {y : Str} {i : Int} {t1 t2 : Tok} {ys : List Str} (hv : (v, Vl.r a) ∈ lc) (hP : ∀ n, P n → (a, tupOf [.str y t1, .int i t2]) ∈ n) (hes : EvL Γ lc P es (fun vs => StrsAre vs ys)) (hy : ys.any (· == y) = true) (hi : 1 ≤ i) (hroom : Γ.room 4 150) (hl : autoParam (ys.length ≤ 1000) ble9)
    (hkv : autoParam (Γ.env.kindOf v = some .local) rfl9) (hdv : autoParam ((v == "__debug__") = false) rfl9) (hk : autoParam (Γ.env.kindOf (Str.ofString "is_register") = some .globalImplicit) rfl9) (hcall : autoParam (callIs (Str.ofString "is_register") np pos [.Name v vp, .Tuple es k tp] Γ.env) rfl9) :
    Ev Γ lc P (.Call (.Name (Str.ofString "is_register") np) [.Name v vp, .Tuple es k tp] [] pos) (Vl.b true).is :=
  .ofT (.callT2 (f := 194) (dp := 4) (un := 150) (post := fun r n => (Vl.b true).is r ∧ ∃ n', P n' ∧ ∀ p ∈ n', p ∈ n) (by kernel_rfl!) (by kernel_rfl!) (.name hv hkv hdv) (.tuple hes fun vs h => by rw [strsAre_len h]; exact hl) (fun u u' P' e ⟨D, vs, e1, hs, e2⟩ n hn => by
    have e' : u = .ref a := e
    subst e' e1 e2
    exact (register_q (P := fun n => ∃ n0, n = (D, tupOf vs) :: n0 ∧ P n0) (fun n ⟨n0, e, h⟩ => by rw [e]; exact .tail _ (hP n0 h)) (fun n ⟨n0, e, h⟩ => ⟨vs, by rw [e]; exact .head _, hs⟩) hy hi n (let ⟨n0, e, h, _⟩ := hn; ⟨n0, e, h⟩)).conv (Nat.le_refl _) (Nat.le_refl _) (fun _ h => h) fun r n' ⟨h1, n0, e, h⟩ => ⟨n', ⟨h1, n0, h, fun p hp => by rw [e]; exact .tail _ hp⟩, fun _ h => h⟩) hroom hk (by decide +kernel) rfl rfl rfl hcall)
    fun v P' e n hn => by subst e; exact hn
section
variable {w : World} {a : Addr} {n : Int} {t1 t2 tk : Tok} {rest : Led}
theorem op_end {v : Value} {kd : Str} {tk : Tok} (h : ∀ n, n = rest → Spec w 236 8 300 [v, .str kd tk, .bool false] n (fun r n' => (Vl.b true).is r ∧ n' = rest)) : Spec w 236 8 300 [v, .str kd tk, .bool false] rest (fun res nn => res = .bool true ∧ nn = rest) := h rest rfl
theorem opR_core {y : Str} (hm : (a, tupOf [.str y t1, .int n t2]) ∈ rest) (hy : y = Str.ofString "x" ∨ y = Str.ofString "y") (h1 : 1 ≤ n) : Spec w 236 8 300 [.ref a, .str (Str.ofString "R") tk, .bool false] rest (fun res nn => res = .bool true ∧ nn = rest) := by
  refine op_end ?_
  have hy' : [Str.ofString "x", Str.ofString "y"].any (· == y) = true := by rcases hy with rfl | rfl <;> kernel_rfl!
  refine' Spec.body (lc := [(Str.ofString "value", .r a), (Str.ofString "kind", .s (Str.ofString "R")), (Str.ofString "linked", .b false)]) ?k6 ?k7 ?k9 ?kB ?c2 ?c3 ?c4 ?c5 ?hlc ?hd1 ?hu1 ?H
  case k6 => k_is
  case k7 => k_is
  case k9 => exact rfl
  case kB => exact rfl
  case c2 => exact rfl
  case c3 => exact rfl
  case c4 => exact rfl
  case c5 => decide
  case hlc => exact ⟨⟨_, rfl, rfl⟩, ⟨_, rfl, _, rfl⟩, ⟨_, rfl, rfl⟩, trivial⟩
  case hd1 => exact rfl
  case hu1 => exact rfl
  intro Γ hroom
  exact .ifT (.eqS (.name (.tail _ (.head _)) rfl rfl) .str) (by kernel_rfl!) (.ret (.isReg (.head _) (fun _ e => e ▸ hm) (.strs (.strs .strs0)) hy' h1 (hroom.le (by decide) (by decide))) fun v hv n hn => ⟨hv, hn⟩)
theorem opX_core (hm : (a, tupOf [.str (Str.ofString "x") t1, .int n t2]) ∈ rest) (h1 : 1 ≤ n) : Spec w 236 8 300 [.ref a, .str (Str.ofString "X") tk, .bool false] rest (fun res nn => res = .bool true ∧ nn = rest) := by
  refine op_end ?_
  refine' Spec.body (lc := [(Str.ofString "value", .r a), (Str.ofString "kind", .s (Str.ofString "X")), (Str.ofString "linked", .b false)]) ?k6 ?k7 ?k9 ?kB ?c2 ?c3 ?c4 ?c5 ?hlc ?hd1 ?hu1 ?H
  case k6 => k_is
  case k7 => k_is
  case k9 => exact rfl
  case kB => exact rfl
  case c2 => exact rfl
  case c3 => exact rfl
  case c4 => exact rfl
  case c5 => decide
  case hlc => exact ⟨⟨_, rfl, rfl⟩, ⟨_, rfl, _, rfl⟩, ⟨_, rfl, rfl⟩, trivial⟩
  case hd1 => exact rfl
  case hu1 => exact rfl
  intro Γ hroom
  refine .ifF (.eqS (.name (.tail _ (.head _)) rfl rfl) .str) (by kernel_rfl!) (.nilT ?_)
  exact .ifT (.eqS (.name (.tail _ (.head _)) rfl rfl) .str) (by kernel_rfl!) (.ret (.isReg (.head _) (fun _ e => e ▸ hm) (.strs .strs0) (by kernel_rfl!) h1 (hroom.le (by decide) (by decide))) fun v hv n hn => ⟨hv, hn⟩)
theorem opY_core (hm : (a, tupOf [.str (Str.ofString "y") t1, .int n t2]) ∈ rest) (h1 : 1 ≤ n) : Spec w 236 8 300 [.ref a, .str (Str.ofString "Y") tk, .bool false] rest (fun res nn => res = .bool true ∧ nn = rest) := by
  refine op_end ?_
  refine' Spec.body (lc := [(Str.ofString "value", .r a), (Str.ofString "kind", .s (Str.ofString "Y")), (Str.ofString "linked", .b false)]) ?k6 ?k7 ?k9 ?kB ?c2 ?c3 ?c4 ?c5 ?hlc ?hd1 ?hu1 ?H
  case k6 => k_is
  case k7 => k_is
  case k9 => exact rfl
  case kB => exact rfl
  case c2 => exact rfl
  case c3 => exact rfl
  case c4 => exact rfl
  case c5 => decide
  case hlc => exact ⟨⟨_, rfl, rfl⟩, ⟨_, rfl, _, rfl⟩, ⟨_, rfl, rfl⟩, trivial⟩
  case hd1 => exact rfl
  case hu1 => exact rfl
  intro Γ hroom
  refine .ifF (.eqS (.name (.tail _ (.head _)) rfl rfl) .str) (by kernel_rfl!) (.nilT (.ifF (.eqS (.name (.tail _ (.head _)) rfl rfl) .str) (by kernel_rfl!) (.nilT ?_)))
  exact .ifT (.eqS (.name (.tail _ (.head _)) rfl rfl) .str) (by kernel_rfl!) (.ret (.isReg (.head _) (fun _ e => e ▸ hm) (.strs .strs0) (by kernel_rfl!) h1 (hroom.le (by decide) (by decide))) fun v hv n hn => ⟨hv, hn⟩)
theorem opC_core (hm : (a, tupOf [.int 5 t1, .int n t2]) ∈ rest) : Spec w 236 8 300 [.ref a, .str (Str.ofString "C") tk, .bool false] rest (fun res nn => res = .bool true ∧ nn = rest) := by
  refine op_end ?_
  refine' Spec.body (lc := [(Str.ofString "value", .r a), (Str.ofString "kind", .s (Str.ofString "C")), (Str.ofString "linked", .b false)]) ?k6 ?k7 ?k9 ?kB ?c2 ?c3 ?c4 ?c5 ?hlc ?hd1 ?hu1 ?H
  case k6 => k_is
  case k7 => k_is
  case k9 => exact rfl
  case kB => exact rfl
  case c2 => exact rfl
  case c3 => exact rfl
  case c4 => exact rfl
  case c5 => decide
  case hlc => exact ⟨⟨_, rfl, rfl⟩, ⟨_, rfl, _, rfl⟩, ⟨_, rfl, rfl⟩, trivial⟩
  case hd1 => exact rfl
  case hu1 => exact rfl
  intro Γ hroom
  refine .ifF (.eqS (.name (.tail _ (.head _)) rfl rfl) .str) (by kernel_rfl!) (.nilT (.ifF (.eqS (.name (.tail _ (.head _)) rfl rfl) .str) (by kernel_rfl!) (.nilT (.ifF (.eqS (.name (.tail _ (.head _)) rfl rfl) .str) (by kernel_rfl!) (.nilT ?_)))))
  refine .ifT (.eqS (.name (.tail _ (.head _)) rfl rfl) .str) (by kernel_rfl!) (.ret (.call1 (f := 201) (dp := 4) (un := 150) (by kernel_rfl!) (by kernel_rfl!) (.name (v := .r a) (.head _) rfl rfl) (fun v e n hn => ?_) (hroom.le (by decide) (by decide))) fun v hv n hn => ⟨hv, hn⟩)
  have e' : v = .ref a := e
  subst e'
  exact constant_q (fun _ e => e ▸ hm) n hn
theorem opN_core {kd : Str} (hk : (kd == Str.ofString "R") = false ∧ (kd == Str.ofString "X") = false ∧ (kd == Str.ofString "Y") = false ∧ (kd == Str.ofString "C") = false ∧ (kd == Str.ofString "F" || (kd == Str.ofString "N" || false)) = true) (h1 : 0 ≤ n) : Spec w 236 8 300 [.int n t1, .str kd tk, .bool false] rest (fun res nn => res = .bool true ∧ nn = rest) := by
  refine op_end ?_
  refine' Spec.body (lc := [(Str.ofString "value", .i n), (Str.ofString "kind", .s kd), (Str.ofString "linked", .b false)]) ?k6 ?k7 ?k9 ?kB ?c2 ?c3 ?c4 ?c5 ?hlc ?hd1 ?hu1 ?H
  case k6 => k_is
  case k7 => k_is
  case k9 => exact rfl
  case kB => exact rfl
  case c2 => exact rfl
  case c3 => exact rfl
  case c4 => exact rfl
  case c5 => decide
  case hlc => exact ⟨⟨_, rfl, _, rfl⟩, ⟨_, rfl, _, rfl⟩, ⟨_, rfl, rfl⟩, trivial⟩
  case hd1 => exact rfl
  case hu1 => exact rfl
  intro Γ hroom
  refine .ifF (.eqS (.name (.tail _ (.head _)) rfl rfl) .str) hk.1 (.nilT (.ifF (.eqS (.name (.tail _ (.head _)) rfl rfl) .str) hk.2.1 (.nilT (.ifF (.eqS (.name (.tail _ (.head _)) rfl rfl) .str) hk.2.2.1 (.nilT (.ifF (.eqS (.name (.tail _ (.head _)) rfl rfl) .str) hk.2.2.2.1 (.nilT ?_)))))))
  exact .ifT (.row (.or (.eqS (.name (.tail _ (.head _)) rfl rfl) .str) fun _ => .or (.eqS (.name (.tail _ (.head _)) rfl rfl) .str) fun _ => .or0)) hk.2.2.2.2 (.ret (.call1 (f := 208) (dp := 4) (un := 150) (V := (Vl.i n).is) (by kernel_rfl!) (by kernel_rfl!) (.name (.head _) rfl rfl) (fun v ⟨t, e⟩ n hn => by subst e; exact functor_ok h1 n hn) (hroom.le (by decide) (by decide))) fun v hv n hn => ⟨hv, hn⟩)
end
end Mine
end

section
open PySem PySem.W PySem.Spec PySem.Calls PyProof.Rows PyProof.V
set_option Elab.async false
namespace Mine
noncomputable def CS.run (S : CS) (l : List Row) : CS := l.foldl CS.step S
noncomputable def Row.ends : Row → Bool
  | .execute _ => true | .proceed => true | _ => false
theorem run_cons (S : CS) (r : Row) (l : List Row) : S.run (r :: l) = (S.step r).run l := rfl
theorem run_nil (S : CS) : S.run [] = S := rfl
theorem step_le {S : CS} (h : ¬ 0 < S.due) (r : Row) : S.step r = S.step0 r := if_neg h
theorem step_none {S : CS} (h : 0 < S.due) {r : Row} (hf : r.fam? = none) : S.step r = S.complain := by unfold CS.step; rw [if_pos h, hf]
theorem read_due (S : CS) (r : Reg) : (S.read r).due = S.due := by unfold CS.read CS.complain; (repeat' split) <;> rfl
theorem write_due (S : CS) (r : Reg) : (S.write r).due = S.due := by unfold CS.write CS.complain; (repeat' split) <;> rfl
theorem args_due (S : CS) (f : Int) : (S.args f).due = S.due := by unfold CS.args CS.complain; (repeat' split) <;> rfl
theorem read_bad {S : CS} (r : Reg) (h : S.bad = true) : (S.read r).bad = true := by unfold CS.read CS.complain; (repeat' split) <;> first | rfl | exact h
theorem write_bad {S : CS} (r : Reg) (h : S.bad = true) : (S.write r).bad = true := by unfold CS.write CS.complain; (repeat' split) <;> first | rfl | exact h
theorem args_bad {S : CS} (f : Int) (h : S.bad = true) : (S.args f).bad = true := by unfold CS.args CS.complain; (repeat' split) <;> first | rfl | exact h
theorem left_bad {S : CS} (h : S.bad = true) : S.left.bad = true := by unfold CS.left CS.complain; (repeat' split) <;> first | rfl | exact h
theorem take_bad' {S : CS} (d : Int) (h : S.bad = true) : (S.take d).bad = true := by unfold CS.take CS.lower CS.complain; (repeat' split) <;> first | rfl | exact h
theorem read_en (S : CS) (r : Reg) : (S.read r).en = S.en := by unfold CS.read CS.complain; (repeat' split) <;> rfl
theorem write_en (S : CS) (r : Reg) : (S.write r).en = S.en := by unfold CS.write CS.complain; (repeat' split) <;> rfl
theorem args_en (S : CS) (f : Int) : (S.args f).en = S.en := by unfold CS.args CS.complain; (repeat' split) <;> rfl
theorem take_en (S : CS) (d : Int) : (S.take d).en = S.en := by unfold CS.take CS.lower CS.complain; (repeat' split) <;> rfl
theorem structA_bad {S : CS} (r : Row) (h : S.bad = true) : (S.structA r).bad = true := by
  unfold CS.structA; split <;> first | exact h | exact take_bad' _ h | exact take_bad' _ (read_bad _ h) | exact take_bad' _ (write_bad _ h)
theorem structA_en (S : CS) (r : Row) : (S.structA r).en = S.en := by
  unfold CS.structA; split <;> simp only [take_en, read_en, write_en]
theorem callT_bad {T : CS} (c : Int) (h : T.bad = true) : (callT T c).bad = true := by
  show (if T.size < 0 then T.complain else if T.size < c then T.complain else T).bad = true
  (repeat' split) <;> first | rfl | exact h
theorem callT_en (T : CS) (c : Int) : (callT T c).en = T.en := by
  show (if T.size < 0 then T.complain else if T.size < c then T.complain else T).en = T.en
  (repeat' split) <;> rfl
theorem left_en (S : CS) : S.left.en = S.en := by unfold CS.left CS.complain; (repeat' split) <;> rfl
theorem step0_bad {S : CS} (r : Row) (h : S.bad = true) : (S.step0 r).bad = true := by
  cases r with
  | getList i => exact read_bad _ h
  | getStructure i => exact read_bad _ h
  | getVariable r i => exact write_bad _ (read_bad _ h)
  | getValue r i => exact read_bad _ (read_bad _ h)
  | getConstant i => exact read_bad _ h
  | putValue r i => exact write_bad _ (read_bad _ h)
  | putUnsafe i => exact write_bad _ (read_bad _ h)
  | putVariable r i => exact write_bad _ (write_bad _ h)
  | putConstant i => exact write_bad _ h
  | putList i => exact write_bad _ h
  | putStructure i => exact write_bad _ h
  | putVoid i => exact write_bad _ h
  | cutTo r => exact read_bad _ h
  | mark r => exact write_bad _ h
  | getLevel r => exact write_bad _ h
  | call f c => exact callT_bad c (args_bad f h)
  | builtin f => exact args_bad _ h
  | execute f => exact args_bad _ (left_bad h)
  | allocate => exact left_bad h
  | neckCut => exact h
  | deallocate =>
    show (if S.size < 0 then S.complain else S).bad = true
    split <;> first | rfl | exact h
  | proceed => exact left_bad h
  | _ => rfl
theorem step_bad {S : CS} (r : Row) (h : S.bad = true) : (S.step r).bad = true := by
  unfold CS.step; (repeat' split) <;> first | exact step0_bad _ h | exact structA_bad _ h | rfl
theorem run_bad {S : CS} (l : List Row) (h : S.bad = true) : (S.run l).bad = true := by
  induction l generalizing S with
  | nil => exact h
  | cons r l ih => exact ih (step_bad r h)
theorem step0_en {S : CS} (r : Row) (h : r.ends = false) : (S.step0 r).en = S.en := by
  cases r with
  | getList i => exact read_en _ _
  | getStructure i => exact read_en _ _
  | getVariable r i => exact (write_en _ _).trans (read_en _ _)
  | getValue r i => exact (read_en _ _).trans (read_en _ _)
  | getConstant i => exact read_en _ _
  | putValue r i => exact (write_en _ _).trans (read_en _ _)
  | putUnsafe i => exact (write_en _ _).trans (read_en _ _)
  | putVariable r i => exact (write_en _ _).trans (write_en _ _)
  | putConstant i => exact write_en _ _
  | putList i => exact write_en _ _
  | putStructure i => exact write_en _ _
  | putVoid i => exact write_en _ _
  | cutTo r => exact read_en _ _
  | mark r => exact write_en _ _
  | getLevel r => exact write_en _ _
  | call f c => exact (callT_en _ c).trans (args_en _ _)
  | builtin f => exact args_en _ _
  | execute f => cases h
  | allocate => exact left_en S
  | neckCut => rfl
  | deallocate =>
    show (if S.size < 0 then S.complain else S).en = S.en
    split <;> rfl
  | proceed => cases h
  | _ => rfl
theorem step_en {S : CS} (r : Row) (h : r.ends = false) : (S.step r).en = S.en := by
  unfold CS.step; (repeat' split) <;> first | exact step0_en _ h | exact structA_en _ _ | rfl

theorem left_args (S : CS) : (S.left.args 32) = (S.args 32).left := by
  unfold CS.left CS.args CS.complain
  (repeat' split) <;> first | rfl | (exfalso; simp_all; done) | (simp_all; done)
theorem read_read (S : CS) (r : Reg) : (S.read r).read r = S.read r := by
  unfold CS.read CS.complain
  (repeat' split) <;> first | rfl | (exfalso; simp_all; done) | (simp_all; done)
theorem void_same (g : Bool) (S : CS) (n : Nat) (h1 : 1 ≤ n) (h3 : n ≤ 3) :
    ((S.step (.famVoid g n)).bad = true ∧ (S.run (List.replicate n (.famConstant g))).bad = true) ∨ S.step (.famVoid g n) = S.run (List.replicate n (.famConstant g)) := by
  have hb : ∀ T : CS, ¬ (0 < T.due ∧ T.fam = Str.ofString (famPre g)) → ∀ r, r.fam? = some g → (T.step r).bad = true := by
    intro T hT r hr
    unfold CS.step
    by_cases hd : 0 < T.due
    · rw [if_pos hd, hr]; dsimp only; rw [if_neg fun e => hT ⟨hd, e⟩]; rfl
    · rw [if_neg hd]; cases r <;> first | (cases hr; done) | rfl
  have hs : ∀ T : CS, 0 < T.due → T.fam = Str.ofString (famPre g) → ∀ r, r.fam? = some g → T.step r = T.structA r := by
    intro T hd hf r hr
    unfold CS.step
    rw [if_pos hd, hr]; dsimp only; rw [if_pos hf]
  by_cases hT : 0 < S.due ∧ S.fam = Str.ofString (famPre g)
  · obtain ⟨hd, hf⟩ := hT
    rw [hs S hd hf _ rfl]
    show ((S.take n).bad = true ∧ _) ∨ S.take n = _
    have e1 : S.step (.famConstant g) = S.take 1 := hs S hd hf _ rfl
    have n0 : ∀ T : CS, ¬ 0 < T.due → (T.step (.famConstant g)).bad = true := fun T h => hb T (fun q => h q.1) _ rfl
    rcases (show n = 1 ∨ n = 2 ∨ n = 3 by omega) with rfl | rfl | rfl
    · right; simp only [List.replicate, run_cons, run_nil, e1]; rfl
    · simp only [List.replicate, run_cons, run_nil, e1]
      by_cases h2 : 2 ≤ S.due
      · right
        have e2 : S.take 1 = { S with due := S.due - 1 } := CS.take_more (by omega) (by omega)
        rw [e2, hs { S with due := S.due - 1 } (by show 0 < S.due - 1; omega) hf _ rfl]
        show S.take (2 : Nat) = CS.take _ 1
        by_cases h3 : S.due = 2
        · rw [CS.take_zero (by simp; omega) (by simp; omega), CS.take_zero (by simp; omega) (by simp; omega)]; simp; omega
        · rw [CS.take_more (by simp; omega) (by simp; omega), CS.take_more (by simp; omega) (by simp; omega)]; simp; omega
      · left
        have e2 : S.take 1 = { S with due := S.due - 1, bld := 0 } := CS.take_zero (by omega) (by omega)
        rw [e2]
        exact ⟨by rw [CS.take_bad (by simp; omega)], n0 _ (by show ¬ 0 < S.due - 1; omega)⟩
    · simp only [List.replicate, run_cons, run_nil, e1]
      by_cases h2 : 2 ≤ S.due
      · have e2 : S.take 1 = { S with due := S.due - 1 } := CS.take_more (by omega) (by omega)
        have e3 : ({ S with due := S.due - 1 } : CS).step (.famConstant g) = ({ S with due := S.due - 1 } : CS).take 1 := hs { S with due := S.due - 1 } (by show 0 < S.due - 1; omega) hf _ rfl
        rw [e2, e3]
        by_cases h3 : S.due = 2
        · left
          have e4 : ({ S with due := S.due - 1 } : CS).take 1 = { S with due := S.due - 1 - 1, bld := 0 } := CS.take_zero (by simp; omega) (by simp; omega)
          rw [e4]
          exact ⟨by rw [CS.take_bad (by simp; omega)], n0 _ (by show ¬ 0 < S.due - 1 - 1; omega)⟩
        · right
          have e4 : ({ S with due := S.due - 1 } : CS).take 1 = { S with due := S.due - 1 - 1 } := CS.take_more (by simp; omega) (by simp; omega)
          rw [e4, hs { S with due := S.due - 1 - 1 } (by show 0 < S.due - 1 - 1; omega) hf _ rfl]
          show S.take (3 : Nat) = CS.take _ 1
          by_cases h3 : S.due = 3
          · rw [CS.take_zero (by simp; omega) (by simp; omega), CS.take_zero (by simp; omega) (by simp; omega)]; simp; omega
          · rw [CS.take_more (by simp; omega) (by simp; omega), CS.take_more (by simp; omega) (by simp; omega)]; simp; omega
      · left
        have e2 : S.take 1 = { S with due := S.due - 1, bld := 0 } := CS.take_zero (by omega) (by omega)
        rw [e2]
        exact ⟨by rw [CS.take_bad (by simp; omega)], step_bad _ (n0 _ (by show ¬ 0 < S.due - 1; omega))⟩
  · left
    refine ⟨hb S hT _ rfl, ?_⟩
    cases n with
    | zero => omega
    | succ n => exact run_bad (S := S.step (.famConstant g)) _ (hb S hT (.famConstant g) rfl)

/-- the plain law of one pair -/
theorem pair_same {r : Row} {ls : List Row} (hp : Pair (r :: ls)) (S : CS) : ((S.step r).bad = true ∧ (S.run ls).bad = true) ∨ S.step r = S.run ls := by
  have two : ∀ r a b, r.fam? = none → a.fam? = none → ((S.step0 a).due = S.due) → S.step0 r = (S.step0 a).step0 b → ((S.step r).bad = true ∧ (S.run [a, b]).bad = true) ∨ S.step r = S.run [a, b] := by
    intro r a b hr ha hd he
    by_cases h : 0 < S.due
    · left; rw [step_none h hr, run_cons, step_none h ha]; exact ⟨rfl, step_bad _ rfl⟩
    · right; rw [step_le h, run_cons, run_cons, run_nil, step_le h, step_le (by rw [hd]; exact h), he]
  have one : ∀ r a, r.fam? = a.fam? → S.step0 r = S.step0 a → (∀ S : CS, S.structA r = S.structA a) → ((S.step r).bad = true ∧ (S.run [a]).bad = true) ∨ S.step r = S.run [a] := by
    intro r a hf h0 h1
    right; rw [run_cons, run_nil]; unfold CS.step; rw [hf, h0, h1]
  cases hp with
  | famV g r h => exact one _ _ rfl rfl fun _ => rfl
  | famX g r h => exact one _ _ rfl rfl fun _ => rfl
  | famN g n h1 h3 => exact void_same g S n h1 h3
  | k0 h => exact one _ _ rfl rfl fun _ => rfl
  | k1 r h => exact two _ _ _ rfl rfl (read_due _ _) rfl
  | k2 r h => exact two _ _ _ rfl rfl (read_due _ _) rfl
  | k3 h => exact one _ _ rfl rfl fun _ => rfl
  | k4 r h => exact two _ _ _ rfl rfl (write_due _ _) rfl
  | k5 r h => exact two _ _ _ rfl rfl (read_due _ _) rfl
  | k6 c h0 h3 => refine two _ _ _ rfl rfl (args_due _ _) (by show callT (S.args 32) c = callT ((S.args 32).args 21) c; rw [CS.args_21])
  | k7 => exact two _ _ _ rfl rfl rfl rfl
  | k8 =>
    by_cases h : 0 < S.due
    · left; rw [step_none h rfl, run_cons, step_none h rfl]; exact ⟨rfl, step_bad _ rfl⟩
    · right
      have hd : (S.step0 .deallocate).due = S.due := by show (if S.size < 0 then S.complain else S).due = S.due; split <;> rfl
      rw [step_le h, run_cons, run_cons, run_nil, step_le h, step_le (by rw [hd]; exact h)]
      exact (CS.args_21 _).symm
  | k9 h => exact one _ _ rfl rfl fun _ => rfl
  | k10 r => exact one _ _ rfl rfl fun _ => rfl
  | k11 => refine two _ _ _ rfl rfl (args_due _ _) (by show ({ S.left.args 32 with en := true } : CS) = { (S.args 32).left.args 21 with en := true }; rw [CS.args_21, left_args])
  | k12 h => exact one _ _ rfl (read_read _ _).symm fun _ => rfl
  | last => exact one _ _ rfl (by show ({ S.left with en := true } : CS) = { S.left.args 21 with en := true }; rw [CS.args_21]) fun _ => rfl

/-- clause_fault's answer: the place of the first fault -/
noncomputable def cf (S : CS) (i : Nat) : List Row → Option Nat
  | [] => if S.en then none else some i
  | r :: l => if S.en then some i else if (S.step r).bad then some i else cf (S.step r) (i + 1) l

theorem likes_run {ls : List Row} (hne : ∀ (a : List Row) r b, ls = a ++ r :: b → b ≠ [] → r.ends = false) (S : CS) (hen : S.en = false) (hbad : S.bad = false) (j : Nat) (more : List Row) :
    ((S.run ls).bad = true ∧ ∃ k, k < ls.length ∧ cf S j (ls ++ more) = some (j + k)) ∨ ((S.run ls).bad = false ∧ cf S j (ls ++ more) = cf (S.run ls) (j + ls.length) more) := by
  induction ls generalizing S j with
  | nil => right; exact ⟨hbad, rfl⟩
  | cons r l ih =>
    rw [run_cons]
    by_cases hb : (S.step r).bad = true
    · left
      refine ⟨run_bad _ hb, 0, by simp, ?_⟩
      simp [cf, hen, hb]
    · have hb' : (S.step r).bad = false := by simpa using hb
      have hc : cf S j ((r :: l) ++ more) = cf (S.step r) (j + 1) (l ++ more) := by simp [cf, hen, hb']
      cases l with
      | nil => right; exact ⟨hb', by rw [hc]; rfl⟩
      | cons r2 l2 =>
        have he : (S.step r).en = false := by rw [step_en r (hne [] r (r2 :: l2) rfl (by simp))]; exact hen
        rcases ih (fun a q b e hb2 => hne (r :: a) q b (by rw [e]; rfl) hb2) (S.step r) he hb' (j + 1) with ⟨h1, k, hk, h2⟩ | ⟨h1, h2⟩
        · left; exact ⟨h1, k + 1, by simp at hk ⊢; omega, by rw [hc, h2]; congr 1; omega⟩
        · right; exact ⟨h1, by rw [hc, h2]; simp only [List.length_cons]; congr 1; omega⟩
end Mine
end

section
open PySem PySem.W PySem.Spec PySem.Calls PyProof.Rows
set_option Elab.async false
set_option maxRecDepth 100000
set_option maxHeartbeats 4000000
namespace Mine
theorem fille3 : True ∨ (PySem.Challenge.rw_sa0151_01 = PySem.Challenge.rw_sa0151_01 ∧ hd.heap_1 = hd.heap_1) := by
  k_fill
  exact .inl trivial
noncomputable def dS (l : List (Str × Str)) : List (PyData × PyData) := l.map fun q => (.str q.1, .str q.2)
theorem flatS {kvs : List (Str × Value)} {l : List (Str × Str)} (h : StrVals kvs l) : PyProof.V.FlatPairs PyData.str kvs (dS l) := by
  induction h with
  | nil => exact .nil
  | cons _ ih => exact .cons (PyProof.V.Flat.str _ _) ih
noncomputable def OpIs (w : World) (rest : Led) (v : Value) (kind : Str) : Prop := ∀ tk rest', (∀ p ∈ rest, p ∈ rest') → Spec w 236 8 300 [v, .str kind tk, .bool false] rest' (fun res nn => res = .bool true ∧ nn = rest')
/-- the operands are of the kinds -/
noncomputable def OpsOk (w : World) (rest : Led) (vs : List Value) (kd : Str) : Prop := ∀ (i : Nat) v, vs[i]? = some v → OpIs w rest v (Txt.item kd (0 + (i : Int)))
theorem opIs_use {w : World} {rest rest' : Led} {vs : List Value} {v : Value} {kd : Str} {i : Nat} {tk : Tok} (o : OpsOk w rest vs kd) (hv : vs[i]? = some v) (h : ∀ p ∈ rest, p ∈ rest') : Spec w 236 8 300 [v, .str (Txt.item kd (0 + (i : Int))) tk, .bool false] rest' (fun res nn => res = .bool true ∧ nn = rest') := o i v hv tk rest' h
theorem some_is {l : Option PyData} {x : PyData} (h : l = some x) : l.isSome = true := by rw [h]; rfl
theorem seqS {v : Value} {vs : List Value} {i : Nat} (h : i < vs.length) : seqIndex? (0 + (i : Int) + 1) (v :: vs).length = some (i + 1) := by
  unfold seqIndex?
  have e1 : ¬ (0 + (i : Int) + 1 < 0) := by omega
  have e2 : (decide (0 ≤ 0 + (i : Int) + 1) && decide (0 + (i : Int) + 1 < ((v :: vs).length : Int))) = true := by
    rw [Bool.and_eq_true, decide_eq_true_eq, decide_eq_true_eq, List.length_cons]; omega
  dsimp only
  rw [if_neg e1, if_pos e2]
  congr 1; omega
section
variable {w : World} {F : Fn} {Γ : Cx w F} {lc : Lcs} {P : Led → Prop} {R : RX}
theorem Ec.neI {a b : PX} {pos : Pos} {x y : Int} (ha : Ev Γ lc P a (Vl.i x).is) (hb : Ev Γ lc P b (Vl.i y).is) : Ec Γ lc P (.Compare a [.NotEq] [b] pos) (x != y) :=
  .cmp ha hb (marks _ _ rfl) fun _ _ ⟨_, e1⟩ ⟨_, e2⟩ s _ _ S q => by subst e1; subst e2; exact ne_int (q s.heap s.toks S)
/-- a table of texts -/
noncomputable def TabS (w : World) (P : Led → Prop) (d : Addr) (D : List (PyData × PyData)) : Prop := ∀ n, P n → ∃ o kvs, (d, o) ∈ n ∧ (d == sysModules) = false ∧ o.IsDictOf (strKind PR w) kvs ∧ PyProof.V.FlatPairs PyData.str kvs D
theorem Ec.notinT {a : PX} {b x : Str} {bp pos : Pos} {d : Addr} {D : List (PyData × PyData)} (hT : TabS w P d D) (ha : Ev Γ lc P a (Vl.s x).is) (hb : (b, Vl.r d) ∈ lc) (hk : autoParam (Γ.env.kindOf b = some .local) rfl9) (hd9 : autoParam ((b == "__debug__") = false) rfl9) : Ec Γ lc P (.Compare a [.NotIn] [.Name b bp] pos) (!(PySem.Spec.lookup (.str x) D).isSome) :=
  .cmp ha (Ev.name hb hk hd9) rfl fun v1 v2 ⟨_, e1⟩ e2 s _ _ S q => by
    have e2' : v2 = .ref d := e2
    subst e1 e2'
    obtain ⟨⟨m, Fm, hm⟩, n, N, hP⟩ := S
    obtain ⟨o, kvs, h1, h2, h3, h4⟩ := hT n hP
    exact notin_strTab (TabAt.ofNews N h1 h2 h3 h4) (q s.heap _ ⟨⟨m, Fm, hm⟩, n, N, hP⟩)
theorem Ev.itemT {a : PX} {b x y : Str} {bp pos : Pos} {d : Addr} {D : List (PyData × PyData)} (hT : TabS w P d D) (hl : PySem.Spec.lookup (.str x) D = some (.str y)) (hb : (b, Vl.r d) ∈ lc) (ha : Ev Γ lc P a (Vl.s x).is) (hs : autoParam (∀ t, subscripted a false (.ref d) (.str x t) = operate [.ref d, .str x t] (getItem (.ref d) (.str x t))) unf9) (hg : autoParam (∀ r, letTemporaryGo (.Name b bp) (.ref d) r = pure ()) unf9)
    (hk : autoParam (Γ.env.kindOf b = some .local) rfl9) (hd9 : autoParam ((b == "__debug__") = false) rfl9) : Ev Γ lc P (.Subscript (.Name b bp) a pos) (Vl.s y).is := by
  intro s Q E S q
  refine Subscript_ (Ev.name hb hk hd9 s _ E S fun v1 h1 t1 e1 S1 => ha _ _ E S1 fun v2 h2 t2 ⟨_, e2⟩ S2 => ?_)
  have e1' : v1 = .ref d := e1
  subst e1' e2
  obtain ⟨⟨m, Fm, hm⟩, n, N, hP⟩ := S2
  obtain ⟨o, kvs, k1, k2, k3, k4⟩ := hT n hP
  refine item_strTab (TabAt.ofNews N k1 k2 k3 k4) hl (fun v hv => ?_) (hs _) hg
  obtain ⟨t', rfl⟩ := PyProof.V.Flat.str_inv hv
  exact q _ h2 _ ⟨t', rfl⟩ ⟨⟨m, Fm, hm⟩, n, N, hP⟩
/-- a figure of a text -/
theorem Ev.itemS {a : PX} {b x : Str} {bp pos : Pos} {i : Int} (hb : (b, Vl.s x) ∈ lc) (ha : Ev Γ lc P a (Vl.i i).is) (h0 : 0 ≤ i) (h1 : i < x.length) (hn : x.length ≤ 1000) (hs : autoParam (∀ t u, subscripted a false (.str x t) (.int i u) = operate [.str x t, .int i u] (getItem (.str x t) (.int i u))) unf9) (hg : autoParam (∀ t r, letTemporaryGo (.Name b bp) (.str x t) r = pure ()) unf9)
    (hk : autoParam (Γ.env.kindOf b = some .local) rfl9) (hd9 : autoParam ((b == "__debug__") = false) rfl9) : Ev Γ lc P (.Subscript (.Name b bp) a pos) (Vl.s (Txt.item x i)).is := by
  intro s Q E S q
  refine Subscript_ (Ev.name hb hk hd9 s _ E S fun v1 h1' t1 ⟨_, e1⟩ S1 => ha _ _ E S1 fun v2 h2 t2 ⟨_, e2⟩ S2 => ?_)
  subst e1 e2
  exact KXi.item rfl (by omega) h1 (by omega) (fun _ => q _ h2 _ ⟨_, rfl⟩ S2) (hs _ _) (hg _)
end
theorem chk_core (w : World) (d a : Addr) (o : Obj) (nm kd : Str) (tn : Tok) (vs : List Value) (kvs : List (Str × Value)) (rest : Led) (hm : (a, tupOf (.str nm tn :: vs)) ∈ rest) (hd : (d, o) ∈ rest) (hlo : (d == sysModules) = false) (hdo : o.IsDictOf (strKind PySem.Challenge.rw_sa0151_01.row.prog w) kvs) (hkv : StrVals kvs shapeL)
   (hl : PySem.Spec.lookup (.str nm) (dS shapeL) = some (.str kd)) (hn : kd.length = vs.length) (hn2 : vs.length ≤ 2) (hop : OpsOk w rest vs kd) :
   Spec w 243 12 500 [.ref d, .ref a, .bool false] rest (fun res nn => res = .none ∧ nn = rest) := by
  refine (?_ : ∀ n, n = rest → Spec w 243 12 500 [.ref d, .ref a, .bool false] n (fun res nn => res = .none ∧ nn = rest)) rest rfl
  have hT : TabS w (fun n => n = rest) d (dS shapeL) := fun n e => ⟨o, kvs, e ▸ hd, hlo, hdo, flatS hkv⟩
  have hM : ∀ n, n = rest → (a, tupOf (.str nm tn :: vs)) ∈ n := fun n e => e ▸ hm
  refine' Spec.body (lc := [(Str.ofString "table", .r d), (Str.ofString "ins", .r a), (Str.ofString "linked", .b false)]) ?k6 ?k7 ?k9 ?kB ?c2 ?c3 ?c4 ?c5 ?hlc ?hd1 ?hu1 ?H
  case k6 => k_is
  case k7 => k_is
  case k9 => exact rfl
  case kB => exact rfl
  case c2 => exact rfl
  case c3 => exact rfl
  case c4 => exact rfl
  case c5 => decide
  case hlc => exact ⟨⟨_, rfl, rfl⟩, ⟨_, rfl, rfl⟩, ⟨_, rfl, rfl⟩, trivial⟩
  case hd1 => exact rfl
  case hu1 => exact rfl
  intro Γ hroom
  refine .ifF (.row (.or (.not (.plain (.isi (c := true) (.name (v := .r a) (.tail _ (.head _)) rfl rfl) (.blt (v := .type "tuple") (by kernel_rfl!) (by kernel_rfl!) (by decide +kernel)) fun v e s Q E S q => ?_) rfl)) fun _ => .or (.eqI (.lenT (.name (.tail _ (.head _)) rfl rfl) hM (by rw [List.length_cons]; omega) rfl (by kernel_rfl!) rfl rfl rfl) .int) fun _ => .or (.not (.plain (.isi (c := true) (V := (Vl.s nm).is) ((Ev.tup (j := 0) (.name (.tail _ (.head _)) rfl rfl) .int hM (by decide) (by decide) (seqN (Nat.zero_lt_succ _)) rfl (fun _ => rfl)).is ⟨_, rfl⟩) (.blt (v := .type "str") (by kernel_rfl!) (by kernel_rfl!) (by decide +kernel)) fun v ⟨_, e⟩ s Q E S q => by subst e; exact IsiPair.str_str (q _)) rfl)) fun _ => .or0)) ?_ (.nilT ?_)
  · have e' : v = .ref a := e
    subst e'
    obtain ⟨_, n, N, hn⟩ := S
    exact IsiPair.tuple_tuple (News.get N (hM n hn)) rfl (q _)
  · have : (((((Value.str nm tn) :: vs).length : Nat) : Int) == 0) = false := by rw [List.length_cons]; exact beq_eq_false_iff_ne.mpr (by omega)
    rw [this]; rfl
  refine .set (vl := .s nm) ((Ev.tup (j := 0) (.name (.tail _ (.head _)) rfl rfl) .int hM (by decide) (by decide) (seqN (Nat.zero_lt_succ _)) rfl (fun _ => rfl)).is ⟨_, rfl⟩) (nm_ok (by kernel_rfl!)) rfl rfl ?_
  refine .ifF (.notinT hT (.name (.head _) rfl rfl) (.tail _ (.head _))) (by rw [some_is hl]; rfl) (.nilT ?_)
  refine .set (vl := .s kd) (.itemT hT hl (.tail _ (.head _)) (.name (.head _) rfl rfl)) (nm_ok (by kernel_rfl!)) rfl rfl ?_
  refine .ifF (.neI (.lenT (.name (.tail _ (.tail _ (.tail _ (.head _)))) rfl rfl) hM (by rw [List.length_cons]; omega) rfl (by kernel_rfl!) rfl rfl rfl) (.add (.lenS (.name (.head _) rfl rfl) (by omega) rfl (by kernel_rfl!) rfl rfl rfl) .int)) ?_ (.nilT ?_)
  · rw [List.length_cons, hn]; simp
  refine .forRange (a := 0) (b := kd.length) kd.length (fun i l p => l = [(Str.ofString "kinds", Vl.s kd), (Str.ofString "name", Vl.s nm), (Str.ofString "table", Vl.r d), (Str.ofString "ins", Vl.r a), (Str.ofString "linked", Vl.b false)] ∧ p = fun n => n = rest) (.one (.lenS (.name (.head _) rfl rfl) (by omega) rfl (by kernel_rfl!) rfl rfl rfl) rfl (by kernel_rfl!) rfl rfl rfl) (small_one (by omega) (by omega) (by omega) (by omega)) (by rw [PyProof.Rows.rangeSize_nat]; omega) rfl rfl (fun _ => rfl) ⟨rfl, rfl⟩ ?_ ?_
  · rintro i l p I it hi ⟨rfl, rfl⟩
    refine ⟨_, .cons (by kernel_rfl!), ?_⟩
    have hi' : i < vs.length := by omega
    have hv := List.getElem?_eq_getElem hi'
    have hv' : (Value.str nm tn :: vs)[i + 1]? = some vs[i] := by rw [List.getElem?_cons_succ]; exact hv
    have hM' : ∀ n, Fresh I it (fun n => n = rest) n → (a, tupOf (.str nm tn :: vs)) ∈ n := fun n ⟨nx, e, e2, _⟩ => by subst e e2; exact .tail _ hm
    refine .ifF (b := false) (.not (b := true) (.plain (.ofT (EvT.call (f := 236) (dp := 8) (un := 300) (post := fun r n => r = .bool true ∧ Fresh I it (fun n => n = rest) n) (by kernel_rfl!) rfl (by decide +kernel) (by kernel_rfl!) (.three (V := fun v => v = vs[i]) (V'' := (Vl.b false).is) (Ev.tup (j := i + 1) (.name (.tail _ (.tail _ (.tail _ (.tail _ (.head _))))) rfl rfl) (.add (.name (.head _) rfl rfl) .int) hM' (by omega) (by omega) (seqS hi') hv' (fun _ => rfl)) (.itemS (.tail _ (.head _)) (.name (.head _) rfl rfl) (by omega) (by omega) (by omega)) (.name (.tail _ (.tail _ (.tail _ (.tail _ (.tail _ (.head _)))))) rfl rfl) rfl rfl rfl) rfl rfl rfl (fun us ⟨v1, v2, v3, e, e1, ⟨tk, e2⟩, e3⟩ n h => ?_) (hroom.le (by decide) (by decide))) fun v P' e n h => ?_) rfl)) rfl (.nilT (.nil ⟨_, _, ⟨rfl, rfl⟩, fun p hp => .tail _ hp, fun n hn => ⟨n, hn, fun _ h => h⟩⟩))
    · subst e
      exact ⟨h.1, n, h.2, fun _ h => h⟩
    · have e3' : v3 = .bool false := e3
      subst e e1 e2 e3'
      obtain ⟨nx, rfl, rfl, ho⟩ := h
      exact (opIs_use hop hv fun p hp => .tail _ hp).conv (Nat.le_refl _) (Nat.le_refl _) (fun _ h => h) fun r n' ⟨h1, h2⟩ => ⟨n', ⟨h1, _, h2, rfl, ho⟩, fun _ h => h⟩
  · rintro l p ⟨rfl, rfl⟩
    exact .nil fun n hn => ⟨rfl, hn⟩
end Mine
end

section
open PySem PySem.W PySem.Spec PySem.Calls PyProof.Rows
set_option Elab.async false
set_option maxRecDepth 100000
namespace Mine
noncomputable def Row.kinds : Row → Str
  | .getList _ => Str.ofString "X" | .getStructure _ => Str.ofString "FX"
  | .getVariable .. => Str.ofString "RX" | .getValue .. => Str.ofString "RX" | .getConstant _ => Str.ofString "CX"
  | .putValue .. => Str.ofString "RX" | .putUnsafe _ => Str.ofString "YX" | .putVariable .. => Str.ofString "RX" | .putConstant _ => Str.ofString "CX"
  | .putList _ => Str.ofString "X" | .putStructure _ => Str.ofString "FX" | .putVoid _ => Str.ofString "X"
  | .cutTo _ => Str.ofString "R" | .mark _ => Str.ofString "R" | .getLevel _ => Str.ofString "R"
  | .call .. => Str.ofString "FN" | .builtin _ => Str.ofString "F" | .execute _ => Str.ofString "F"
  | .allocate => Str.ofString "N" | .neckCut => Str.ofString "" | .deallocate => Str.ofString "" | .proceed => Str.ofString ""
  | .famValue .. => Str.ofString "R" | .famLocal .. => Str.ofString "R" | .famVariable .. => Str.ofString "R" | .famVoid .. => Str.ofString "N" | .famConstant _ => Str.ofString "C"
/-- the row's numbers are no less than 0 -/
noncomputable def Row.ck : Row → Prop
  | .call f c => 0 ≤ f ∧ 0 ≤ c | .builtin f => 0 ≤ f | .execute f => 0 ≤ f | .famVoid _ n => 0 ≤ n | _ => True
noncomputable def lookS (nm : Str) : List (Str × Str) → Option Str
  | [] => none
  | q :: l => if nm = q.1 then some q.2 else lookS nm l
theorem lookS_is {nm kd : Str} : ∀ {l : List (Str × Str)}, lookS nm l = some kd → PySem.Spec.lookup (.str nm) (dS l) = some (.str kd)
  | [], h => by cases h
  | q :: l, h => by
    unfold lookS at h
    show (if PySem.Spec.same (.str q.1) (.str nm) then some (PyData.str q.2) else PySem.Spec.lookup (.str nm) (dS l)) = _
    by_cases e : nm = q.1
    · rw [if_pos e] at h; cases h
      rw [if_pos (by rw [PyProof.V.same_str]; exact decide_eq_true e.symm)]
    · rw [if_neg e] at h
      rw [if_neg (by rw [PyProof.V.same_str]; simpa using fun h => e h.symm)]
      exact lookS_is h
theorem kinds_in (row : Row) : PySem.Spec.lookup (.str row.name) (dS shapeL) = some (.str row.kinds) := by
  cases row with
  | famValue g r => cases g <;> exact lookS_is (by kernel_rfl!)
  | famLocal g r => cases g <;> exact lookS_is (by kernel_rfl!)
  | famVariable g r => cases g <;> exact lookS_is (by kernel_rfl!)
  | famVoid g n => cases g <;> exact lookS_is (by kernel_rfl!)
  | famConstant g => cases g <;> exact lookS_is (by kernel_rfl!)
  | _ => exact lookS_is (by kernel_rfl!)
/-- an operand is of a kind -/
inductive KOk : Op → Str → Prop
  | r (r : Reg) : KOk (.reg r) (Str.ofString "R")
  | x (h : Int) : KOk (.reg (X h)) (Str.ofString "X")
  | y (n : Int) : KOk (.reg ⟨true, n⟩) (Str.ofString "Y")
  | c (i : Int) : KOk (.con i) (Str.ofString "C")
  | f (i : Int) : 0 ≤ i → KOk (.int i) (Str.ofString "F")
  | n (i : Int) : 0 ≤ i → KOk (.int i) (Str.ofString "N")
noncomputable def KsOk (kd : Str) : Nat → List Op → Prop
  | _, [] => True
  | i, o :: os => KOk o (Txt.item kd (0 + (i : Int))) ∧ KsOk kd (i + 1) os
theorem kind_one {w : World} {rest : Led} {v : Value} {o : Op} {c : Str} (h : KOk o c) (q : OpAt rest v o) : OpIs w rest v c := by
  cases h with
  | r r =>
    obtain ⟨a, t1, t2, rfl, m, k⟩ := q
    exact fun tk rest' hs => opR_core (hs _ m) (by obtain ⟨y, n⟩ := r; cases y; exact .inl rfl; exact .inr rfl) k.1
  | x i =>
    obtain ⟨a, t1, t2, rfl, m, k⟩ := q
    exact fun tk rest' hs => opX_core (hs _ m) k.1
  | y i =>
    obtain ⟨a, t1, t2, rfl, m, k⟩ := q
    exact fun tk rest' hs => opY_core (hs _ m) k.1
  | c i =>
    obtain ⟨a, t1, t2, rfl, m⟩ := q
    exact fun tk rest' hs => opC_core (hs _ m)
  | f i h =>
    obtain ⟨t, rfl⟩ := q
    exact fun tk rest' hs => opN_core (by decide +kernel) h
  | n i h =>
    obtain ⟨t, rfl⟩ := q
    exact fun tk rest' hs => opN_core (by decide +kernel) h
theorem kinds_all {w : World} {rest : Led} {vs : List Value} {os : List Op} {kd : Str} (h : OpsAt rest vs os) : ∀ {i : Nat}, KsOk kd i os → ∀ (j : Nat) v, vs[j]? = some v → OpIs w rest v (Txt.item kd (0 + ((i + j : Nat) : Int))) := by
  induction h with
  | nil => intro i _ j v hj; simp at hj
  | cons a _ ih =>
    intro i hk j v hj
    cases j with
    | zero => cases hj; exact kind_one hk.1 a
    | succ j =>
      have := ih hk.2 j v hj
      rwa [Nat.add_assoc, Nat.add_comm 1 j] at this
theorem kinds_way (row : Row) (hk : row.ck) : row.kinds.length = row.ops.length ∧ row.ops.length ≤ 2 ∧ KsOk row.kinds 0 row.ops := by
  cases row <;> first
    | exact ⟨by kernel_rfl!, Nat.le_of_ble_eq_true rfl, trivial⟩
    | exact ⟨by kernel_rfl!, Nat.le_of_ble_eq_true rfl, .x _, trivial⟩
    | exact ⟨by kernel_rfl!, Nat.le_of_ble_eq_true rfl, .r _, trivial⟩
    | exact ⟨by kernel_rfl!, Nat.le_of_ble_eq_true rfl, .c _, trivial⟩
    | exact ⟨by kernel_rfl!, Nat.le_of_ble_eq_true rfl, .f _ hk, trivial⟩
    | exact ⟨by kernel_rfl!, Nat.le_of_ble_eq_true rfl, .n _ hk, trivial⟩
    | exact ⟨by kernel_rfl!, Nat.le_of_ble_eq_true rfl, .n _ (by decide), trivial⟩
    | exact ⟨by kernel_rfl!, Nat.le_of_ble_eq_true rfl, .f _ (by decide), .x _, trivial⟩
    | exact ⟨by kernel_rfl!, Nat.le_of_ble_eq_true rfl, .y _, .x _, trivial⟩
    | exact ⟨by kernel_rfl!, Nat.le_of_ble_eq_true rfl, .r _, .x _, trivial⟩
    | exact ⟨by kernel_rfl!, Nat.le_of_ble_eq_true rfl, .c _, .x _, trivial⟩
    | exact ⟨by kernel_rfl!, Nat.le_of_ble_eq_true rfl, .f _ hk.1, .n _ hk.2, trivial⟩
theorem opsAt_length {L : Led} {vs : List Value} {os : List Op} (h : OpsAt L vs os) : vs.length = os.length := by
  induction h with
  | nil => rfl
  | cons _ _ ih => simp only [List.length_cons, ih]
theorem kinds_fit {w : World} {rest : Led} {vs : List Value} (row : Row) (hk : row.ck) (ho : OpsAt rest vs row.ops) : row.kinds.length = vs.length ∧ vs.length ≤ 2 ∧ OpsOk w rest vs row.kinds := by
  obtain ⟨h1, h2, h3⟩ := kinds_way row hk
  rw [← opsAt_length ho] at h1 h2
  exact ⟨h1, h2, fun i v hv => by have := kinds_all (w := w) ho h3 i v hv; rwa [Nat.zero_add] at this⟩
theorem check_spec {w : World} {d : Addr} {o : Obj} {kvs : List (Str × Value)} {rest : Led} {v : Value} {row : Row} (hd : (d, o) ∈ rest) (hlo : (d == sysModules) = false) (hdo : o.IsDictOf (strKind PySem.Challenge.rw_sa0151_01.row.prog w) kvs) (hkv : StrVals kvs shapeL) (hrow : RowAt rest v row) (hk : row.ck) :
   Spec w 243 12 500 [.ref d, v, .bool false] rest (fun res nn => res = .none ∧ nn = rest) := by
  obtain ⟨a, t, vs, rfl, m, k⟩ := hrow
  obtain ⟨h1, h2, h3⟩ := kinds_fit (w := w) row hk k
  exact chk_core w d a o _ _ t vs kvs rest m hd hlo hdo hkv (kinds_in row) h1 h2 h3
end Mine
end

section
open PySem PySem.W PySem.Spec PySem.Calls PyProof.Rows PyProof.V
set_option Elab.async false
namespace Mine
/-- the registers of a row are in the range -/
noncomputable def Row.rok (r : Row) : Prop := ∀ g, Op.reg g ∈ r.ops → g.ok
theorem ops_ok {L : Led} {vs : List Value} {os : List Op} (h : OpsAt L vs os) : ∀ g, Op.reg g ∈ os → g.ok := by
  induction h with
  | nil => intro g hg; cases hg
  | cons a _ ih =>
    intro g hg
    rcases List.mem_cons.mp hg with e | hg
    · subst e; obtain ⟨_, _, _, _, _, k⟩ := a; exact k
    · exact ih g hg
theorem RowAt.rok {L : Led} {v : Value} {r : Row} (h : RowAt L v r) : r.rok := by
  obtain ⟨a, t, vs, e, m, k⟩ := h
  exact ops_ok k
noncomputable def Small (l : List Int) : Prop := (∀ i, l.count i ≤ 1) ∧ ∀ i ∈ l, 1 ≤ i ∧ i ≤ 5
theorem len5 : ∀ l : List Int, (∀ i ∈ l, 1 ≤ i ∧ i ≤ 5) → l.length = l.count 1 + l.count 2 + l.count 3 + l.count 4 + l.count 5
  | [], _ => rfl
  | a :: l, h => by
    have ih := len5 l fun i hi => h i (.tail _ hi)
    have ha := h a (.head _)
    simp only [List.length_cons, List.count_cons, ih]
    rcases (show a = 1 ∨ a = 2 ∨ a = 3 ∨ a = 4 ∨ a = 5 by omega) with rfl | rfl | rfl | rfl | rfl <;> simp <;> omega
theorem Small.len {l : List Int} (h : Small l) : l.length ≤ 5 := by
  rw [len5 l h.2]
  have := h.1 1; have := h.1 2; have := h.1 3; have := h.1 4; have := h.1 5
  omega
theorem Small.ins {l : List Int} (h : Small l) {i : Int} (h1 : 1 ≤ i) (h2 : i ≤ 5) : Small (Mine.ins l i) := by
  unfold Mine.ins
  by_cases e : i ∈ l
  · rw [if_pos e]; exact h
  · rw [if_neg e]
    refine ⟨fun j => ?_, fun j hj => ?_⟩
    · rw [List.count_append]
      by_cases ej : j = i
      · subst ej; rw [List.count_eq_zero.mpr e]; simp
      · have := h.1 j
        have e2 : List.count j [i] = 0 := by rw [List.count_eq_zero]; intro q; exact ej (List.mem_singleton.mp q)
        omega
    · rcases List.mem_append.mp hj with hj | hj
      · exact h.2 j hj
      · rw [List.mem_singleton.mp hj]; exact ⟨h1, h2⟩
theorem Small.filter {l : List Int} (h : Small l) (p : Int → Bool) : Small (l.filter p) := by
  refine ⟨fun i => ?_, fun i hi => h.2 i (List.mem_filter.mp hi).1⟩
  have := List.Sublist.count_le i (List.filter_sublist (p := p) (l := l))
  have := h.1 i
  omega
theorem Small.nil : Small [] := ⟨fun i => by simp, fun i hi => by cases hi⟩
structure CS.good (S : CS) : Prop where
  x : Small S.xs
  y : Small S.ys
  fam : S.famOk
theorem CS.good.room {S : CS} (h : S.good) : S.room := ⟨by have := h.x.len; omega, by have := h.y.len; omega⟩
theorem good_complain {S : CS} (h : S.good) : S.complain.good := ⟨h.x, h.y, h.fam⟩
theorem good_read {S : CS} (h : S.good) (r : Reg) : (S.read r).good := by
  unfold CS.read; (repeat' split) <;> first | exact good_complain h | exact h
theorem good_write {S : CS} (h : S.good) {r : Reg} (hr : r.ok) : (S.write r).good := by
  unfold CS.write; (repeat' split) <;> first | exact good_complain h | exact ⟨h.x, h.y.ins hr.1 hr.2, h.fam⟩ | exact ⟨h.x.ins hr.1 hr.2, h.y, h.fam⟩
theorem good_args {S : CS} (h : S.good) (f : Int) : (S.args f).good := by
  unfold CS.args; (repeat' split) <;> first | exact good_complain h | exact h
theorem good_left {S : CS} (h : S.good) : S.left.good := by
  unfold CS.left; (repeat' split) <;> first | exact good_complain h | exact h
theorem good_opens {S : CS} (h : S.good) (g : Bool) : (S.opens (Str.ofString (famPre g))).good := ⟨h.x, h.y, fun _ => ⟨g, rfl⟩⟩
theorem good_take {S : CS} (h : S.good) (d : Int) : (S.take d).good := by
  by_cases hb : d < 1 ∨ S.due < d
  · rw [CS.take_bad hb]; exact ⟨h.x, h.y, fun q => absurd q (by show ¬ 0 < S.due - S.due; omega)⟩
  · by_cases h0 : S.due - d = 0
    · rw [CS.take_zero hb h0]; exact ⟨h.x, h.y, fun q => absurd q (by show ¬ 0 < S.due - d; omega)⟩
    · rw [CS.take_more hb h0]; exact ⟨h.x, h.y, fun q => h.fam (by have : 0 < S.due - d := q; omega)⟩
theorem good_callT {T : CS} (h : T.good) (c : Int) : (callT T c).good := by
  unfold callT
  dsimp only
  (repeat' split) <;> exact ⟨Small.nil, Small.filter h.y _, h.fam⟩
theorem good_step0 {S : CS} (h : S.good) {row : Row} (hr : row.rok) : (S.step0 row).good := by
  cases row with
  | getList h' => exact good_opens (good_read h _) true
  | getStructure h' => exact good_opens (good_read h _) true
  | getVariable r h' => exact good_write (good_read h _) (hr r (.head _))
  | getValue r h' => exact good_read (good_read h _) _
  | getConstant h' => exact good_read h _
  | putValue r h' => exact good_write (good_read h _) (hr _ (.tail _ (.head _)))
  | putUnsafe h' => exact good_write (good_read h _) (hr (X h') (.tail _ (.head _)))
  | putVariable r h' => exact good_write (good_write h (hr r (.head _))) (hr (X h') (.tail _ (.head _)))
  | putConstant h' => exact good_write h (hr _ (.tail _ (.head _)))
  | putVoid h' => exact good_write h (hr _ (.head _))
  | putList h' => exact ⟨(good_write h (hr (X h') (.head _))).x, (good_write h (hr (X h') (.head _))).y, fun _ => ⟨false, rfl⟩⟩
  | putStructure h' => exact ⟨(good_write h (hr (X h') (.tail _ (.head _)))).x, (good_write h (hr (X h') (.tail _ (.head _)))).y, fun _ => ⟨false, rfl⟩⟩
  | cutTo r => exact good_read h _
  | mark r => exact good_write h (hr _ (.head _))
  | getLevel r => exact good_write h (hr _ (.head _))
  | call f c =>
    have h2 := good_args h f
    exact good_callT h2 c
  | builtin f => exact good_args h f
  | execute f => have h2 := good_args (good_left h) f; exact ⟨h2.x, h2.y, h2.fam⟩
  | allocate => have h2 := good_left h; exact ⟨h2.x, h2.y, h2.fam⟩
  | neckCut => exact h
  | deallocate =>
    show CS.good { (if S.size < 0 then S.complain else S) with size := -1, ys := [] }
    split <;> exact ⟨h.x, Small.nil, h.fam⟩
  | proceed => have h2 := good_left h; exact ⟨h2.x, h2.y, h2.fam⟩
  | famValue g r => exact good_complain h
  | famLocal g r => exact good_complain h
  | famVariable g r => exact good_complain h
  | famVoid g n => exact good_complain h
  | famConstant g => exact good_complain h
theorem good_structA {S : CS} (h : S.good) {row : Row} (hr : row.rok) : (S.structA row).good := by
  cases row with
  | famValue g r => exact good_take (good_read h _) _
  | famLocal g r => exact good_take (good_read h _) _
  | famVariable g r => exact good_take (good_write h (hr r (.head _))) _
  | famVoid g n => exact good_take h _
  | famConstant g => exact good_take h _
  | _ => exact h
theorem good_step {S : CS} (h : S.good) {row : Row} (hr : row.rok) : (S.step row).good := by
  unfold CS.step; (repeat' split) <;> first | exact good_structA h hr | exact good_complain h | exact good_step0 h hr
theorem good_init {xs : List Int} (h : xs = [] ∨ xs = [1] ∨ xs = [1, 2]) : (CS.init xs).good := by
  refine ⟨?_, Small.nil, fun q => absurd q (by show ¬ (0 : Int) < 0; omega)⟩
  rcases h with rfl | rfl | rfl
  · exact Small.nil
  · exact (Small.nil.ins (i := 1) (by decide) (by decide))
  · exact ((Small.nil.ins (i := 1) (by decide) (by decide)).ins (i := 2) (by decide) (by decide))

/-- the codes that a list of pairs gives -/
noncomputable def heads (ps : List (List Row)) : List Row := ps.flatMap (fun p => p.head?.toList)
noncomputable def likes (ps : List (List Row)) : List Row := ps.flatMap List.tail
noncomputable def homes : Nat → List (List Row) → List Int
  | _, [] => []
  | i, p :: ps => List.replicate p.tail.length (i : Int) ++ homes (i + 1) ps
theorem Pair.shape {p : List Row} (h : Pair p) : ∃ r l, p = r :: l ∧ l ≠ [] ∧ ∀ (a : List Row) q b, l = a ++ q :: b → b ≠ [] → q.ends = false := by
  have one : ∀ r x : Row, ∃ r' l, [r, x] = r' :: l ∧ l ≠ [] ∧ ∀ (a : List Row) q b, l = a ++ q :: b → b ≠ [] → q.ends = false := fun r x =>
    ⟨r, [x], rfl, by simp, fun a q b e hb => by
      cases a with
      | nil => cases b with
        | nil => exact absurd rfl hb
        | cons _ _ => simp at e
      | cons _ a => cases a <;> simp at e⟩
  have two : ∀ r x y : Row, x.ends = false → ∃ r' l, [r, x, y] = r' :: l ∧ l ≠ [] ∧ ∀ (a : List Row) q b, l = a ++ q :: b → b ≠ [] → q.ends = false := fun r x y hx =>
    ⟨r, [x, y], rfl, by simp, fun a q b e hb => by
      cases a with
      | nil => cases e; exact hx
      | cons _ a => cases a with
        | nil => cases b with
          | nil => exact absurd rfl hb
          | cons _ _ => simp at e
        | cons _ a => cases a <;> simp at e⟩
  cases h with
  | famN g n h1 h3 =>
    refine ⟨_, _, rfl, ?_, fun a q b e _ => ?_⟩
    · cases n with
      | zero => omega
      | succ n => simp [List.replicate]
    · have : q ∈ List.replicate n (Row.famConstant g) := by rw [e]; simp
      rw [(List.mem_replicate.mp this).2]; rfl
  | famV g r h => exact one _ _
  | famX g r h => exact one _ _
  | k0 h => exact one _ _
  | k1 r h => exact two _ _ _ rfl
  | k2 r h => exact two _ _ _ rfl
  | k3 h => exact one _ _
  | k4 r h => exact two _ _ _ rfl
  | k5 r h => exact two _ _ _ rfl
  | k6 c h0 h3 => exact two _ _ _ rfl
  | k7 => exact two _ _ _ rfl
  | k8 => exact two _ _ _ rfl
  | k9 h => exact one _ _
  | k10 r => exact one _ _
  | k11 => exact two _ _ _ rfl
  | k12 h => exact one _ _
  | last => exact one _ _

theorem cf_pairs : ∀ (ps : List (List Row)), (∀ p ∈ ps, Pair p) → ∀ (S : CS), S.bad = false → ∀ i j : Nat,
    (cf S i (heads ps) = none ∧ cf S j (likes ps) = none) ∨ ∃ p t, cf S i (heads ps) = some p ∧ cf S j (likes ps) = some (j + t) ∧ (homes i ps ++ [((i + ps.length : Nat) : Int)])[t]? = some (p : Int)
  | [], _, S, _, i, j => by
    by_cases he : S.en = true
    · left; simp [heads, likes, cf, he]
    · right; exact ⟨i, 0, by simp [heads, cf, he], by simp [likes, cf, he], by simp [homes]⟩
  | p :: ps, hp, S, hb, i, j => by
    obtain ⟨r, l, rfl, hl, hne⟩ := (hp p (.head _)).shape
    have hh : heads ((r :: l) :: ps) = r :: heads ps := rfl
    have hk : likes ((r :: l) :: ps) = l ++ likes ps := rfl
    have hm : homes i ((r :: l) :: ps) = List.replicate l.length (i : Int) ++ homes (i + 1) ps := rfl
    rw [hh, hk, hm]
    have first : ∀ k, k < l.length → (List.replicate l.length (i : Int) ++ homes (i + 1) ps ++ [((i + ((r :: l) :: ps).length : Nat) : Int)])[k]? = some (i : Int) := fun k hk => by
      rw [List.append_assoc, List.getElem?_append_left (by simpa using hk)]
      simp [hk]
    by_cases he : S.en = true
    · right
      refine ⟨i, 0, by simp [cf, he], ?_, first 0 (List.length_pos_iff.mpr hl)⟩
      cases l with
      | nil => exact absurd rfl hl
      | cons a l => simp [cf, he]
    · have he' : S.en = false := by simpa using he
      rcases pair_same (hp (r :: l) (.head _)) S with ⟨h1, h2⟩ | hs
      · right
        rcases likes_run hne S he' hb j (likes ps) with ⟨_, k, hk, hc⟩ | ⟨h3, _⟩
        · exact ⟨i, k, by simp [cf, he', h1], hc, first k hk⟩
        · rw [h2] at h3; cases h3
      · rcases likes_run hne S he' hb j (likes ps) with ⟨h2, k, hk, hc⟩ | ⟨h3, hc⟩
        · right
          exact ⟨i, k, by simp [cf, he', hs, h2], hc, first k hk⟩
        · rw [← hs] at h3 hc
          have e1 : cf S i (r :: heads ps) = cf (S.step r) (i + 1) (heads ps) := by simp [cf, he', h3]
          rw [e1, hc]
          rcases cf_pairs ps (fun q hq => hp q (.tail _ hq)) (S.step r) h3 (i + 1) (j + l.length) with ⟨a, b⟩ | ⟨p, t, a, b, c⟩
          · left; exact ⟨a, b⟩
          · right
            refine ⟨p, l.length + t, a, by rw [b]; congr 1; omega, ?_⟩
            rw [List.append_assoc, List.getElem?_append_right (by simp)]
            have e2 : l.length + t - (List.replicate l.length (i : Int)).length = t := by simp
            rw [e2]
            have e3 : i + ((r :: l) :: ps).length = i + 1 + ps.length := by simp; omega
            rw [e3]; exact c
theorem cf_le : ∀ (l : List Row) (S : CS) (i p : Nat), cf S i l = some p → p ≤ i + l.length
  | [], S, i, p, h => by
    unfold cf at h; split at h
    · cases h
    · cases h; simp
  | r :: l, S, i, p, h => by
    unfold cf at h
    (repeat' split at h)
    · cases h; simp
    · cases h; simp
    · have := cf_le l _ _ _ h; simp; omega
end Mine
end

section
open PySem PySem.W PySem.Spec PySem.Calls PyProof.Rows PyProof.V
set_option Elab.async false
set_option maxRecDepth 100000
namespace Mine
/-- a checker's three objects -/
noncomputable abbrev CkT (w : World) (k : Nat → Tok) (sg dx : Addr) (S : CS) (t : Led) : Prop := Ck w k sg dx S [] t
noncomputable def Off (t rest : Led) : Prop := ∀ p ∈ t, ∀ q ∈ rest, q.1 ≠ p.1
theorem Off.symm {t rest : Led} (h : Off t rest) : Off rest t := fun p hp q hq e => h q hq p hp e.symm
theorem Off.mono {t rest rest' : Led} (h : Off t rest) (hs : ∀ p ∈ rest', p ∈ rest) : Off t rest' := fun p hp q hq => h p hp q (hs q hq)
theorem Off.cons {t rest : Led} {e : Addr × Obj} (h : Off t rest) (he : ∀ p ∈ t, p.1 ≠ e.1) : Off t (e :: rest) := fun p hp q hq => by
  rcases List.mem_cons.mp hq with rfl | hq
  · exact fun x => he p hp x.symm
  · exact h p hp q hq
theorem Off.app {t a b : Led} (ha : Off t a) (hb : Off t b) : Off t (a ++ b) := fun p hp q hq => (List.mem_append.mp hq).elim (ha p hp q) (hb p hp q)
section
variable {w : World} {k : Nat → Tok} {sg dx x : Addr} {S : CS} {rest nx t : Led}
theorem Ck.toT (h : Ck w k sg dx S rest nx) : ∃ t, CkT w k sg dx S t ∧ Off t rest ∧ nx = t ++ rest := by
  obtain ⟨D, rfl⟩ := h
  refine ⟨_, ⟨{ D with hr1 := fun _ h => (nomatch h), hr2 := fun _ h => (nomatch h), hr3 := fun _ h => (nomatch h) }, rfl⟩, fun p hp q hq => ?_, rfl⟩
  rcases List.mem_cons.mp hp with rfl | hp
  · exact D.hr1 q hq
  · rcases List.mem_cons.mp hp with rfl | hp
    · exact D.hr2 q hq
    · rw [List.mem_singleton.mp hp]
      exact D.hr3 q hq
theorem CkT.toCk (h : CkT w k sg dx S t) (ho : Off t rest) : Ck w k sg dx S rest (t ++ rest) := by
  obtain ⟨D, rfl⟩ := h
  exact ⟨{ D with hr1 := fun q hq => ho _ (.head _) q hq, hr2 := fun q hq => ho _ (.tail _ (.head _)) q hq, hr3 := fun q hq => ho _ (.tail _ (.tail _ (.head _))) q hq }, rfl⟩
theorem step_t {v : Value} {row : Row} {news : Led} (ht : CkT w k sg dx S t) (ho : Off t rest) (hx : (x, instObj 358 dx) ∈ rest) (hs : SymAt w sg rest) (hrow : RowAt rest v row) (hwf : row.wf) (hg : S.good) (hsub : ∀ p ∈ t ++ rest, p ∈ news) :
    Spec w 355 30 1200 [.ref x, v] news (fun res nn => res = .none ∧ ∃ t', CkT w k sg dx (S.step row) t' ∧ Off t' rest ∧ nn = t' ++ rest) :=
  (step_spec hx hs hrow hwf (CkT.toCk ht ho) hg.room hg.fam).conv (Nat.le_refl _) (Nat.le_refl _) hsub fun r n q => by
    obtain ⟨h1, h2⟩ := q
    obtain ⟨t', a, b, rfl⟩ := h2.toT
    exact ⟨_, ⟨h1, t', a, b, rfl⟩, fun _ h => h⟩
end
theorem rowsAt_get {L : Led} {vs : List Value} {rs : List Row} (h : RowsAt L vs rs) : ∀ {i : Nat} {v : Value}, vs[i]? = some v → ∃ r, rs[i]? = some r ∧ RowAt L v r := by
  induction h with
  | nil => intro i v h; simp at h
  | cons a _ ih =>
    intro i v h
    cases i with
    | zero => cases h; exact ⟨_, rfl, a⟩
    | succ i => exact ih h
theorem rowsAt_len {L : Led} {vs : List Value} {rs : List Row} (h : RowsAt L vs rs) : vs.length = rs.length := by
  induction h with
  | nil => rfl
  | cons _ _ ih => simp [ih]
theorem name_fail (r : Row) : r.name ≠ Str.ofString "fail" := by
  cases r with
  | famValue g r => cases g <;> exact beq_eq_false_iff_ne.mp (by kernel_rfl!)
  | famLocal g r => cases g <;> exact beq_eq_false_iff_ne.mp (by kernel_rfl!)
  | famVariable g r => cases g <;> exact beq_eq_false_iff_ne.mp (by kernel_rfl!)
  | famVoid g n => cases g <;> exact beq_eq_false_iff_ne.mp (by kernel_rfl!)
  | famConstant g => cases g <;> exact beq_eq_false_iff_ne.mp (by kernel_rfl!)
  | _ => exact beq_eq_false_iff_ne.mp (by kernel_rfl!)
end Mine
end

section
open PySem PySem.W PySem.Spec PySem.Calls PyProof.Rows PyProof.V
set_option Elab.async false
set_option maxRecDepth 100000
namespace Mine
theorem drop_cons {α : Type} {l : List α} {i : Nat} {a : α} (h : l[i]? = some a) : l.drop i = a :: l.drop (i + 1) := by
  obtain ⟨hi, e⟩ := List.getElem?_eq_some_iff.mp h
  rw [List.drop_eq_getElem_cons hi, e]
end Mine
end

section
open PySem PySem.W PySem.Spec PySem.Calls PyProof.Rows
set_option Elab.async false
set_option maxRecDepth 100000
set_option maxHeartbeats 4000000
namespace Mine
theorem fillf1 : True ∨ (PySem.Challenge.rw_sa0151_01 = PySem.Challenge.rw_sa0151_01 ∧ hd.heap_1 = hd.heap_1) := by
  k_fill
  exact .inl trivial
theorem num_len {z : Int} (h0 : 0 ≤ z) (h1 : z ≤ 60) : (Str.ofString (toString z)).length ≤ 2 := by
  have h : ∀ i : Fin 61, (Str.ofString (toString ((i.val : Nat) : Int))).length ≤ 2 := by decide +kernel
  have := h ⟨z.toNat, by omega⟩
  simpa [Int.toNat_of_nonneg h0] using this
theorem told_end {z : Int} : Str.empty ++ Str.ofString (toString z) ++ Str.ofString ": the clause has no end" = Str.empty ++ Str.ofString (toString z) ++ Str.ofString ": " ++ Str.ofString "the clause has no end" := by
  have e : Str.ofString ": the clause has no end" = Str.ofString ": " ++ Str.ofString "the clause has no end" := by decide +kernel
  rw [e]
  have h : ∀ a b c : Str, a ++ (b ++ c) = a ++ b ++ c := fun a b c => by
    cases a; cases b; cases c
    show Str.mk _ = Str.mk _
    congr 1
    exact (Array.append_assoc).symm
  exact h _ _ _
section
variable {w : World} {F : Fn} {Γ : Cx w F} {lc lc' : Lcs} {R : RX} {P : Led → Prop} {k : Nat → Tok} {sg dx x : Addr} {S : CS} {rest : Led}
/-- a number of a written text -/
theorem Ev.fnum {e : PX} {i : Int} {pos : Pos} (h : Ev Γ lc P e (Vl.i i).is) (h0 : 0 ≤ i) (h1 : i ≤ 60) : Ev Γ lc P (.FormattedValue e (-1) none pos) (fun v => ∃ t, v = .str (Str.ofString (toString i)) t) := fun s Q E S q => FormattedValue_plain (h s _ E S fun v h2 t2 ⟨_, e⟩ S2 => by
  subst e
  exact formatField_int_small (by
    have : i.natAbs ≤ 60 := by omega
    have : i.natAbs.log2 ≤ Nat.log2 60 := by
      have h : ∀ j : Fin 61, j.val.log2 ≤ Nat.log2 60 := by decide
      exact h ⟨i.natAbs, by omega⟩
    have h9 : Nat.log2 60 < 1920 := by decide
    omega) (q _ h2 _ ⟨_, rfl⟩ S2))
theorem Ev.fstr {e : PX} {pos : Pos} {φ : Str → Prop} (h : Ev Γ lc P e (fun v => ∃ y t, v = .str y t ∧ φ y)) (hl : ∀ y, φ y → y.length ≤ 100) : Ev Γ lc P (.FormattedValue e (-1) none pos) (fun v => ∃ y t, v = .str y t ∧ φ y) := fun s Q E S q => FormattedValue_plain (h s _ E S fun v h2 t2 ⟨y, _, e, hy⟩ S2 => by
  subst e
  exact formatField_str (fun t' tk => q _ h2 tk ⟨y, t', rfl, hy⟩ S2) (by have := hl y hy; rw [sizeLine_eq]; omega))
/-- f'{n}text' -/
theorem Ev.told2 {e : PX} {i : Int} {p1 p2 pos : Pos} {kn : Nat} {b : Str} (h : Ev Γ lc P e (Vl.i i).is) (h0 : 0 ≤ i) (h1 : i ≤ 60) (hb : b.length ≤ 100) : Ev Γ lc P (.JoinedStr [.FormattedValue e (-1) none p1, .Constant (.str b) kn p2] pos) (Vl.s (Str.empty ++ Str.ofString (toString i) ++ b)).is := fun s Q E S q => by
  have hn := num_len h0 h1
  refine JoinedStr_many (joinParts_cons (Ev.fnum h h0 h1 s _ E S fun v h2 t2 ⟨t, e⟩ S2 => ?_))
  subst e
  have z1 : (Str.empty ++ Str.ofString (toString i)).length ≤ 2 := by rw [Str.length_append]; exact (Nat.zero_add _).symm ▸ hn
  refine ⟨by rw [sizeLine_eq]; omega, joinParts_cons (Ev.str _ _ E S2 fun v h3 t3 ⟨t, e⟩ S3 => ?_)⟩
  subst e
  have z2 : (Str.empty ++ Str.ofString (toString i) ++ b).length ≤ 102 := by rw [Str.length_append]; omega
  exact ⟨by rw [sizeLine_eq]; omega, joinParts_nilE (joinParts_nil (q _ h3 _ ⟨_, rfl⟩ S3) (by rw [sizeLine_eq]; omega))⟩
/-- f'{n}text{told}' -/
theorem Ev.told3 {e e' : PX} {i : Int} {p1 p2 p3 pos : Pos} {kn : Nat} {b : Str} {φ : Str → Prop} (h : Ev Γ lc P e (Vl.i i).is) (h0 : 0 ≤ i) (h1 : i ≤ 60) (hb : b.length ≤ 100) (h' : Ev Γ lc P e' (fun v => ∃ y t, v = .str y t ∧ φ y)) (hl : ∀ y, φ y → y.length ≤ 100) :
    Ev Γ lc P (.JoinedStr [.FormattedValue e (-1) none p1, .Constant (.str b) kn p2, .FormattedValue e' (-1) none p3] pos) (fun v => ∃ y t, v = .str (Str.empty ++ Str.ofString (toString i) ++ b ++ y) t ∧ φ y) := fun s Q E S q => by
  have hn := num_len h0 h1
  refine JoinedStr_many (joinParts_cons (Ev.fnum h h0 h1 s _ E S fun v h2 t2 ⟨t, e⟩ S2 => ?_))
  subst e
  have z1 : (Str.empty ++ Str.ofString (toString i)).length ≤ 2 := by rw [Str.length_append]; exact (Nat.zero_add _).symm ▸ hn
  refine ⟨by rw [sizeLine_eq]; omega, joinParts_cons (Ev.str _ _ E S2 fun v h3 t3 ⟨t, e⟩ S3 => ?_)⟩
  subst e
  have z2 : (Str.empty ++ Str.ofString (toString i) ++ b).length ≤ 102 := by rw [Str.length_append]; omega
  refine ⟨by rw [sizeLine_eq]; omega, joinParts_consE (joinParts_cons (Ev.fstr h' hl _ _ E S3 fun v h4 t4 ⟨y, t, e, hy⟩ S4 => ?_))⟩
  subst e
  have z3 : (Str.empty ++ Str.ofString (toString i) ++ b ++ y).length ≤ 202 := by rw [Str.length_append]; have := hl y hy; omega
  exact ⟨by rw [sizeLine_eq]; omega, joinParts_nilE (joinParts_nil (q _ h4 _ ⟨y, _, rfl, hy⟩ S4) (by rw [sizeLine_eq]; omega))⟩
/-- self.fault -/
theorem Ev.ckFault {self : Str} {sp ap : Pos} (hs : (self, Vl.r x) ∈ lc) (hx : (x, instObj 358 dx) ∈ rest) (hk : autoParam (Γ.env.kindOf self = some .local) rfl9) (hd : autoParam ((self == "__debug__") = false) rfl9) :
    Ev Γ lc (Ck w k sg dx S rest) (.Attribute (.Name self sp) (Str.ofString "fault") ap) (fun v => ∃ y t, v = .str y t ∧ y.length ≤ 100 ∧ (y == Str.ofString "") = !S.bad) := by
  intro s Q E S₀ q
  refine Attribute_Name_ (Ev.name hs hk hd s _ E S₀ fun u h2 t2 hu S2 => ?_)
  have hu' : u = .ref x := hu
  subst hu'
  obtain ⟨⟨m, Fm, hm⟩, news, N, hC⟩ := S2
  obtain ⟨D, rfl⟩ := hC
  have I := InstAt.of_news N (.tail _ (.tail _ (.tail _ hx))) (.head _)
  have e : (D.flt == Str.ofString "") = !S.bad := by
    cases hb : S.bad with
    | false => exact beq_iff_eq.mpr (D.hflt.mpr hb)
    | true => exact beq_eq_false_iff_ne.mpr fun e => by have := D.hflt.mp e; rw [hb] at this; cases this
  exact get_own (attr := none) Fm Γ.X I (by kernel_rfl!) (by kernel_rfl!) (by kernel_rfl!) (by kernel_rfl!) rfl rfl (q _ h2 _ ⟨D.flt, D.t5, rfl, D.hfl, e⟩ ⟨⟨m, Fm, hm⟩, _, N, ⟨D, rfl⟩⟩)
theorem Ec.faultNe {self : Str} {sp ap pos vp : Pos} {kn : Nat} (hs : (self, Vl.r x) ∈ lc) (hx : (x, instObj 358 dx) ∈ rest) (hk : autoParam (Γ.env.kindOf self = some .local) rfl9) (hd : autoParam ((self == "__debug__") = false) rfl9) :
    Ec Γ lc (Ck w k sg dx S rest) (.Compare (.Attribute (.Name self sp) (Str.ofString "fault") ap) [.NotEq] [.Constant (.str (Str.ofString "")) kn vp] pos) S.bad :=
  .cmp (Ev.ckFault hs hx hk hd) (V2 := (Vl.s (Str.ofString "")).is) .str (marks _ _ rfl) fun _ _ ⟨y, t, e1, _, hy⟩ ⟨_, e2⟩ s _ _ S q => by
    subst e1 e2
    refine ne_str ?_
    have : (y != Str.ofString "") = _ := rfl
    rw [show (y != Str.ofString "") = !(y == Str.ofString "") from rfl, hy, Bool.not_not]
    exact q s.heap s.toks S
end
theorem cf_way {S : CS} {i : Nat} {row : Row} {l : List Row} : cf S i (row :: l) = if (if S.en then S.complain else S.step row).bad then some i else cf (S.step row) (i + 1) l := by
  show (if S.en then some i else if (S.step row).bad then some i else cf (S.step row) (i + 1) l) = _
  cases S.en with
  | true => rfl
  | false => rfl
theorem cf_core (w : World) (sg ra : Addr) (nr : Nat) (t : Tok) (ar : Int) (vs : List Value) (rows : List Row) (rest : Led) (ha : ar = 0 ∨ ar = 1 ∨ ar = 2) (hs : SymAt w sg rest) (hm : (ra, listOf vs.toArray nr) ∈ rest) (hr : RowsAt rest vs rows) (hwf : ∀ r ∈ rows, r.wf ∧ r.ck) (hl : vs.length ≤ 60) :
   Spec w 369 40 1600 [.ref sg, .int ar t, .ref ra] rest (fun res nn => nn = rest ∧ ∃ told tt, res = .str told tt ∧ ToldAt told (cf (CS.init (initXs ar)) 0 rows)) := by
  refine (?_ : Spec w 369 40 1600 [.ref sg, .int ar t, .ref ra] rest (fun res nn => (∀ p ∈ rest, p ∈ nn) ∧ ∃ told tt, res = .str told tt ∧ ToldAt told (cf (CS.init (initXs ar)) 0 rows))).conv (Nat.le_refl _) (Nat.le_refl _) (fun _ h => h) fun r n ⟨hs, h⟩ => ⟨rest, ⟨rfl, h⟩, hs⟩
  refine (?_ : ∀ n, n = rest → Spec w 369 40 1600 [.ref sg, .int ar t, .ref ra] n (fun res nn => (∀ p ∈ rest, p ∈ nn) ∧ ∃ told tt, res = .str told tt ∧ ToldAt told (cf (CS.init (initXs ar)) 0 rows))) rest rfl
  refine' Spec.body (lc := [(Str.ofString "symbols", .r sg), (Str.ofString "arity", .i ar), (Str.ofString "instrs", .r ra)]) ?k6 ?k7 ?k9 ?kB ?c2 ?c3 ?c4 ?c5 ?hlc ?hd1 ?hu1 ?H
  case k6 => k_is
  case k7 => k_is
  case k9 => exact rfl
  case kB => exact rfl
  case c2 => exact rfl
  case c3 => exact rfl
  case c4 => exact rfl
  case c5 => decide
  case hlc => exact ⟨⟨_, rfl, rfl⟩, ⟨_, rfl, _, rfl⟩, ⟨_, rfl, rfl⟩, trivial⟩
  case hd1 => exact rfl
  case hu1 => exact rfl
  intro Γ hroom
  refine .setT (RV := fun v P' => ∃ d o kvs, v = .ref d ∧ (d == sysModules) = false ∧ o.IsDictOf (strKind PR w) kvs ∧ StrVals kvs shapeL ∧ P' = fun n => n = (d, o) :: rest) (.conv (EvT.call0 (f := 173) (dp := 8) (un := 400) (post := fun v nn => ∃ d o kvs, v = .ref d ∧ (d == sysModules) = false ∧ o.IsDictOf (strKind PR w) kvs ∧ StrVals kvs shapeL ∧ nn = (d, o) :: rest) (by kernel_rfl!) rfl (by decide +kernel) (by kernel_rfl!) rfl (fun n e => ?_) (hroom.le (by decide) (by decide))) ?_) rfl rfl ?_
  · subst e
    exact (shapes_core w n).conv (Nat.le_refl _) (Nat.le_refl _) (fun _ h => h) fun v nn ⟨d, o, kvs, h1, h2, _, h3, h4, h5⟩ => ⟨nn, ⟨d, o, kvs, h1, h3, h4, h5, h2⟩, fun _ h => h⟩
  · intro v P' e h n N hn
    subst e
    obtain ⟨d, o, kvs, h1, h3, h4, h5, h2⟩ := hn
    exact ⟨_, ⟨d, o, kvs, h1, h3, h4, h5, rfl⟩, n, h2, fun _ h => h⟩
  rintro v P' ⟨d, o, kvs, rfl, hlo, hdo, hkv, rfl⟩
  refine ⟨.r d, _, rfl, Dropped.cons (by kernel_rfl!), ?_⟩
  refine .setT (.make ha (.tail _ (.head _)) (.tail _ (.tail _ (.head _))) (hroom.le (by decide) (by decide))) rfl rfl ?_
  rintro v P' ⟨x, dx, n0, k, rfl, rfl, _, rfl⟩
  refine ⟨.r x, _, rfl, Dropped.cons (by kernel_rfl!), ?_⟩
  refine .set (vl := .b false) .bool (nm_ok (by kernel_rfl!)) rfl rfl ?_
  have hx : (x, instObj 358 dx) ∈ (x, instObj 358 dx) :: (d, o) :: rest := .head _
  have hd : (d, o) ∈ (x, instObj 358 dx) :: (d, o) :: rest := .tail _ (.head _)
  have hsub : ∀ p ∈ rest, p ∈ (x, instObj 358 dx) :: (d, o) :: rest := fun p hp => .tail _ (.tail _ hp)
  generalize (x, instObj 358 dx) :: (d, o) :: rest = R1 at hx hd hsub
  generalize hL : [(Str.ofString "checker", Vl.r x), (Str.ofString "table", Vl.r d), (Str.ofString "symbols", Vl.r sg), (Str.ofString "arity", Vl.i ar), (Str.ofString "instrs", Vl.r ra)] = L
  have mc : (Str.ofString "checker", Vl.r x) ∈ L := hL ▸ .head _
  have mt : (Str.ofString "table", Vl.r d) ∈ L := hL ▸ .tail _ (.head _)
  have mi : (Str.ofString "instrs", Vl.r ra) ∈ L := hL ▸ .tail _ (.tail _ (.tail _ (.tail _ (.head _))))
  have nd : ∀ p ∈ L, p.1 ≠ Str.ofString "dead" := hL ▸ nm_ok (by kernel_rfl!)
  have np : ∀ p ∈ (Str.ofString "dead", Vl.b false) :: L, p.1 ≠ Str.ofString "place" := hL ▸ nm_ok (by kernel_rfl!)
  clear hL
  have hlen := rowsAt_len hr
  have hgi : (CS.init (initXs ar)).good := good_init (by rcases ha with rfl | rfl | rfl <;> decide)
  refine .forRange (a := 0) (b := vs.length) vs.length (fun i l p => l = (Str.ofString "dead", .b false) :: L ∧ ∃ S, p = Ck w k sg dx S R1 ∧ S.good ∧ S.bad = false ∧ cf S i (rows.drop i) = cf (CS.init (initXs ar)) 0 rows) (.one (.lenL (.name (.tail _ mi) rfl rfl) (fun n h => ck_rest h _ (hsub _ hm)) (by omega) rfl (by kernel_rfl!) rfl rfl rfl) rfl (by kernel_rfl!) rfl rfl rfl) (small_one (by omega) (by omega) (by omega) (by omega)) (by rw [PyProof.Rows.rangeSize_nat]; omega) rfl rfl (fun _ => rfl) ⟨rfl, _, rfl, hgi, rfl, rfl⟩ ?_ ?_
  · rintro i l P I it hi ⟨rfl, S, rfl, hg, hb, hcf⟩
    obtain ⟨v, hv⟩ : ∃ v, vs[i]? = some v := ⟨_, List.getElem?_eq_getElem hi⟩
    obtain ⟨row, hrow, hat⟩ := rowsAt_get hr hv
    rw [drop_cons hrow, cf_way] at hcf
    obtain ⟨hw1, hw2⟩ := hwf row (List.mem_of_getElem? hrow)
    have hat' := hat
    obtain ⟨av, tv, ops, rfl, hm2, hops⟩ := hat'
    refine ⟨(Str.ofString "place", .i (0 + (i : Int))) :: (Str.ofString "dead", .b false) :: L, fun p hp => (List.mem_cons.mp hp).imp id fun hp => ⟨np p hp, hp⟩, ?_⟩
    refine .fact (fun n h => fresh_off h) fun hoff => .weak (fun _ h => h) (fun n h => ck_in h) ?_
    have hx' : (x, instObj 358 dx) ∈ (I, it) :: R1 := .tail _ hx
    have up : ∀ {S : CS} (n : Led), Ck w k sg dx S ((I, it) :: R1) n → ∀ p ∈ rest, p ∈ n := fun n h p hp => ck_rest h p (.tail _ (hsub p hp))
    have item : ∀ {S : CS} {p1 p2 p3 : Pos}, Ev Γ ((Str.ofString "place", .i (0 + (i : Int))) :: (Str.ofString "dead", .b false) :: L) (Ck w k sg dx S ((I, it) :: R1)) (.Subscript (.Name (Str.ofString "instrs") p1) (.Name (Str.ofString "place") p2) p3) (Vl.r av).is := fun {S p1 p2 p3} =>
      (Ev.lst (.name (.tail _ (.tail _ mi)) rfl rfl) (.name (.head _) rfl rfl) (fun n h => up n h _ hm) (by omega) (by omega) (by rw [show (0 + (i : Int)).toNat = i by omega]; exact hv) (fun _ => rfl)).is rfl
    refine .exprT (EvT.call (f := 243) (dp := 12) (un := 500) (post := fun v n => Ck w k sg dx S ((I, it) :: R1) n) (by kernel_rfl!) rfl (by decide +kernel) (by kernel_rfl!) (.three (V'' := (Vl.b false).is) (.name (.tail _ (.tail _ mt)) rfl rfl) item .bool rfl rfl rfl) rfl rfl rfl (fun us ⟨v1, v2, v3, e, e1, e2, e3⟩ n hn => ?_) (hroom.le (by decide) (by decide))) rfl rfl fun v P' e => ?_
    · have e1' : v1 = .ref d := e1
      have e2' : v2 = .ref av := e2
      have e3' : v3 = .bool false := e3
      subst e e1' e2' e3'
      exact (check_spec (rest := n) (ck_rest hn _ (.tail _ hd)) hlo hdo hkv (hat.mono (up n hn)) hw2).conv (Nat.le_refl _) (Nat.le_refl _) (fun _ h => h) fun v nn ⟨_, e⟩ => ⟨nn, e ▸ hn, fun _ h => h⟩
    subst e
    refine .ifF (.plain (.name (.tail _ (.head _)) rfl rfl) rfl) rfl (.nilT ?_)
    refine .ifJ (fun l p => l = (Str.ofString "place", .i (0 + (i : Int))) :: (Str.ofString "dead", .b false) :: L ∧ p = Ck w k sg dx (if S.en then S.complain else S.step row) ((I, it) :: R1)) (.plain (.ck (.tail _ (.tail _ mc)) hx' .ended rfl rfl) rfl) (fun h => ?_) (fun h => ?_) ?_
    · exact .say (.tail _ (.tail _ mc)) hx' (.text rfl) (hroom.le (by decide) (by decide)) (.nil ⟨rfl, rfl, by rw [if_pos h]⟩)
    · exact .meth1 (dp := 30) (un := 1200) (m_step w) (.tail _ (.tail _ mc)) hx' item (fun v e n hn => by
        have e' : v = .ref av := e
        subst e'
        exact step_spec hx' (hs.mono fun p hp => .tail _ (hsub p hp)) (hat.mono fun p hp => .tail _ (hsub p hp)) hw1 hn hg.room hg.fam) (hroom.le (by decide) (by decide)) (.nil ⟨rfl, rfl, by rw [if_neg (by rw [h]; decide)]⟩)
    rintro _ _ ⟨rfl, rfl⟩
    refine .ifC (.faultNe (.tail _ (.tail _ mc)) hx') (fun h => ?_) (fun h => .nilT ?_)
    · refine .ret (.told3 (.name (.head _) rfl rfl) (by omega) (by omega) (by decide) (.ckFault (.tail _ (.tail _ mc)) hx') fun y h => h.1) fun v ⟨y, tt, e, hy⟩ n hn => ⟨fun p hp => up n hn p hp, _, tt, e, ?_⟩
      rw [if_pos h] at hcf
      rw [← hcf]
      exact ⟨y, by rw [Int.zero_add], hy.1⟩
    · rw [if_neg (by rw [h]; decide)] at hcf
      refine .setT (Ev.eqS (x := row.name) ((Ev.tup (j := 0) item .int (fun n h => up n h _ hm2) (by decide) (by decide) (seqN (Nat.zero_lt_succ _)) rfl (fun _ => rfl)).is ⟨_, rfl⟩) .str).toT rfl rfl fun v P' ⟨hv', e⟩ => ⟨.b false, (Str.ofString "dead", .b false) :: L, by rw [show (row.name == Str.ofString "fail") = false from beq_eq_false_iff_ne.mpr (name_fail row)] at hv'; exact hv', fun p hp => (List.mem_cons.mp hp).imp id fun hp => ⟨nd p hp, .tail _ (.tail _ hp)⟩, ?_⟩
      subst e
      have hen : S.en = false := by
        cases h9 : S.en with
        | false => rfl
        | true => rw [h9, if_pos rfl] at h; exact absurd h (by simp [CS.complain])
      rw [hen, if_neg (by decide)] at h
      refine .nil ⟨_, _, ⟨rfl, S.step row, rfl, good_step hg hat.rok, h, hcf⟩, fun _ h => h, fun n hn => ?_⟩
      rw [hen, if_neg (by decide)] at hn
      exact ck_out hoff hn
  · rintro l P ⟨rfl, S, rfl, hg, hb, hcf⟩
    rw [hlen, List.drop_length] at hcf
    have hx' := hx
    refine .ifC (.not (.plain (.ck (.tail _ mc) hx .ended rfl rfl) rfl)) (fun h => ?_) (fun h => .nilT ?_)
    · refine .ret (.told2 (.lenL (.name (.tail _ mi) rfl rfl) (fun n h => ck_rest h _ (hsub _ hm)) (by omega) rfl (by kernel_rfl!) rfl rfl rfl) (by omega) (by omega) (by decide)) fun v ⟨tt, e⟩ n hn => ⟨fun p hp => ck_rest hn p (hsub p hp), _, tt, e, ?_⟩
      rw [← hcf]
      have hen : S.en = false := by simpa using h
      show ToldAt _ (if S.en then none else some rows.length)
      rw [hen, hlen]
      exact ⟨Str.ofString "the clause has no end", told_end, by decide⟩
    · refine .ret .str fun v ⟨tt, e⟩ n hn => ⟨fun p hp => ck_rest hn p (hsub p hp), _, tt, e, ?_⟩
      rw [← hcf]
      have hen : S.en = true := by simpa using h
      show ToldAt _ (if S.en then none else some rows.length)
      rw [hen]
      rfl
end Mine
end

section
open PySem PySem.W PySem.Spec PySem.Calls PyProof.Rows
set_option Elab.async false
set_option maxRecDepth 100000
set_option maxHeartbeats 8000000
namespace Mine


theorem fillf2 : True ∨ (PySem.Challenge.rw_sa0151_01 = PySem.Challenge.rw_sa0151_01 ∧ hd.heap_1 = hd.heap_1) := by
  k_fill
  exact .inl trivial
theorem cut_same {c : Nat} : ∀ {a b u v : List Nat}, a ++ c :: u = b ++ c :: v → c ∉ a → c ∉ b → a = b
  | [], [], _, _, _, _, _ => rfl
  | [], x :: b, u, v, h, _, hb => by
    have e := (List.cons.inj h).1
    exact absurd (e ▸ List.mem_cons_self) hb
  | x :: a, [], u, v, h, ha, _ => by
    have e := (List.cons.inj h).1
    exact absurd (e ▸ List.mem_cons_self) ha
  | x :: a, y :: b, u, v, h, ha, hb => by
    obtain ⟨e1, e2⟩ := List.cons.inj h
    rw [e1, cut_same e2 (fun q => ha (.tail _ q)) (fun q => hb (.tail _ q))]
theorem num_free {n : Nat} (h : n ≤ 60) : 58 ∉ (Str.ofString (toString (n : Int))).cps.toList := by
  have q : ∀ i : Fin 61, 58 ∉ (Str.ofString (toString ((i.val : Nat) : Int))).cps.toList := by decide +kernel
  exact q ⟨n, by omega⟩
theorem cps_app (a b : Str) : (a ++ b).cps.toList = a.cps.toList ++ b.cps.toList := by
  show (a.cps ++ b.cps).toList = _
  simp
theorem colon_is : Str.ofString ":" = ⟨#[58]⟩ := by decide +kernel
theorem told_cut {told : Str} {n : Nat} (h : ToldAt told (some n)) (hn : n ≤ 60) : ∃ r, Txt.split told (Str.ofString ":") = Str.ofString (toString (n : Int)) :: r := by
  obtain ⟨fl, rfl, hl⟩ := h
  have e0 : (Str.empty ++ Str.ofString (toString (n : Int)) ++ Str.ofString ": " ++ fl).cps.toList = (Str.ofString (toString (n : Int))).cps.toList ++ 58 :: (32 :: fl.cps.toList) := by
    have e1 : (Str.ofString ": ").cps.toList = [58, 32] := by decide +kernel
    have e2 : Str.empty.cps.toList = [] := rfl
    rw [cps_app, cps_app, cps_app, e1, e2]
    simp
  rw [colon_is]
  have hj := StrLaws.join_split (Str.empty ++ Str.ofString (toString (n : Int)) ++ Str.ofString ": " ++ fl) ⟨#[58]⟩
  have hf := StrLaws.split_free (Str.empty ++ Str.ofString (toString (n : Int)) ++ Str.ofString ": " ++ fl) 58
  generalize Txt.split (Str.empty ++ Str.ofString (toString (n : Int)) ++ Str.ofString ": " ++ fl) ⟨#[58]⟩ = ps at hj hf
  cases ps with
  | nil =>
    have := congrArg (fun x : Str => x.cps.toList) hj
    simp only [e0] at this
    have e2 : (Str.join ⟨#[58]⟩ []).cps.toList = [] := rfl
    rw [e2] at this
    simp at this
  | cons p ps =>
    refine ⟨ps, ?_⟩
    have hp := hf p (.head _)
    cases ps with
    | nil =>
      have e : p = _ := hj
      rw [e, e0] at hp
      simp at hp
    | cons q r =>
      have := congrArg (fun x : Str => x.cps.toList) hj
      simp only [e0] at this
      have e2 : (Str.join ⟨#[58]⟩ (p :: q :: r)).cps.toList = p.cps.toList ++ 58 :: (Str.join ⟨#[58]⟩ (q :: r)).cps.toList := by
        show ((p ++ ⟨#[58]⟩ ++ Str.join ⟨#[58]⟩ (q :: r)) : Str).cps.toList = _
        rw [cps_app, cps_app]
        simp
      rw [e2] at this
      have e3 := cut_same this hp (num_free hn)
      have e4 : p = Str.ofString (toString (n : Int)) := by
        cases p with
        | mk cps => 
          have e5 : cps.toList = (Str.ofString (toString (n : Int))).cps.toList := e3
          have e6 := Array.toList_inj.mp e5
          rw [e6]
      rw [e4]
theorem told_ne {told : Str} {n : Nat} (h : ToldAt told (some n)) : (told == Str.ofString "") = false := by
  obtain ⟨fl, rfl, hl⟩ := h
  refine beq_eq_false_iff_ne.mpr fun e => ?_
  have := congrArg Str.length e
  rw [Str.length_append, Str.length_append] at this
  have e1 : (Str.ofString ": ").length = 2 := by decide
  have e2 : (Str.ofString "").length = 0 := by decide
  omega
theorem told_size {told : Str} {n : Nat} (h : ToldAt told (some n)) (hn : n ≤ 60) : told.length + 2 ≤ sizeLine := by
  obtain ⟨fl, rfl, hl⟩ := h
  have h2 : (Str.ofString (toString (n : Int))).length ≤ 2 := by
    have q : ∀ i : Fin 61, (Str.ofString (toString ((i.val : Nat) : Int))).length ≤ 2 := by decide +kernel
    exact q ⟨n, by omega⟩
  rw [Str.length_append, Str.length_append, Str.length_append, sizeLine_eq]
  have e1 : (Str.ofString ": ").length = 2 := by decide
  have e2 : Str.empty.length = 0 := rfl
  omega
noncomputable def Cut (told : Str) (n : Nat) : Prop := ∃ r, Txt.split told (Str.ofString ":") = Str.ofString (toString (n : Int)) :: r
theorem cut_parts {told : Str} {n : Nat} {l : List (Str × Tok)} (h : Cut told n) (e : l.map (·.1) = Txt.split told (Str.ofString ":")) : ∃ t vs, strValues l = Value.str (Str.ofString (toString (n : Int))) t :: vs := by
  obtain ⟨r, hr⟩ := h
  rw [hr] at e
  obtain ⟨t, l', rfl, _⟩ := KSpl.cons_of e
  exact ⟨t, _, rfl⟩
theorem place_none (w : World) (tt : Tok) (rest : Led) : Spec w 418 5 200 [.str (Str.ofString "") tt] rest (fun res nn => nn = rest ∧ ∃ tk, res = .int (-1) tk) := by
  unfold Spec
  intro p loose mean mg mb dp un gd cn cs a ccd cl outer A₀ base h₀ L m s Q E B F X N T hkind hd hu hret
  refine wpAny_call ?_
  k_dflt ktr_enter
  k_steps
  rename News _ _ _ _ => kN'
  exact hret _ _ _ _ (by k_asm) kN' ⟨rfl, _, rfl⟩
theorem place_some (w : World) (told : Str) (tt : Tok) (n : Nat) (rest : Led) (hn : n ≤ 60) (h : ToldAt told (some n)) : Spec w 418 5 200 [.str told tt] rest (fun res nn => nn = rest ∧ ∃ tk, res = .int (n : Int) tk) := by
  have hcut : Cut told n := told_cut h hn
  unfold Spec
  intro p loose mean mg mb dp un gd cn cs a ccd cl outer A₀ base h₀ L m s Q E B F X N T hkind hd hu hret
  refine wpAny_call ?_
  k_dflt ktr_enter
  k_steps
  · exact absurd ‹(told == Str.ofString "") = true› (by rw [told_ne h]; decide)
  k_here
  k_dflt (refine KSpl.split1 (by k_asm) (by k_asm) (by decide) ?_ (told_size (by assumption) (by assumption)))
  intro D' l' h' k' e' a' F' N' l1
  obtain ⟨t', vs', e2'⟩ := cut_parts (by assumption) e'
  rw [e2'] at N'
  (try k_lt l1)
  k_steps
  rename News _ _ _ _ => kN'
  exact hret _ _ _ _ (by k_asm) (News.sub kN' (fun p hp => .tail _ hp)) ⟨rfl, _, rfl⟩
theorem place_core (w : World) (told : Str) (tt : Tok) (r : Option Nat) (rest : Led) (hn : ∀ n, r = some n → n ≤ 60) (h : ToldAt told r) : Spec w 418 5 200 [.str told tt] rest (fun res nn => nn = rest ∧ ∃ tk, res = .int (match r with | none => -1 | some n => (n : Int)) tk) := by
  cases r with
  | none => cases h; exact place_none w tt rest
  | some n => exact place_some w told tt n rest (hn n rfl) h
end Mine
end

section
open PySem PySem.W PySem.Spec PySem.Calls PyProof.Rows PyProof.V
set_option Elab.async false
set_option maxRecDepth 100000
set_option maxHeartbeats 4000000
namespace Mine
theorem fillg1 : True ∨ (PySem.Challenge.rw_sa0151_01 = PySem.Challenge.rw_sa0151_01 ∧ hd.heap_1 = hd.heap_1) := by
  k_fill
  exact .inl trivial
noncomputable def FigL (fs : List Value) : Prop := ∃ xs, IntsAre fs xs ∧ ∀ x ∈ xs, 0 ≤ x ∧ x < 1000
theorem FigL.app {fs : List Value} {z : Int} {t : Tok} (h : FigL fs) (h0 : 0 ≤ z) (h1 : z < 1000) : FigL (fs ++ [.int z t]) := by
  obtain ⟨xs, a, b⟩ := h
  refine ⟨xs ++ [z], a.append (.cons z t .nil), fun x hx => ?_⟩
  rcases List.mem_append.mp hx with hx | hx
  · exact b x hx
  · rw [List.mem_singleton.mp hx]; exact ⟨h0, h1⟩
/-- a contract that asks something of the base heap -/
noncomputable def SpecH (w : World) (f : Addr) (dp0 un0 : Nat) (args : List Value) (news : List (Addr × Obj)) (P : Heap → Prop) (post : Value → List (Addr × Obj) → Prop) : Prop :=
  ∀ (p : Program) (loose : List Str) (mean : ExcName → Option Value) (mg mb : Str → Option Value) (dp un : Nat) (gd : Option (List Code)) (cn : Str) (cs : Scope) (a : Addr) (ccd : Value) (cl : List (Str × Addr)) (outer : List Env) (A₀ : Around) (base h₀ : Heap) (L : Addr) (m : Str → Option Value) (s : Shared) (Q E : Value → Shared → Prop),
    P h₀ → Below A₀ base outer h₀ → Fr h₀ L s.heap m → (hd.heap_1 w.params).In h₀ → News h₀ L s.heap news → Top p loose mean mg mb h₀ → cs.kind = .function → dp + dp0 < recursionLimit → un + un0 < cLine →
    (∀ r news' h' tk', Fr h₀ L h' m → News h₀ L h' news' → post r news' → Q r { s with heap := h', toks := tk' }) →
    wpAny (model PySem.Challenge.rw_sa0151_01.row.prog w) (ktrTop dp un gd cn cs L a ccd cl outer) (call (.ref f) args) Q E s
theorem SpecH.body {w : World} {f : Addr} {d u d1 u1 : Nat} {args : List Value} {P : Led → Prop} {post : Value → Led → Prop} {lc : Lcs} {sa : Addr} {its : Array Value} {name qual : Str} {params : Arguments} {body : List Stmt} {scope : Scope} {dV kV doc pm cdv ct oc : Value} {an od : Option Addr} {osl : Array (Option Value)} {binds : List (Str × Value)}
    (k6 : (hd.heap_1 w.params).lookup f = some { cls := oc, dict := od, data := .func (fnOf name qual params body scope dV kV doc pm an cdv ct), slots := osl })
    (k7 : codeIn (hd.heap_1 w.params) cdv qual = true) (k9 : bindArgs (fnOf name qual params body scope dV kV doc pm an cdv ct) ⟨args, []⟩ = pure binds)
    (kB : (binds.all fun x => decide (scope.names.lookup x.1 = some .local)) = true) (c2 : scope.isCoroutine = false) (c3 : scope.isGenerator = false) (c4 : scope.kind = .function) (c5 : ∀ x ∈ scope.names, x.2 ≠ .cell)
    (hlc : lcOk lc binds.reverse) (hd1 : d1 = d + 1) (hu1 : u1 = u + 3)
    (H : ∀ Γ : Cx w ⟨qual, scope, f, cdv, []⟩, Γ.room d u → Γ.h₀.IsList sa its → Ex Γ lc P body (Ends post)) : ∀ news, P news → SpecH w f d1 u1 args news (fun h => h.IsList sa its) post := by
  subst hd1 hu1
  intro news hP
  unfold SpecH
  intro p loose mean mg mb dp un gd cn cs a ccd cl outer A₀ base h₀ L m s Q E hL B Fm X N T hkind hd hu hret
  refine wpAny_call ?_
  refine code_def B Fm X N T rfl rfl hkind k6 k7 (by show dp < _; omega) (BindsTo.of_eq k9) (locs kB) ?_ c2 c3 c4 c5
  intro g' L' h' FG' F' N' B' X' T'
  exact H ⟨p, loose, mean, mg, mb, dp + 1, un + 3, gd, envX cn cs L a ccd cl :: outer, _, _, g', L', B', X', T', c4⟩ ⟨by show dp + 1 + d < _; omega, by show un + 3 + u < _; omega⟩ (Fr.lst FG' hL) _ _ _ PassesOwn.leaving ⟨⟨_, F', hlc.all⟩, news, N', hP⟩ fun fl lc' P' h2 tk hr S2 => by
    obtain ⟨⟨m2, F2, _⟩, n2, N2, hP2⟩ := S2
    cases fl with
    | next => exact leaveK_ F2 N2 fun F3 N3 => hret _ _ _ _ F3 N3 (hr n2 hP2)
    | ret v => exact leaveK_ F2 N2 fun F3 N3 => hret _ _ _ _ F3 N3 (hr n2 hP2)
    | brk => exact hr.elim
    | cont => exact hr.elim
section
variable {w : World} {F : Fn} {Γ : Cx w F} {lc : Lcs} {P P' : Led → Prop} {R : RX}
theorem Ev.mulS {a b : PX} {pos : Pos} {x y : Int} (ha : Ev Γ lc P a (Vl.i x).is) (hb : Ev Γ lc P b (Vl.i y).is) (hx : Builtin.Int.intBits x ≤ 64 := by exact intBits_le_64 (by decide) (by decide)) : Ev Γ lc P (.BinOp a .Mult b pos) (Vl.i (x * y)).is :=
  ha.bin hb fun _ _ ⟨_, e1⟩ ⟨_, e2⟩ _ _ _ q => by subst e1; subst e2; exact mul_int (q _ _ ⟨_, rfl⟩) (IntMulOk.of_left hx)
theorem Ev.mod {a b : PX} {pos : Pos} {x y : Int} (ha : Ev Γ lc P a (Vl.i x).is) (hb : Ev Γ lc P b (Vl.i y).is) (hy : autoParam (y ≠ 0) dec9) : Ev Γ lc P (.BinOp a .Mod b pos) (Vl.i (x.fmod y)).is :=
  ha.bin hb fun _ _ ⟨_, e1⟩ ⟨_, e2⟩ _ _ _ q => by subst e1; subst e2; exact PyProof.Rows.mod_int hy (q _ _ ⟨_, rfl⟩)
theorem Ev.div {a b : PX} {pos : Pos} {x y : Int} (ha : Ev Γ lc P a (Vl.i x).is) (hb : Ev Γ lc P b (Vl.i y).is) (hy : autoParam (y ≠ 0) dec9) (hp : Builtin.divisionGoesByPylong x y = false := by exact PyProof.noPylong_of_log2 (by decide +kernel)) : Ev Γ lc P (.BinOp a .FloorDiv b pos) (Vl.i (x.fdiv y)).is :=
  ha.bin hb fun _ _ ⟨_, e1⟩ ⟨_, e2⟩ _ _ _ q => by subst e1; subst e2; exact PyProof.Rows.floordiv_int hy (q _ _ ⟨_, rfl⟩) (.inl hp)
theorem Ev.ifE {c a b : PX} {pos : Pos} {x : Bool} {V : Value → Prop} (hc : Ec Γ lc P c x) (ha : x = true → Ev Γ lc P a V) (hb : x = false → Ev Γ lc P b V) : Ev Γ lc P (.IfExp c a b pos) V := by
  intro s Q E S q
  refine IfExp_ (hc s _ E S fun h1 t1 S1 => ?_)
  cases x with
  | true => exact ha rfl _ Q E S1 fun v h2 t2 hv S2 => q v h2 t2 hv S2
  | false => exact hb rfl _ Q E S1 fun v h2 t2 hv S2 => q v h2 t2 hv S2
/-- xs[:k], a new list -/
theorem EvT.upto {x : Str} {xp cp lp pos : Pos} {kn k : Nat} {l : Addr} {vs : List Value} {ns : List Int} (hx : (x, Vl.r l) ∈ lc) (hl : ∀ n, P n → ∀ h, News Γ.h₀ Γ.L h n → (∀ m, Fr Γ.h₀ Γ.L h m → h.IsList l vs.toArray)) (hi : IntsAre vs ns) (hz : vs.length ≤ 1000) (hk : autoParam (Γ.env.kindOf x = some .local) rfl9) (hd9 : autoParam ((x == "__debug__") = false) rfl9)
    (hs : autoParam (∀ a, subscripted (.Slice none (some (.Constant (.int (k : Int)) kn cp)) none lp) false (.ref l) (.ref a) = operate [.ref a, .ref l] (getItem (.ref l) (.ref a))) unf9) (ht : autoParam (∀ r, letTemporaryGo (.Name x xp) (.ref l) r = pure ()) unf9) :
    EvT Γ lc P (.Subscript (.Name x xp) (.Slice none (some (.Constant (.int (k : Int)) kn cp)) none lp) pos) (fun v P' => ∃ D ws, v = .ref D ∧ IntsAre ws (ns.take k) ∧ P' = fun n => ∃ n0, n = (D, listOf ws.toArray 0) :: n0 ∧ P n0 ∧ ∀ p ∈ n0, p.1 < D) := by
  intro s Q E S q
  refine Subscript_ (Ev.name hx hk hd9 s _ E S fun o h1 t1 x1 S1 => wpAny_Slice (evalPart_none_step (evalPart_some_step (Ev.int _ _ E S1 fun o2 h2 t2 x2 S2 => evalPart_none_step ?_))))
  have x1' : o = .ref l := x1
  obtain ⟨t', x2'⟩ := x2
  subst x1' x2'
  obtain ⟨⟨m, Fm, hm⟩, news, N, hP⟩ := S2
  exact kmk_slice_ints (s := ⟨h2, s.gens, s.drawn, t2, s.os⟩) Fm N (hl news hP _ N m Fm) (by kmk_part) (by kmk_part) (ms := ns.take k) hi (kmk_upto (y := (k : Int)) hi (by omega)) rfl (fun D ws h' F' N' l1 hI _ _ => q _ _ h' _ ⟨D, ws, rfl, hI, rfl⟩ ⟨⟨m, F', hm⟩, _, N', news, rfl, hP, l1⟩) (hs _) ht (by rw [List.size_toArray, sizeLine_eq]; omega)
/-- xs.reverse() -/
theorem Ex.reverse {x : Str} {xp ap pos pos' : Pos} {st : List Stmt} {l : Addr} (hx : (x, Vl.r l) ∈ lc) (hl : ∀ n, P n → ∃ (vs : List Value) (c : Nat) (g : Obj → Led), UpdF l (listOf vs.toArray c) n g ∧ vs.length ≤ 1000 ∧ P' (g (listOf vs.reverse.toArray c))) (hr : Ex Γ lc P' st R) (hk : autoParam (Γ.env.kindOf x = some .local) rfl9) (hd9 : autoParam ((x == "__debug__") = false) rfl9)
    (hpl : autoParam (∃ pl, eval (.Call (.Attribute (.Name x xp) (Str.ofString "reverse") ap) [] [] pos) Γ.env = (do let ov ← eval (.Name x xp) Γ.env; standAt ap.atName; let (f, first) ← holding [ov] (getMethod ov (Str.ofString "reverse") pl); callWith pos f first (backTo pos (starEach [] Γ.env)) [])) some9)
    (hi : autoParam (interactive Γ.env = false) rfl9) (hw : autoParam (swapsWith (.Call (.Attribute (.Name x xp) (Str.ofString "reverse") ap) [] [] pos) none pos'.line Γ.env = pure false) rfl9) : Ex Γ lc P (.Expr (.Call (.Attribute (.Name x xp) (Str.ofString "reverse") ap) [] [] pos) pos' :: st) R := by
  refine .next fun s Q E po S q => wpAny_Expr_any ?_ hi hw
  obtain ⟨pl, hpl⟩ := hpl
  refine MethodCall_ (pl := pl) (Ev.name hx hk hd9 s _ E S fun v1 h1 t1 x1 S1 => ?_) hpl
  have x1' : v1 = .ref l := x1
  subst x1'
  obtain ⟨⟨m, Fm, hm⟩, news, N, hP⟩ := S1
  obtain ⟨vs, c, g, U, hz, hg⟩ := hl news hP
  have hmem : (l, listOf vs.toArray c) ∈ news := by obtain ⟨a, b, rfl, _⟩ := U.split; exact List.mem_append.mpr (.inr (.head _))
  refine listMethod_K N hmem PySem.F.slot_list_reverse PySem.F.type_list_reverse (callWith_method0 ?_)
  exact kl_reverse Fm N rfl (updF_upd U _) (by rw [sizeLine_eq]; simpa using (by omega : vs.length ≤ 16777216)) fun h' F' N' => q .next lc P' h' _ hr ⟨⟨m, F', hm⟩, _, N', hg⟩
end
/-- the figures' ledger in the loops -/
noncomputable def FG (fa D : Addr) (lst : Obj) (rest : Led) (k : Nat) : Led → Prop := fun n => ∃ fs nf, FigL fs ∧ fs.length ≤ k ∧ n = (D, lst) :: (fa, listOf fs.toArray nf) :: rest
theorem ints_get {vs : List Value} {ns : List Int} (h : IntsAre vs ns) : ∀ {i : Nat} {v : Value}, vs[i]? = some v → ∃ z t, v = .int z t := by
  induction h with
  | nil => intro i v h; simp at h
  | cons z t _ ih =>
    intro i v h
    cases i with
    | zero => cases h; exact ⟨z, t, rfl⟩
    | succ i => exact ih h
theorem figs_core (w : World) (sa : Addr) (vs : List Value) (ns : List Int) (rest : Led) (hi : IntsAre vs ns) (hl : vs.length ≤ 63) (hlay : (PyData.list (List.map PyData.int ns)).layable0 = true) :
    SpecH w 376 6 300 [.ref sa] rest (fun h => h.IsList sa vs.toArray) (fun r n => ∃ fa o, r = .ref fa ∧ Figs o ∧ n = (fa, o) :: rest ∧ ∀ p ∈ rest, p.1 < fa) := by
  refine (?_ : ∀ n, n = rest → SpecH w 376 6 300 [.ref sa] n (fun h => h.IsList sa vs.toArray) (fun r n => ∃ fa o, r = .ref fa ∧ Figs o ∧ n = (fa, o) :: rest ∧ ∀ p ∈ rest, p.1 < fa)) rest rfl
  refine' SpecH.body (lc := [(Str.ofString "script", .r sa)]) ?k6 ?k7 ?k9 ?kB ?c2 ?c3 ?c4 ?c5 ?hlc ?hd1 ?hu1 ?H
  case k6 => k_is
  case k7 => k_is
  case k9 => exact rfl
  case kB => exact rfl
  case c2 => exact rfl
  case c3 => exact rfl
  case c4 => exact rfl
  case c5 => decide
  case hlc => exact ⟨⟨_, rfl, rfl⟩, trivial⟩
  case hd1 => exact rfl
  case hu1 => exact rfl
  intro Γ hroom hsc
  -- figures = []
  refine .setT (.list .nil fun vs e => by rw [e]; decide) rfl rfl fun v P' ⟨fa, us, e1, e2, e3⟩ => ⟨.r fa, [(Str.ofString "figures", .r fa), (Str.ofString "script", .r sa)], e1, Dropped.cons (by kernel_rfl!), ?_⟩
  subst e1 e2 e3
  refine .fact (φ := ∀ p ∈ rest, p.1 < fa) (fun n ⟨n0, _, e, h⟩ => e ▸ h) fun hlt => .weak (lc' := [(Str.ofString "figures", .r fa), (Str.ofString "script", .r sa)]) (P' := fun n => n = (fa, listOf #[] 0) :: rest) (fun _ h => h) (fun n ⟨n0, e, e2, _⟩ => ⟨n, by rw [e, e2], fun _ h => h⟩) ?_
  -- for cell in script[:30]
  refine .forListT (RV := fun v P' => ∃ D ws, v = .ref D ∧ IntsAre ws (ns.take 30) ∧ @LT.lt Nat _ fa D ∧ (∀ p ∈ rest, p.1 < D) ∧ P' = FG fa D (listOf ws.toArray 0) rest 0) (.conv (.upto (k := 30) (ns := ns) (.tail _ (.head _)) (fun n _ h N m Fm => Fr.lst Fm hsc) hi (by omega)) fun v P' ⟨D, ws, e1, e2, e3⟩ h n N hn => ?_) rfl rfl (fun _ => rfl) ?_
  · subst e3
    obtain ⟨n0, rfl, rfl, h9⟩ := hn
    exact ⟨_, ⟨D, ws, e1, e2, h9 _ (.head _), fun p hp => h9 p (.tail _ hp), rfl⟩, _, ⟨[], 0, ⟨[], .nil, fun x hx => (nomatch hx)⟩, Nat.le_refl _, rfl⟩, fun _ h => h⟩
  rintro v P' ⟨D, ws, rfl, hI, hfD, hlD, rfl⟩
  have hwl : ws.length ≤ 30 := by rw [hI.length, List.length_take]; omega
  generalize hL : [(Str.ofString "figures", Vl.r fa), (Str.ofString "script", Vl.r sa)] = L0
  have mf : (Str.ofString "figures", Vl.r fa) ∈ L0 := hL ▸ .head _
  have nc : ∀ p ∈ L0, p.1 ≠ Str.ofString "cell" := hL ▸ nm_ok (by kernel_rfl!)
  have nw : ∀ c, ∀ p ∈ (Str.ofString "cell", Vl.i c) :: L0, p.1 ≠ Str.ofString "whole" := fun c => hL ▸ nm_ok (by kernel_rfl!)
  have nt : ∀ c z, ∀ p ∈ (Str.ofString "whole", Vl.i z) :: (Str.ofString "cell", Vl.i c) :: L0, p.1 ≠ Str.ofString "turn" := fun c z => hL ▸ nm_ok (by kernel_rfl!)
  clear hL
  refine ⟨D, ws, 0, fun i l P => l = L0 ∧ P = FG fa D (listOf ws.toArray 0) rest (24 * i), rfl, ?_, ⟨rfl, rfl⟩, ?_, ?_⟩
  · rintro i l P ⟨_, rfl⟩ n ⟨fs, nf, _, _, rfl⟩
    exact .head _
  · rintro i v l P I it hv hc ⟨e9, rfl⟩
    rw [e9]
    clear e9
    have hi30 : i < 30 := Nat.lt_of_lt_of_le (List.getElem?_eq_some_iff.mp hv).1 hwl
    obtain ⟨c, tc, rfl⟩ := ints_get hI hv
    refine ⟨.i c, _, ⟨tc, rfl⟩, fun p hp => (List.mem_cons.mp hp).imp id fun hp => ⟨nc p hp, hp⟩, ?_⟩
    refine .setT (Ev.toT (V := fun v => ∃ z t, v = .int z t) (.ifE (.ge (.name (v := .i c) (.head _) rfl rfl) .int) (fun _ => (Ev.name (v := .i c) (.head _) rfl rfl).mono fun v ⟨t, e⟩ => ⟨_, t, e⟩) fun _ => (Ev.sub (x := 3) .int (.mulS (x := 5) (y := c) .int (.name (.head _) rfl rfl))).mono fun v ⟨t, e⟩ => ⟨_, t, e⟩)) rfl rfl fun v P' ⟨⟨z, t, e⟩, e2⟩ => ⟨.i z, (Str.ofString "whole", .i z) :: (Str.ofString "cell", .i c) :: L0, ⟨t, e⟩, fun p hp => (List.mem_cons.mp hp).imp id fun hp => ⟨nw c p hp, hp⟩, ?_⟩
    subst e2
    clear e t tc hv
    refine .forRange (a := 0) (b := 24) 24 (fun j l p => ∃ z, l = (Str.ofString "whole", .i z) :: (Str.ofString "cell", .i c) :: L0 ∧ p = Fresh I it (FG fa D (listOf ws.toArray 0) rest (24 * i + j))) (.one .int rfl (by kernel_rfl!) rfl rfl rfl) (by decide) (by decide) rfl rfl (fun _ => rfl) ⟨z, rfl, rfl⟩ ?_ ?_
    · rintro j l p I2 it2 hj ⟨z, rfl, rfl⟩
      refine ⟨(Str.ofString "turn", .i (0 + (j : Int))) :: (Str.ofString "whole", .i z) :: (Str.ofString "cell", .i c) :: L0, fun p hp => (List.mem_cons.mp hp).imp id fun hp => ⟨nt c z p hp, hp⟩, ?_⟩
      refine .append (P' := Fresh I2 it2 (Fresh I it (FG fa D (listOf ws.toArray 0) rest (24 * i + j + 1)))) (.tail _ (.tail _ (.tail _ mf))) (.mod (y := 997) (.name (v := .i z) (.tail _ (.head _)) rfl rfl) .int) ?_ rfl rfl rfl ⟨_, rfl⟩ rfl rfl ?_
      · rintro n ⟨_, rfl, ⟨_, rfl, ⟨fs, nf, hf, hlen, rfl⟩, ho1⟩, ho2⟩
        refine ⟨fs, nf, _, .tail (Ne.symm (ho2 _ (.tail _ (.tail _ (.head _))))) (.tail (Ne.symm (ho1 _ (.tail _ (.head _)))) (.tail (Nat.ne_of_gt hfD) (.head fun p hp => Nat.ne_of_lt (hlt p hp)))), by omega, fun v ⟨t, e⟩ => ⟨_, rfl, ⟨_, rfl, ⟨_, _, e ▸ hf.app (fmod_in (by decide)).1 (Int.lt_trans (fmod_in (by decide)).2 (by decide)), by rw [List.length_append]; exact Nat.succ_le_succ hlen, rfl⟩, ?_⟩, ?_⟩⟩
        · intro p hp
          rcases List.mem_cons.mp hp with rfl | hp
          · exact ho1 _ (.head _)
          · rcases List.mem_cons.mp hp with rfl | hp
            · exact ho1 (fa, listOf fs.toArray nf) (.tail _ (.head _))
            · exact ho1 p (.tail _ (.tail _ hp))
        · intro p hp
          rcases List.mem_cons.mp hp with rfl | hp
          · exact ho2 _ (.head _)
          · rcases List.mem_cons.mp hp with rfl | hp
            · exact ho2 _ (.tail _ (.head _))
            · rcases List.mem_cons.mp hp with rfl | hp
              · exact ho2 (fa, listOf fs.toArray nf) (.tail _ (.tail _ (.head _)))
              · exact ho2 p (.tail _ (.tail _ (.tail _ hp)))
      refine .setT (Ev.toT (.div (y := 997) (.name (v := .i z) (.tail _ (.head _)) rfl rfl) .int)) rfl rfl fun v P' ⟨hv, e2⟩ => ⟨.i (z.fdiv 997), (Str.ofString "whole", .i (z.fdiv 997)) :: (Str.ofString "cell", .i c) :: L0, hv, fun p hp => (List.mem_cons.mp hp).imp id fun hp => ⟨nw c p hp, .tail _ (.tail _ hp)⟩, ?_⟩
      subst e2
      generalize z.fdiv 997 = z2
      refine .ifC (.eqI (.name (v := .i z2) (.head _) rfl rfl) .int) (fun _ => .brk ?_) (fun _ => .nilT (.nil ⟨_, _, ⟨z2, rfl, rfl⟩, fun _ h => h, fun n hn => ⟨n, hn, fun _ h => h⟩⟩))
      refine .weak (P' := Fresh I it (FG fa D (listOf ws.toArray 0) rest (24 * i + j + 1))) (fun _ h => h) (fun n ⟨nx, e, h, _⟩ => ⟨nx, h, fun p hp => e ▸ .tail _ hp⟩) (.nil ⟨L0, _, ⟨rfl, rfl⟩, fun p hp => .tail _ (.tail _ hp), fun n ⟨nx, e, ⟨fs, nf, h1, h2, h3⟩, ho⟩ => ⟨n, ⟨nx, e, ⟨fs, nf, h1, by omega, h3⟩, ho⟩, fun _ h => h⟩⟩)
    · rintro l p ⟨z, rfl, rfl⟩
      exact .nil ⟨L0, _, ⟨rfl, rfl⟩, fun p hp => .tail _ (.tail _ hp), fun n ⟨nx, e, ⟨fs, nf, h1, h2, h3⟩, ho⟩ => ⟨n, ⟨nx, e, ⟨fs, nf, h1, by omega, h3⟩, ho⟩, fun _ h => h⟩⟩
  rintro l P ⟨e9, rfl⟩
  rw [e9]
  clear e9 l
  -- figures = figures[:90]; figures.reverse()
  refine .exi fun fs => .exi fun nf => .fact (φ := FigL fs ∧ fs.length ≤ 24 * ws.length) (fun n h => ⟨h.1, h.2.1⟩) fun ⟨⟨xs, hx, hb⟩, hlen⟩ => ?_
  refine .setT (.upto (k := 90) (ns := xs) mf (fun n h g N m _ => by
    have hm : (fa, listOf fs.toArray nf) ∈ n := by rw [h.2.2]; exact .tail _ (.head _)
    exact News.isList N hm) hx (by omega)) rfl rfl fun v P' ⟨D2, us, e1, e2, e3⟩ => ⟨.r D2, [(Str.ofString "figures", .r D2)], e1, fun p hp => .inl (List.mem_singleton.mp hp), ?_⟩
  subst e1 e3
  refine .fact (φ := ∀ p ∈ rest, p.1 < D2) (fun n ⟨n0, _, h, h9⟩ p hp => h9 p (by rw [h.2.2]; exact .tail _ (.tail _ hp))) fun hlt2 => ?_
  refine .weak (lc' := [(Str.ofString "figures", .r D2)]) (P' := fun n => n = (D2, listOf us.toArray 0) :: rest) (fun _ h => h) (fun n ⟨n0, e, h, _⟩ => ⟨_, rfl, fun p hp => by
    rw [e, h.2.2]
    exact (List.mem_cons.mp hp).elim (fun h => h ▸ .head _) fun h => .tail _ (.tail _ (.tail _ h))⟩) ?_
  have hul : us.length ≤ 90 := by rw [e2.length, List.length_take]; omega
  refine .reverse (P' := fun n => n = (D2, listOf us.reverse.toArray 0) :: rest) (.head _) (fun n e => by subst e; exact ⟨us, 0, _, .head fun p hp => Nat.ne_of_lt (hlt2 p hp), by omega, rfl⟩) ?_
  refine .ret (.name (v := .r D2) (.head _) rfl rfl) fun v e n hn => ⟨D2, _, e, ⟨_, _, _, rfl, e2.reverse, by rw [List.length_reverse]; exact hul, fun x hx' => hb x (List.mem_of_mem_take (List.mem_reverse.mp hx'))⟩, hn, hlt2⟩
end Mine
end

section
open PySem PySem.W PySem.Spec PySem.Calls PyProof.Rows PyProof.V
set_option Elab.async false
set_option maxRecDepth 100000
namespace Mine
section
variable {K : Type} [DecidableEq K]
noncomputable def dK (enc : K → PyData) : Nat → List K → List (PyData × PyData)
  | _, [] => []
  | n, t :: r => (enc t, .int (n : Int)) :: dK enc (n + 1) r
noncomputable def ixK : Nat → List K → K → Int
  | _, [], _ => -1
  | n, a :: r, t => if a = t then (n : Int) else ixK (n + 1) r t
theorem dK_len (enc : K → PyData) : ∀ (n : Nat) (A : List K), (dK enc n A).length = A.length
  | _, [] => rfl
  | n, _ :: r => by simp [dK, dK_len enc (n + 1) r]
variable {enc : K → PyData} (henc : ∀ a b, PySem.Spec.same (enc a) (enc b) = decide (a = b))
include henc
theorem look_dK (t : K) : ∀ (n : Nat) (A : List K), (PySem.Spec.lookup (enc t) (dK enc n A)).getD (.int (-1)) = .int (ixK n A t)
  | _, [] => rfl
  | n, a :: r => by
    show Option.getD (if PySem.Spec.same (enc a) (enc t) then some (PyData.int (n : Int)) else PySem.Spec.lookup (enc t) (dK enc (n + 1) r)) _ = PyData.int (if a = t then (n : Int) else ixK (n + 1) r t)
    rw [henc]
    by_cases e : a = t
    · simp [e]
    · simpa [e] using look_dK t (n + 1) r
theorem any_dK (t : K) : ∀ (n : Nat) (A : List K), (dK enc n A).any (fun p => PySem.Spec.same p.1 (enc t)) = decide (t ∈ A)
  | _, [] => by simp [dK]
  | n, a :: r => by
    show (PySem.Spec.same (enc a) (enc t) || (dK enc (n + 1) r).any (fun p => PySem.Spec.same p.1 (enc t))) = _
    rw [henc, any_dK t (n + 1) r]
    by_cases e : a = t
    · simp [e]
    · have e' : ¬ t = a := fun h => e h.symm
      simp [e, e']
theorem put_dK {t : K} {n : Nat} {A : List K} (h : t ∉ A) : putD (enc t) (.int ((n + A.length : Nat) : Int)) (dK enc n A) = dK enc n (A ++ [t]) := by
  unfold putD
  rw [any_dK henc, if_neg (by simpa using h)]
  clear h
  induction A generalizing n with
  | nil => simp [dK]
  | cons a r ih =>
    have e : n + (a :: r).length = (n + 1) + r.length := by simp; omega
    rw [e]
    show (enc a, PyData.int (n : Int)) :: (dK enc (n + 1) r ++ [(enc t, PyData.int (((n + 1) + r.length : Nat) : Int))]) = _
    rw [ih]
    rfl
omit henc
theorem ix_neg {t : K} : ∀ {n : Nat} {A : List K}, ixK n A t < 0 → t ∉ A
  | _, [], _ => by simp
  | n, a :: r, h => by
    unfold ixK at h
    by_cases e : a = t
    · rw [if_pos e] at h; omega
    · rw [if_neg e] at h
      have := ix_neg h
      intro q
      rcases List.mem_cons.mp q with q | q
      · exact e q.symm
      · exact this q
theorem ix_none {t : K} : ∀ {n : Nat} {A : List K}, t ∉ A → ixK n A t = -1
  | _, [], _ => rfl
  | n, a :: r, h => by
    unfold ixK
    have e : ¬ a = t := fun e => h (by rw [e]; exact List.mem_cons_self)
    rw [if_neg e]
    exact ix_none fun q => h (.tail _ q)
end
noncomputable abbrev encF : List Int → PyData := encTuple PyData.int
theorem hencF : ∀ a b : List Int, PySem.Spec.same (encF a) (encF b) = decide (a = b) := same_encTuple same_int
/-- the functors' tuples -/
inductive FRows (L : Led) : List Value → List (List Int) → Prop
  | nil : FRows L [] []
  | cons {t a r ta tr vs F} : (t, tupOf [.int a ta, .int r tr]) ∈ L → FRows L vs F → FRows L (.ref t :: vs) ([a, r] :: F)
theorem FRows.snoc {L : Led} {vs F t a r ta tr} (h : FRows L vs F) (m : (t, tupOf [.int a ta, .int r tr]) ∈ L) : FRows L (vs ++ [.ref t]) (F ++ [[a, r]]) := by
  induction h with
  | nil => exact .cons m .nil
  | cons m' _ ih => exact .cons m' ih
theorem FRows.len {L : Led} {vs F} (h : FRows L vs F) : vs.length = F.length := by
  induction h with
  | nil => rfl
  | cons _ _ ih => simp [ih]
theorem FRows.at {L : Led} {vs F} (h : FRows L vs F) : ∀ {i : Nat} {a r : Int}, F[i]? = some [a, r] → ∃ t ta tr, vs[i]? = some (.ref t) ∧ (t, tupOf [.int a ta, .int r tr]) ∈ L := by
  induction h with
  | nil => intro i a r h; simp at h
  | cons m _ ih =>
    intro i a r h
    cases i with
    | zero => cases h; exact ⟨_, _, _, rfl, m⟩
    | succ i => exact ih h
section
variable {prog : Program} {w : World} {K : Type} [DecidableEq K]
/-- a dict with tuples as keys, the tuples in a part of the ledger -/
noncomputable def TupOn (knd : KeyKind prog w K) (enc : K → PyData) (rest : Led) (o : Obj) (D : List (PyData × PyData)) : Prop :=
  ∃ es ep xs, o.ExactDict ∧ o.data = .dict es ep ∧ es.toList = xs.map (entryOfKey (tupleKind knd)) ∧ (xs.map (·.1)).Nodup ∧
    (∀ x ∈ xs, ∃ ok, (x.2.1, ok) ∈ rest ∧ TupKeyObj knd x.1 ok) ∧ FlatPairs (encTuple enc) (kvsOf xs) D
variable {knd : KeyKind prog w K} {enc : K → PyData} {rest news : Led} {d : Addr} {o : Obj} {D : List (PyData × PyData)}
theorem TupOn.tab (T : TupOn knd enc rest o D) (lo : (d == sysModules) = false) (hm : (d, o) ∈ news) (hs : ∀ p ∈ rest, p ∈ news) : TupTab knd enc news d D :=
  let ⟨es, ep, xs, hc, hd, he, hn, hk, hf⟩ := T
  ⟨lo, o, es, ep, xs, hm, hc, hd, he, hn, fun x hx => let ⟨ok, hmk, t⟩ := hk x hx; ⟨ok, hs _ hmk, t⟩, hf⟩
theorem TupOn.mono {rest' : Led} (T : TupOn knd enc rest o D) (hs : ∀ p ∈ rest, (p.2.cls = .type "tuple") → p ∈ rest') : TupOn knd enc rest' o D :=
  let ⟨es, ep, xs, hc, hd, he, hn, hk, hf⟩ := T
  ⟨es, ep, xs, hc, hd, he, hn, fun x hx => let ⟨ok, hmk, t⟩ := hk x hx; ⟨ok, hs _ hmk t.1, t⟩, hf⟩
theorem TupOn.empty {K' : Type} [DecidableEq K'] {knd' : KeyKind prog w K'} (hd : o.IsDictOf knd' []) : TupOn knd enc rest o [] := by
  obtain ⟨es, ep, hc, hdat, _, hp, _⟩ := hd
  have he : es.toList = [] := List.length_eq_zero_iff.mp hp.length
  exact ⟨es, ep, [], hc, hdat, he, List.nodup_nil, fun _ hx => by simp at hx, .nil⟩
variable {A : Around} {E : Value → Shared → Prop} {s : Shared} {h₀ : Heap} {L a : Addr} {m : Str → Option Value} {ks : List K} {ok : Obj} {g : Obj → Led}
theorem set_tup {v : Value} {dv : PyData} {Q : Unit → Shared → Prop} (henc : ∀ a b, PySem.Spec.same (enc a) (enc b) = decide (a = b)) (hu : A.units + 1 < cLine) (hv : Flat v dv)
    (F : Fr h₀ L s.heap m) (N : News h₀ L s.heap news) (U : UpdF d o news g) (T : TupOn knd enc rest o D) (hs : ∀ p ∈ rest, p ∈ news) (hka : (a, ok) ∈ rest) (tk : TupKeyObj knd ks ok)
    (h : ∀ h' o', Fr h₀ L h' m → News h₀ L h' (g o') → TupOn knd enc rest o' (putD (encTuple enc ks) dv D) → Q () { s with heap := h', toks := s.toks + (ks.length + 1) })
    (hsz : D.length ≤ sizeLine) : wpAny (model prog w) A (setItem (.ref d) (.ref a) v) Q E s := by
  obtain ⟨pre, pst, rfl, hg, h1, h2⟩ := U.split
  obtain ⟨es, ep, xs, hc, hd, he, hn, hk, hf⟩ := T
  have hm : (d, o) ∈ pre ++ (d, o) :: pst := List.mem_append.mpr (.inr (.head _))
  have hD : s.heap.DictOfH (tupleKind knd) d xs := ⟨o, es, ep, N.get hm, hc, hd, he, fun x hx => let ⟨_, hmk, t⟩ := hk x hx; t.key (N.get (hs _ hmk)), hn⟩
  have hxs : xs.length ≤ sizeLine := by have e := hf.length; simp only [kvsOf, List.length_map] at e; omega
  refine wpAny_setItem_heap (hsz := hxs) (knd := tupleKind knd) (tupleKind_room_in1 hu) (tk.key (N.get (hs _ hka))) hD fun h' hm' hs' => ?_
  obtain ⟨o', es', ep', ho', hc', hd', he', _, hn'⟩ := hm'
  refine h h' o' (F.change hs' (N _ hm).2.1 (N.fresh hm)) (hg o' ▸ news_set N h1 h2 hs' ho') ⟨es', ep', storedH xs ks a v, hc', hd', he', hn', fun x hx => ?_, by rw [kvsOf_storedH]; exact hf.stored (same_encTuple henc) ks hv⟩
  rcases mem_storedH hx with ⟨y, hy, e1, e2⟩ | ⟨e1, e2⟩
  · obtain ⟨oky, hmk, t⟩ := hk y hy
    exact ⟨oky, by rw [e2]; exact hmk, by rw [e1]; exact t⟩
  · exact ⟨ok, by rw [e2]; exact hka, by rw [e1]; exact tk⟩
end
set_option genInjectivity false in
set_option genSizeOf false in
/-- the symbols' objects: four that change, the others in the rest -/
structure SyD (w : World) (sg : Addr) (nt : Nat) (A : List Str) (Fl F : List (List Int)) (rest : Led) where
  ds : Addr
  ta : Addr
  aa : Addr
  fl : Addr
  na : Addr
  kt : Nat → Tok
  tvs : List Value
  n1 : Nat
  oa : Obj
  kvs : List (Str × Value)
  fvs : List Value
  n3 : Nat
  on : Obj
  m1 : (sg, instObj 162 ds) ∈ rest
  m2 : (ds, dictOf (syEs w.params kt (.ref ta) (.ref aa) (.ref fl) (.ref na)) 4) ∈ rest
  htl : tvs.length = nt
  hda : oa.IsDictOf (strKind PR w) kvs
  hfa : FlatPairs PyData.str kvs (dK PyData.str 0 A)
  hlo : (aa == sysModules) = false
  hrows : FRows rest fvs Fl
  htup : TupOn (intKind PR w) PyData.int rest on (dK encF 0 F)
  hlo2 : (na == sysModules) = false
  x1 : @Ne Nat ta aa
  x2 : @Ne Nat ta fl
  x3 : @Ne Nat ta na
  x4 : @Ne Nat aa fl
  x5 : @Ne Nat aa na
  x6 : @Ne Nat fl na
  off : Off [(ta, listOf (List.toArray tvs) n1), (aa, oa), (fl, listOf (List.toArray fvs) n3), (na, on)] rest
noncomputable abbrev SyD.four {w : World} {sg : Addr} {nt : Nat} {A : List Str} {Fl F : List (List Int)} {rest : Led} (D : SyD w sg nt A Fl F rest) : Led := [(D.ta, listOf (List.toArray D.tvs) D.n1), (D.aa, D.oa), (D.fl, listOf (List.toArray D.fvs) D.n3), (D.na, D.on)]
noncomputable abbrev SymG (w : World) (sg : Addr) (nt : Nat) (A : List Str) (Fl F : List (List Int)) (four rest : Led) : Prop := ∃ D : SyD w sg nt A Fl F rest, four = D.four
noncomputable abbrev SymF (w : World) (sg : Addr) (A : List Str) (F : List (List Int)) (four rest : Led) : Prop := SymG w sg A.length A F F four rest
theorem FRows.mono' {L L' : Led} {vs F} (hs : ∀ p ∈ L, (p.2.cls = .type "tuple") → p ∈ L') (h : FRows L vs F) : FRows L' vs F := by
  induction h with
  | nil => exact .nil
  | cons m _ ih => exact .cons (hs _ m rfl) ih
theorem tup_cls {o : Obj} (h : o.cls = .type "tuple") : o.cls ≠ .type "tuple_iterator" := by rw [h]; intro q; injection q with q; exact absurd q (by decide)
theorem SymG.move {w : World} {sg : Addr} {nt : Nat} {A : List Str} {Fl F : List (List Int)} {four rest rest' : Led} (h : SymG w sg nt A Fl F four rest) (hs : ∀ p ∈ rest, p.2.cls ≠ .type "tuple_iterator" → p ∈ rest') (ho : Off four rest') : SymG w sg nt A Fl F four rest' := by
  obtain ⟨D, rfl⟩ := h
  have tup : ∀ p ∈ rest, (p.2.cls = .type "tuple") → p ∈ rest' := fun p hp hc => hs p hp (tup_cls hc)
  exact ⟨{ D with m1 := hs _ D.m1 (by intro q; cases q), m2 := hs _ D.m2 (by intro q; injection q with q; exact absurd q (by decide)), hrows := D.hrows.mono' tup, htup := D.htup.mono tup, off := ho }, rfl⟩
/-- bring an object of the ledger ahead -/
noncomputable def away (a : Addr) (L : Led) : Led := L.filter (fun p => decide (@Ne Nat p.1 a))
theorem away_off {a : Addr} {L : Led} : ∀ p ∈ away a L, p.1 ≠ a := fun p hp => of_decide_eq_true (List.mem_filter.mp hp).2
theorem away_sub {a : Addr} {L : Led} : ∀ p ∈ away a L, p ∈ L := fun _ hp => (List.mem_filter.mp hp).1
theorem away_mem {a : Addr} {L : Led} {p : Addr × Obj} (hp : p ∈ L) (h : p.1 ≠ a) : p ∈ away a L := List.mem_filter.mpr ⟨hp, decide_eq_true h⟩
theorem news_same {h₀ h : Heap} {L : Addr} {n1 n2 : Led} (N1 : News h₀ L h n1) (N2 : News h₀ L h n2) {a : Addr} {o o' : Obj} (h1 : (a, o) ∈ n1) (h2 : (a, o') ∈ n2) : o = o' := by
  have e1 := (N1 _ h1).1
  have e2 := (N2 _ h2).1
  exact Option.some.inj (e1.symm.trans e2)
theorem news_pull {h₀ h : Heap} {L : Addr} {news : Led} (N : News h₀ L h news) {a : Addr} {o : Obj} (hm : (a, o) ∈ news) : News h₀ L h ((a, o) :: away a news) :=
  News.sub N fun p hp => by
    rcases List.mem_cons.mp hp with rfl | hp
    · exact hm
    · exact away_sub p hp
theorem SymG.off {w : World} {sg : Addr} {nt : Nat} {A : List Str} {Fl F : List (List Int)} {four rest : Led} (h : SymG w sg nt A Fl F four rest) : Off four rest := by
  obtain ⟨D, rfl⟩ := h
  exact D.off
end Mine
end

section
open PySem PySem.W PySem.Spec PySem.Calls PyProof.Rows
set_option Elab.async false
set_option maxRecDepth 100000
set_option maxHeartbeats 8000000
namespace Mine


theorem filly2 : True ∨ (PySem.Challenge.rw_sa0151_01 = PySem.Challenge.rw_sa0151_01 ∧ hd.heap_1 = hd.heap_1) := by
  k_fill
  exact .inl trivial
noncomputable def atomsL : List Str := [Str.ofString "[]", Str.ofString ".", Str.ofString "{}", Str.ofString "-", Str.ofString "+", Str.ofString "*", Str.ofString "/", Str.ofString ",", Str.ofString "|", Str.ofString ";", Str.ofString "->", Str.ofString "\\+", Str.ofString ":-", Str.ofString "?-", Str.ofString "-->", Str.ofString "!", Str.ofString "true", Str.ofString "fail", Str.ofString "false", Str.ofString "call", Str.ofString "=", Str.ofString "^", Str.ofString "error", Str.ofString "", Str.ofString "end_of_file", Str.ofString "system", Str.ofString "$VAR", Str.ofString "catch", Str.ofString "throw"]
noncomputable def funsL : List (Str × Int) := [(Str.ofString ".", 2), (Str.ofString ",", 2), (Str.ofString ";", 2), (Str.ofString "->", 2), (Str.ofString "\\+", 1), (Str.ofString ":-", 2), (Str.ofString ":-", 1), (Str.ofString "?-", 1), (Str.ofString "-->", 2), (Str.ofString "{}", 1), (Str.ofString "=", 2), (Str.ofString "^", 2), (Str.ofString "-", 1), (Str.ofString "-", 2), (Str.ofString "+", 2), (Str.ofString "/", 2), (Str.ofString "error", 2), (Str.ofString "$VAR", 1), (Str.ofString "catch", 3), (Str.ofString "throw", 1), (Str.ofString "!", 0), (Str.ofString "true", 0), (Str.ofString "fail", 0), (Str.ofString "false", 0), (Str.ofString "call", 1), (Str.ofString "call", 2), (Str.ofString "call", 3), (Str.ofString "call", 4), (Str.ofString "call", 5), (Str.ofString "call", 6), (Str.ofString "call", 7), (Str.ofString "call", 8)]
/-- rows of a text and an arity -/
inductive FnRows (L : Led) : List Value → List (Str × Int) → Prop
  | nil : FnRows L [] []
  | cons {t x r t1 t2 vs F} : (t, tupOf [.str x t1, .int r t2]) ∈ L → FnRows L vs F → FnRows L (.ref t :: vs) ((x, r) :: F)
theorem FnRows.mono {L L' : Led} {vs F} (hs : ∀ p ∈ L, p ∈ L') (h : FnRows L vs F) : FnRows L' vs F := by
  induction h with
  | nil => exact .nil
  | cons m _ ih => exact .cons (hs _ m) ih
theorem mem_rot {a : Addr × Obj} {tl rest : Led} : ∀ p ∈ rest ++ a :: tl, p ∈ a :: (tl ++ rest) := fun p hp => by
  rcases List.mem_append.mp hp with hp | hp
  · exact .tail _ (List.mem_append.mpr (.inr hp))
  · rcases List.mem_cons.mp hp with rfl | hp
    · exact .head _
    · exact .tail _ (List.mem_append.mpr (.inl hp))
section
variable {w : World} {F : Fn} {Γ : Cx w F} {lc : Lcs} {P : Led → Prop} {R : RX} {rest : Led}
theorem fnRows_len {L : Led} {vs : List Value} {l : List (Str × Int)} (h : FnRows L vs l) : vs.length = l.length := by
  induction h with
  | nil => rfl
  | cons _ _ ih => simp only [List.length_cons, ih]
/-- rows of a text and a number -/
noncomputable def FnL (Γ : Cx w F) (lc : Lcs) (rest : Led) (es : List PX) (l : List (Str × Int)) : Prop :=
  ∀ tl, Above tl rest → ∀ pos s Q E, St Γ s.heap lc (fun n => n = tl ++ rest) → (∀ vs tl' h' tk, (∀ p ∈ tl, p ∈ tl') → Above tl' rest → FnRows tl' vs l → St Γ h' lc (fun n => n = tl' ++ rest) → Q vs { s with heap := h', toks := tk }) → wpAny (model PR w) Γ.A (spliced (backTo pos (starEach es Γ.env))) Q E s
theorem FnL.nil : FnL Γ lc rest [] [] := fun tl ha _ s _ _ S q => args_nil (q [] tl s.heap s.toks (fun _ h => h) ha .nil S)
theorem FnL.cons {x : Str} {i : Int} {k1 k2 k3 : Nat} {p1 p2 p3 : Pos} {es : List PX} {l : List (Str × Int)} (h : FnL Γ lc rest es l) : FnL Γ lc rest (.Tuple [.Constant (.str x) k1 p1, .Constant (.int i) k2 p2] k3 p3 :: es) ((x, i) :: l) := by
  intro tl ha pos s Q E S q
  refine args_cons (EvT.tuple (EvL.cons .str (EvL.cons .int .nil rfl) rfl) (fun vs ⟨v, r, e, _, v', r', e', _, e2⟩ => by subst e e' e2; exact Nat.le_of_ble_eq_true rfl) s _ E S fun v P' h1 t1 ⟨D, vs, e, ⟨v1, r1, e1, ⟨t', e2⟩, v2, r2, e3, ⟨t2, e4⟩, e5⟩, e6⟩ S1 => ?_) rfl
  subst e e1 e2 e3 e4 e5 e6
  obtain ⟨⟨m, Fm, hm⟩, news, N, n0, rfl, rfl, hl⟩ := S1
  refine h ((D, tupOf [.str x t', .int i t2]) :: tl) (fun p hp q hq => ?_) pos _ _ E ⟨⟨m, Fm, hm⟩, _, N, rfl⟩ fun vs tl' h2 t2 hs ha' hr S2 => q _ tl' h2 t2 (fun p hp => hs p (.tail _ hp)) ha' (.cons (hs _ (.head _)) hr) S2
  rcases List.mem_cons.mp hp with rfl | hp
  · exact hl q (List.mem_append.mpr (.inr hq))
  · exact ha p hp q hq
theorem EvT.fns {es : List PX} {l : List (Str × Int)} {k : Nat} {pos : Pos} (h : FnL Γ lc rest es l) (hl : l.length ≤ 1000) : EvT Γ lc (fun n => n = rest) (.Tuple es k pos) (fun v P' => ∃ D vs tl, v = .ref D ∧ FnRows tl vs l ∧ Above ((D, tupOf vs) :: tl) rest ∧ P' = fun n => n = (D, tupOf vs) :: (tl ++ rest)) := by
  intro s Q E S q
  refine Tuple_ (h [] (fun _ h => nomatch h) _ s _ E S fun vs tl h1 t1 _ ha hr S1 => ?_)
  obtain ⟨⟨m, Fm, hm⟩, news, N, rfl⟩ := S1
  exact kup_newTuple Fm N (fun D h' F' N' hlt => q (.ref D) _ h' _ ⟨D, vs, tl, rfl, hr, fun p hp q hq => by
    rcases List.mem_cons.mp hp with rfl | hp
    · exact hlt q (List.mem_append.mpr (.inr hq))
    · exact ha p hp q hq, rfl⟩ ⟨⟨m, F', hm⟩, _, N', rfl⟩) (by rw [sizeLine_eq, fnRows_len hr]; omega)
end
theorem fa_core (w : World) (rest : Led) : Spec w 68 3 100 [] rest (fun r n => ∃ D vs, r = .ref D ∧ n = rest ++ (D, tupOf vs) :: [] ∧ StrsAre vs atomsL ∧ Above [(D, tupOf vs)] rest) := by
  refine (?_ : Spec w 68 3 100 [] rest (fun r n => ∃ D vs, r = .ref D ∧ n = (D, tupOf vs) :: rest ∧ StrsAre vs atomsL ∧ Above [(D, tupOf vs)] rest)).conv (Nat.le_refl _) (Nat.le_refl _) (fun _ h => h) fun r n ⟨D, vs, e, e2, h, h'⟩ => ⟨_, ⟨D, vs, e, rfl, h, h'⟩, by subst e2; exact mem_rot (tl := [])⟩
  refine (?_ : ∀ n, n = rest → Spec w 68 3 100 [] n _) rest rfl
  refine' Spec.body (lc := []) ?k6 ?k7 ?k9 ?kB ?c2 ?c3 ?c4 ?c5 ?hlc ?hd1 ?hu1 ?H
  case k6 => k_is
  case k7 => k_is
  case k9 => exact rfl
  case kB => exact rfl
  case c2 => exact rfl
  case c3 => exact rfl
  case c4 => exact rfl
  case c5 => decide
  case hlc => exact trivial
  case hd1 => exact rfl
  case hu1 => exact rfl
  intro Γ hroom
  refine @Ex.retT _ _ _ _ _ _ _ _ _ _ (.tuple (Vs := fun vs => StrsAre vs atomsL) ?_ ?_) ?_
  · unfold atomsL
    repeat (first | exact EvL.strs0 | refine EvL.strs ?_)
  · intro vs h
    rw [strsAre_len h]
    exact Nat.le_of_ble_eq_true rfl
  · rintro v P' ⟨D, vs, e, h, rfl⟩ n ⟨n0, rfl, rfl, hl⟩
    exact ⟨D, vs, e, rfl, h, fun p hp q hq => by rw [List.mem_singleton.mp hp]; exact hl q hq⟩
theorem ff_core (w : World) (rest : Led) : Spec w 75 3 100 [] rest (fun r n => ∃ D vs tl, r = .ref D ∧ n = rest ++ (D, tupOf vs) :: tl ∧ FnRows tl vs funsL ∧ Above ((D, tupOf vs) :: tl) rest) := by
  refine (?_ : Spec w 75 3 100 [] rest (fun r n => ∃ D vs tl, r = .ref D ∧ n = (D, tupOf vs) :: (tl ++ rest) ∧ FnRows tl vs funsL ∧ Above ((D, tupOf vs) :: tl) rest)).conv (Nat.le_refl _) (Nat.le_refl _) (fun _ h => h) fun r n ⟨D, vs, tl, e, e2, h, h'⟩ => ⟨_, ⟨D, vs, tl, e, rfl, h, h'⟩, by subst e2; exact mem_rot⟩
  refine (?_ : ∀ n, n = rest → Spec w 75 3 100 [] n _) rest rfl
  refine' Spec.body (lc := []) ?k6 ?k7 ?k9 ?kB ?c2 ?c3 ?c4 ?c5 ?hlc ?hd1 ?hu1 ?H
  case k6 => k_is
  case k7 => k_is
  case k9 => exact rfl
  case kB => exact rfl
  case c2 => exact rfl
  case c3 => exact rfl
  case c4 => exact rfl
  case c5 => decide
  case hlc => exact trivial
  case hd1 => exact rfl
  case hu1 => exact rfl
  intro Γ hroom
  refine @Ex.retT _ _ _ _ _ _ _ _ _ _ (.fns (l := funsL) ?_ ?_) ?_
  · unfold funsL
    repeat (first | exact FnL.nil | refine FnL.cons ?_)
  · exact Nat.le_of_ble_eq_true rfl
  · rintro v P' ⟨D, vs, tl, e, h, h', rfl⟩ n rfl
    exact ⟨D, vs, tl, e, rfl, h, h'⟩
end Mine
end

section
open PySem PySem.W PySem.Spec PySem.Calls PyProof.Rows PyProof.V
set_option Elab.async false
set_option maxRecDepth 100000
set_option maxHeartbeats 4000000
namespace Mine
theorem filly3 : True ∨ (PySem.Challenge.rw_sa0151_01 = PySem.Challenge.rw_sa0151_01 ∧ hd.heap_1 = hd.heap_1) := by
  k_fill
  exact .inl trivial
noncomputable def atomIx (A : List Str) (t : Str) : Int := if 0 ≤ ixK 0 A t then ixK 0 A t else (A.length : Int)
noncomputable def atomAdd (A : List Str) (t : Str) : List Str := if 0 ≤ ixK 0 A t then A else A ++ [t]
/-- the symbols, on top of the rest -/
noncomputable def SP (w : World) (sg : Addr) (nt : Nat) (A : List Str) (Fl F : List (List Int)) (rest : Led) : Led → Prop := fun n => ∃ D : SyD w sg nt A Fl F rest, n = D.four ++ rest
theorem off4y {a b c d : Addr} {o1 o2 o3 o4 o1' o2' o3' o4' : Obj} {rest : Led} (h : Off [(a, o1), (b, o2), (c, o3), (d, o4)] rest) : Off [(a, o1'), (b, o2'), (c, o3'), (d, o4')] rest := fun p hp q hq => by
  simp only [List.mem_cons, List.mem_nil_iff, or_false] at hp
  rcases hp with rfl | rfl | rfl | rfl
  · exact h (a, o1) (.head _) q hq
  · exact h (b, o2) (.tail _ (.head _)) q hq
  · exact h (c, o3) (.tail _ (.tail _ (.head _))) q hq
  · exact h (d, o4) (.tail _ (.tail _ (.tail _ (.head _)))) q hq
theorem sp_mem {w : World} {sg : Addr} {nt : Nat} {A : List Str} {Fl FF : List (List Int)} {rest n : Led} (h : SP w sg nt A Fl FF rest n) : ∀ p ∈ rest, p ∈ n := by
  obtain ⟨_, rfl⟩ := h
  exact fun p hp => List.mem_append.mpr (.inr hp)
theorem sp_inst {w : World} {sg : Addr} {nt : Nat} {A : List Str} {Fl FF : List (List Int)} {rest : Led} {meth : Str} (hg : ∀ kt a b c d, getL meth (syEs w.params kt a b c d) = some none) : InstIn (SP w sg nt A Fl FF rest) sg 162 meth := fun n hn h₀ L h N => by
  have hS := hn
  obtain ⟨D, _⟩ := hS
  exact ⟨_, _, _, InstAt.of_news N (sp_mem hn _ D.m1) (sp_mem hn _ D.m2), hg ..⟩
section
variable {w : World} {F : Fn} {Γ : Cx w F} {lc : Lcs} {P P' : Led → Prop} {R : RX} {sg : Addr} {self : Str} {rest n : Led} {nt : Nat} {A : List Str} {Fl FF : List (List Int)}
theorem SyD.get (D : SyD w sg nt A Fl FF rest) {a : Str} {d : Addr} {sp ap : Pos} (hn : ∀ p ∈ rest, p ∈ n) (hs : (self, Vl.r sg) ∈ lc) (hg : getL a (syEs w.params D.kt (.ref D.ta) (.ref D.aa) (.ref D.fl) (.ref D.na)) = some (some (.ref d)))
    (h1 : plainGet (hd.heap_1 w.params) 162 a = true) (h3 : findIn (hd.heap_1 w.params) (.ref 162) a = some none) (hk : Γ.env.kindOf self = some .local) (hd9 : (self == "__debug__") = false) : Ev Γ lc (fun m => m = n) (.Attribute (.Name self sp) a ap) (Vl.r d).is :=
  (Ev.inst (C := 162) (.name hs hk hd9) (fun _ e => e ▸ hn _ D.m1) (fun _ e => e ▸ hn _ D.m2) h1 (by kernel_rfl!) h3 hg rfl).is rfl
/-- o.append(e), o an expression -/
theorem Ex.appendA {o e : PX} {ap pos pos' : Pos} {st : List Stmt} {V : Value → Prop} (he : ∀ P : Led → Prop, Ev Γ lc P e V)
    (hP : ∀ n, P n → ∃ (l : Addr) (vs : List Value) (c : Nat) (g : Obj → Led), Ev Γ lc (fun m => m = n) o (Vl.r l).is ∧ UpdF l (listOf vs.toArray c) n g ∧ vs.length ≤ 1000 ∧ ∀ v, V v → P' (g (listOf (vs ++ [v]).toArray (c + 1)))) (hr : Ex Γ lc P' st R)
    (hst : autoParam (starEach [e] Γ.env = (false, eval e Γ.env) :: starEach [] Γ.env) rfl9) (hpl : autoParam (∃ pl, eval (.Call (.Attribute o (Str.ofString "append") ap) [e] [] pos) Γ.env = (do let ov ← eval o Γ.env; standAt ap.atName; let (f, first) ← holding [ov] (getMethod ov (Str.ofString "append") pl); callWith pos f first (backTo pos (starEach [e] Γ.env)) [])) some9)
    (hi : autoParam (interactive Γ.env = false) rfl9) (hw : autoParam (swapsWith (.Call (.Attribute o (Str.ofString "append") ap) [e] [] pos) none pos'.line Γ.env = pure false) rfl9) : Ex Γ lc P (.Expr (.Call (.Attribute o (Str.ofString "append") ap) [e] [] pos) pos' :: st) R := by
  refine .next fun s Q E po S q => wpAny_Expr_any ?_ hi hw
  obtain ⟨pl, hpl⟩ := hpl
  obtain ⟨⟨m, Fm, hm⟩, news, N, hPn⟩ := S
  obtain ⟨l, vs, c, g, ho, U, hz, hg⟩ := hP news hPn
  refine MethodCall_ (pl := pl) (ho s _ E ⟨⟨m, Fm, hm⟩, news, N, rfl⟩ fun v1 h1 t1 x1 S1 => ?_) hpl
  have x1' : v1 = .ref l := x1
  subst x1'
  obtain ⟨⟨m1, F1, hm1⟩, n1, N1, rfl⟩ := S1
  refine listMethod_K N1 (by obtain ⟨a, b, rfl, _⟩ := U.split; exact List.mem_append.mpr (.inr (.head _))) PySem.F.slot_list_append PySem.F.type_list_append (callWith_method1 (EvL.cons (he fun m => m = n1) .nil hst pos _ _ E ⟨⟨m1, F1, hm1⟩, n1, N1, rfl⟩ fun us h2 t2 hv S2 => ?_) hst rfl)
  obtain ⟨v, r, e1, e2, e3⟩ := hv
  subst e1 e3
  obtain ⟨⟨m2, F2, hm2⟩, n2, N2, rfl⟩ := S2
  obtain ⟨pre, pst, rfl, hgg, u1, u2⟩ := U.split
  refine append_K F2 N2 (updF_upd U _) (fun h' F' N' => q .next lc P' h' _ hr ⟨⟨m2, F', hm2⟩, _, N', ?_⟩) (by rw [List.size_toArray, sizeLine_eq]; omega)
  rw [List.push_toArray]
  exact hg v e2
/-- o[i] = e, o an expression -/
theorem Ex.putA {o i e : PX} {ip pos : Pos} {st : List Stmt} {V VI : Value → Prop} (he : Ev Γ lc P e V) (hi : ∀ P : Led → Prop, Ev Γ lc P i VI)
    (hP : ∀ n, P n → ∃ d : Addr, Ev Γ lc (fun m => m = n) o (Vl.r d).is ∧ ∀ v vi, V v → VI vi → ∀ (s : Shared) (Q : Unit → Shared → Prop) E, St Γ s.heap lc (fun m => m = n) → (∀ h' tk, St Γ h' lc P' → Q () { s with heap := h', toks := tk }) → wpAny (model PR w) Γ.A (setItem (.ref d) vi v) Q E s)
    (hr : Ex Γ lc P' st R) (hw : autoParam (swapsWith e (some (.Subscript o i ip)) pos.line Γ.env = pure false) rfl9) : Ex Γ lc P (.Assign [.Subscript o i ip] e pos :: st) R := by
  refine .next fun s Q E po S₀ q => wpAny_Assign_Subscript (he s _ E S₀ fun v h1 t1 hv S1 => ?_) hw
  obtain ⟨⟨m, Fm, hm⟩, n, N, hPn⟩ := S1
  obtain ⟨d, ho, hset⟩ := hP n hPn
  refine ho _ _ E ⟨⟨m, Fm, hm⟩, n, N, rfl⟩ fun u h2 t2 hu S2 => hi _ _ _ E S2 fun vi h3 t3 hvi S3 => ?_
  have hu' : u = .ref d := hu
  subst hu'
  exact hset v vi hv hvi _ _ E S3 fun h4 t4 S4 => q .next lc _ h4 t4 hr S4
/-- self.atom_numbers.get(t, -1) -/
theorem Ev.symGet {t x : Str} {sp tp ap bp cp up pos : Pos} {kn : Nat} (hs : (self, Vl.r sg) ∈ lc) (ht : (t, Vl.s x) ∈ lc) (hk : autoParam (Γ.env.kindOf self = some .local) rfl9) (hd9 : autoParam ((self == "__debug__") = false) rfl9) (hkt : autoParam (Γ.env.kindOf t = some .local) rfl9) (hdt : autoParam ((t == "__debug__") = false) rfl9)
    (hst : autoParam (starEach [.Name t tp, .UnaryOp .USub (.Constant (.int 1) kn cp) up] Γ.env = (false, eval (.Name t tp) Γ.env) :: starEach [.UnaryOp .USub (.Constant (.int 1) kn cp) up] Γ.env) rfl9)
    (hpl : autoParam (∃ pl, eval (.Call (.Attribute (.Attribute (.Name self sp) (Str.ofString "atom_numbers") ap) (Str.ofString "get") bp) [.Name t tp, .UnaryOp .USub (.Constant (.int 1) kn cp) up] [] pos) Γ.env = (do let ov ← eval (.Attribute (.Name self sp) (Str.ofString "atom_numbers") ap) Γ.env; standAt bp.atName; let (f, first) ← holding [ov] (getMethod ov (Str.ofString "get") pl); callWith pos f first (backTo pos (starEach [.Name t tp, .UnaryOp .USub (.Constant (.int 1) kn cp) up] Γ.env)) [])) some9) :
    Ev Γ lc (SP w sg nt A Fl FF rest) (.Call (.Attribute (.Attribute (.Name self sp) (Str.ofString "atom_numbers") ap) (Str.ofString "get") bp) [.Name t tp, .UnaryOp .USub (.Constant (.int 1) kn cp) up] [] pos) (Vl.i (ixK 0 A x)).is := by
  refine .at fun n hn => ?_
  have hs9 := sp_mem hn
  obtain ⟨D, e9⟩ := hn
  have hm : (D.aa, D.oa) ∈ n := e9 ▸ .tail _ (.head _)
  intro s Q E S q
  obtain ⟨pl, hpl⟩ := hpl
  refine MethodCall_ (pl := pl) (D.get (d := D.aa) hs9 hs rfl (by kernel_rfl!) (by kernel_rfl!) hk hd9 s _ E S fun v1 h1 t1 x1 S1 => ?_) hpl
  have x1' : v1 = .ref D.aa := x1
  subst x1'
  obtain ⟨⟨m, Fm, hml⟩, news, N, rfl⟩ := S1
  refine getMethod_strTab_get (TabAt.ofNews N hm D.hlo D.hda D.hfa) (callWith_method1 (EvL.two (.name ht hkt hdt) .neg hst rfl pos _ _ E ⟨⟨m, Fm, hml⟩, news, N, rfl⟩ fun vs h2 t2 ⟨v1, v2, e, ⟨u1, e1⟩, ⟨u2, e2⟩⟩ S2 => ?_) hst rfl)
  subst e e1 e2
  obtain ⟨⟨m2', F2, hm2'⟩, _, N2, rfl⟩ := S2
  refine call_get2_strTab (dd := .int (-1)) (TabAt.ofNews N2 hm D.hlo D.hda D.hfa) (Flat.int _ _) fun v hv => ?_
  rw [look_dK same_str] at hv
  obtain ⟨t', rfl⟩ := Flat.int_inv hv
  exact q _ h2 _ ⟨t', rfl⟩ ⟨⟨m2', F2, hm2'⟩, _, N2, rfl⟩
/-- self.functor_numbers.get(key, -1) of a new key -/
theorem Ev.symGetF {t : Str} {sp tp ap bp cp up pos : Pos} {kn : Nat} {T : Addr} {a r : Int} {ta' tr' : Tok} (hT : (T, tupOf [.int a ta', .int r tr']) ∈ rest) (hnew : [a, r] ∉ FF) (hroom : Γ.room 0 2) (hs : (self, Vl.r sg) ∈ lc) (ht : (t, Vl.r T) ∈ lc) (hk : autoParam (Γ.env.kindOf self = some .local) rfl9) (hd9 : autoParam ((self == "__debug__") = false) rfl9) (hkt : autoParam (Γ.env.kindOf t = some .local) rfl9) (hdt : autoParam ((t == "__debug__") = false) rfl9)
    (hst : autoParam (starEach [.Name t tp, .UnaryOp .USub (.Constant (.int 1) kn cp) up] Γ.env = (false, eval (.Name t tp) Γ.env) :: starEach [.UnaryOp .USub (.Constant (.int 1) kn cp) up] Γ.env) rfl9)
    (hpl : autoParam (∃ pl, eval (.Call (.Attribute (.Attribute (.Name self sp) (Str.ofString "functor_numbers") ap) (Str.ofString "get") bp) [.Name t tp, .UnaryOp .USub (.Constant (.int 1) kn cp) up] [] pos) Γ.env = (do let ov ← eval (.Attribute (.Name self sp) (Str.ofString "functor_numbers") ap) Γ.env; standAt bp.atName; let (f, first) ← holding [ov] (getMethod ov (Str.ofString "get") pl); callWith pos f first (backTo pos (starEach [.Name t tp, .UnaryOp .USub (.Constant (.int 1) kn cp) up] Γ.env)) [])) some9) :
    Ev Γ lc (SP w sg nt A Fl FF rest) (.Call (.Attribute (.Attribute (.Name self sp) (Str.ofString "functor_numbers") ap) (Str.ofString "get") bp) [.Name t tp, .UnaryOp .USub (.Constant (.int 1) kn cp) up] [] pos) (Vl.i (-1)).is := by
  refine .at fun n hn => ?_
  have hs9 := sp_mem hn
  obtain ⟨D, e9⟩ := hn
  have hm : (D.na, D.on) ∈ n := e9 ▸ .tail _ (.tail _ (.tail _ (.head _)))
  intro s Q E S q
  obtain ⟨pl, hpl⟩ := hpl
  refine MethodCall_ (pl := pl) (D.get (d := D.na) hs9 hs rfl (by kernel_rfl!) (by kernel_rfl!) hk hd9 s _ E S fun v1 h1 t1 x1 S1 => ?_) hpl
  have x1' : v1 = .ref D.na := x1
  subst x1'
  obtain ⟨⟨m, Fm, hml⟩, news, N, rfl⟩ := S1
  have hT' := hs9 _ hT
  refine getMethod_tupTab_get N (TupOn.tab (K := Int) D.htup D.hlo2 hm hs9) (callWith_method1 (EvL.two (.name ht hkt hdt) .neg hst rfl pos _ _ E ⟨⟨m, Fm, hml⟩, news, N, rfl⟩ fun vs h2 t2 ⟨v1, v2, e, e1, ⟨u2, e2⟩⟩ S2 => ?_) hst rfl)
  have e1' : v1 = .ref T := e1
  subst e e1' e2
  obtain ⟨⟨m2', F2, hm2'⟩, _, N2, rfl⟩ := S2
  refine call_get2_tupTab (dd := .int (-1)) same_int (by have := hroom.2; show Γ.un + 1 < cLine; omega) N2 (TupOn.tab (K := Int) D.htup D.hlo2 hm hs9) hT' (TupKeyObj.made (ItemsAre.cons (intKind_is _ _ _ _) (ItemsAre.cons (intKind_is _ _ _ _) ItemsAre.nil))) (Flat.int _ _) fun v hv => ?_
  have hl : (PySem.Spec.lookup (PyProof.Rows.encTuple PyData.int [a, r]) (dK encF 0 FF)).getD (.int (-1)) = .int (-1) := by
    have := look_dK hencF [a, r] 0 FF
    rw [ix_none hnew] at this
    exact this
  rw [hl] at hv
  obtain ⟨t', rfl⟩ := Flat.int_inv hv
  exact q _ h2 _ ⟨t', rfl⟩ ⟨⟨m2', F2, hm2'⟩, _, N2, rfl⟩
end
section
variable {a b c d : Addr} {o1 o2 o3 o4 : Obj} {rest : Led}
theorem u1 (h2 : @Ne Nat a b) (h3 : @Ne Nat a c) (h4 : @Ne Nat a d) (h : Off [(a, o1), (b, o2), (c, o3), (d, o4)] rest) : UpdF a o1 ([(a, o1), (b, o2), (c, o3), (d, o4)] ++ rest) (fun o => [(a, o), (b, o2), (c, o3), (d, o4)] ++ rest) :=
  .head fun p hp => by
    simp only [List.cons_append, List.nil_append, List.append_eq, List.mem_cons] at hp
    rcases hp with rfl | rfl | rfl | hp
    · exact Ne.symm h2
    · exact Ne.symm h3
    · exact Ne.symm h4
    · exact h (a, o1) (.head _) p hp
theorem u2 (h1 : @Ne Nat a b) (h3 : @Ne Nat b c) (h4 : @Ne Nat b d) (h : Off [(a, o1), (b, o2), (c, o3), (d, o4)] rest) : UpdF b o2 ([(a, o1), (b, o2), (c, o3), (d, o4)] ++ rest) (fun o => [(a, o1), (b, o), (c, o3), (d, o4)] ++ rest) :=
  .tail h1 (.head fun p hp => by
    simp only [List.cons_append, List.nil_append, List.append_eq, List.mem_cons] at hp
    rcases hp with rfl | rfl | hp
    · exact Ne.symm h3
    · exact Ne.symm h4
    · exact h (b, o2) (.tail _ (.head _)) p hp)
theorem u3 (h1 : @Ne Nat a c) (h2 : @Ne Nat b c) (h4 : @Ne Nat c d) (h : Off [(a, o1), (b, o2), (c, o3), (d, o4)] rest) : UpdF c o3 ([(a, o1), (b, o2), (c, o3), (d, o4)] ++ rest) (fun o => [(a, o1), (b, o2), (c, o), (d, o4)] ++ rest) :=
  .tail h1 (.tail h2 (.head fun p hp => by
    simp only [List.cons_append, List.nil_append, List.append_eq, List.mem_cons] at hp
    rcases hp with rfl | hp
    · exact Ne.symm h4
    · exact h (c, o3) (.tail _ (.tail _ (.head _))) p hp))
theorem u4 (h1 : @Ne Nat a d) (h2 : @Ne Nat b d) (h3 : @Ne Nat c d) (h : Off [(a, o1), (b, o2), (c, o3), (d, o4)] rest) : UpdF d o4 ([(a, o1), (b, o2), (c, o3), (d, o4)] ++ rest) (fun o => [(a, o1), (b, o2), (c, o3), (d, o)] ++ rest) :=
  .tail h1 (.tail h2 (.tail h3 (.head fun p hp => h (d, o4) (.tail _ (.tail _ (.tail _ (.head _)))) p hp)))
end
theorem setA {w : World} {A9 : Around} {E : Value → Shared → Prop} {s : Shared} {h₀ : Heap} {L aa : Addr} {m : Str → Option Value} {x : Str} {t1 t2 : Tok} {oa : Obj} {kvs : List (Str × Value)} {A : List Str} {news : Led} {g : Obj → Led} {Q : Unit → Shared → Prop} (hx : x ∉ A) (hz : A.length ≤ 1000) (Fm : Fr h₀ L s.heap m) (N : News h₀ L s.heap news) (U : UpdF aa oa news g)
    (hda : oa.IsDictOf (strKind PR w) kvs) (hfa : FlatPairs PyData.str kvs (dK PyData.str 0 A))
    (q : ∀ h' o' kvs', Fr h₀ L h' m → News h₀ L h' (g o') → o'.IsDictOf (strKind PR w) kvs' → FlatPairs PyData.str kvs' (dK PyData.str 0 (A ++ [x])) → Q () { s with heap := h', toks := s.toks + 1 }) :
    wpAny (model PR w) A9 (setItem (.ref aa) (.str x t2) (.int (A.length : Int) t1)) Q E s :=
  setItem_K same_str (strKind_is _ _ _ _) (Flat.int _ _) Fm N U hda hfa (fun h' o' F' N' hd' hf' => q h' o' _ F' N' hd' (by
    have := put_dK same_str (n := 0) hx
    rw [Nat.zero_add] at this
    rwa [this] at hf')) (by rw [dK_len, sizeLine_eq]; omega)
section
variable {w : World} {F : Fn} {Γ : Cx w F} {lc : Lcs} {P P' : Led → Prop} {R : RX} {sg : Addr} {self : Str} {rest n : Led} {nt : Nat} {A : List Str} {Fl FF : List (List Int)}
/-- len(self.texts) -/
theorem Ev.symTexts {np sp ap pos : Pos} (hs : (self, Vl.r sg) ∈ lc) (hz : nt ≤ 1000) (hk : autoParam (Γ.env.kindOf self = some .local) rfl9) (hd9 : autoParam ((self == "__debug__") = false) rfl9) (hkl : autoParam (Γ.env.kindOf (Str.ofString "len") = some .globalImplicit) rfl9)
    (hst : autoParam (starEach [.Attribute (.Name self sp) (Str.ofString "texts") ap] Γ.env = (false, eval (.Attribute (.Name self sp) (Str.ofString "texts") ap) Γ.env) :: starEach [] Γ.env) rfl9) (hcall : autoParam (callIs (Str.ofString "len") np pos [.Attribute (.Name self sp) (Str.ofString "texts") ap] Γ.env) rfl9) :
    Ev Γ lc (SP w sg nt A Fl FF rest) (.Call (.Name (Str.ofString "len") np) [.Attribute (.Name self sp) (Str.ofString "texts") ap] [] pos) (Vl.i nt).is := by
  refine .at fun n hn => ?_
  have hs9 := sp_mem hn
  obtain ⟨D, e9⟩ := hn
  have hm : (D.ta, listOf D.tvs.toArray D.n1) ∈ n := e9 ▸ .head _
  rw [← D.htl]
  exact .lenL (D.get (d := D.ta) hs9 hs rfl (by kernel_rfl!) (by kernel_rfl!) hk hd9) (fun _ e => e ▸ hm) (by rw [D.htl]; exact hz) hkl (by kernel_rfl!) hst rfl hcall
/-- len(self.functors) -/
theorem Ev.symRows {np sp ap pos : Pos} (hs : (self, Vl.r sg) ∈ lc) (hz : Fl.length ≤ 1000) (hk : autoParam (Γ.env.kindOf self = some .local) rfl9) (hd9 : autoParam ((self == "__debug__") = false) rfl9) (hkl : autoParam (Γ.env.kindOf (Str.ofString "len") = some .globalImplicit) rfl9)
    (hst : autoParam (starEach [.Attribute (.Name self sp) (Str.ofString "functors") ap] Γ.env = (false, eval (.Attribute (.Name self sp) (Str.ofString "functors") ap) Γ.env) :: starEach [] Γ.env) rfl9) (hcall : autoParam (callIs (Str.ofString "len") np pos [.Attribute (.Name self sp) (Str.ofString "functors") ap] Γ.env) rfl9) :
    Ev Γ lc (SP w sg nt A Fl FF rest) (.Call (.Name (Str.ofString "len") np) [.Attribute (.Name self sp) (Str.ofString "functors") ap] [] pos) (Vl.i Fl.length).is := by
  refine .at fun n hn => ?_
  have hs9 := sp_mem hn
  obtain ⟨D, e9⟩ := hn
  have hm : (D.fl, listOf D.fvs.toArray D.n3) ∈ n := e9 ▸ .tail _ (.tail _ (.head _))
  rw [← D.hrows.len]
  exact .lenL (D.get (d := D.fl) hs9 hs rfl (by kernel_rfl!) (by kernel_rfl!) hk hd9) (fun _ e => e ▸ hm) (by rw [D.hrows.len]; exact hz) hkl (by kernel_rfl!) hst rfl hcall
/-- self.texts.append(t) -/
theorem Ex.symText {t x : Str} {sp tp ap bp pos pos' : Pos} {st : List Stmt} (hs : (self, Vl.r sg) ∈ lc) (ht : (t, Vl.s x) ∈ lc) (hz : nt ≤ 1000) (hr : Ex Γ lc (SP w sg (nt + 1) A Fl FF rest) st R) (hk : autoParam (Γ.env.kindOf self = some .local) rfl9) (hd9 : autoParam ((self == "__debug__") = false) rfl9) (hkt : autoParam (Γ.env.kindOf t = some .local) rfl9) (hdt : autoParam ((t == "__debug__") = false) rfl9)
    (hst : autoParam (starEach [.Name t tp] Γ.env = (false, eval (.Name t tp) Γ.env) :: starEach [] Γ.env) rfl9) (hpl : autoParam (∃ pl, eval (.Call (.Attribute (.Attribute (.Name self sp) (Str.ofString "texts") ap) (Str.ofString "append") bp) [.Name t tp] [] pos) Γ.env = (do let ov ← eval (.Attribute (.Name self sp) (Str.ofString "texts") ap) Γ.env; standAt bp.atName; let (f, first) ← holding [ov] (getMethod ov (Str.ofString "append") pl); callWith pos f first (backTo pos (starEach [.Name t tp] Γ.env)) [])) some9)
    (hi : autoParam (interactive Γ.env = false) rfl9) (hw : autoParam (swapsWith (.Call (.Attribute (.Attribute (.Name self sp) (Str.ofString "texts") ap) (Str.ofString "append") bp) [.Name t tp] [] pos) none pos'.line Γ.env = pure false) rfl9) :
    Ex Γ lc (SP w sg nt A Fl FF rest) (.Expr (.Call (.Attribute (.Attribute (.Name self sp) (Str.ofString "texts") ap) (Str.ofString "append") bp) [.Name t tp] [] pos) pos' :: st) R :=
  .appendA (V := (Vl.s x).is) (fun _ => .name ht hkt hdt) (fun n hn => by
    have hs9 := sp_mem hn
    obtain ⟨D, rfl⟩ := hn
    exact ⟨D.ta, D.tvs, D.n1, _, D.get (d := D.ta) hs9 hs rfl (by kernel_rfl!) (by kernel_rfl!) hk hd9, u1 D.x1 D.x2 D.x3 D.off, by rw [D.htl]; exact hz, fun v _ => ⟨{ D with tvs := D.tvs ++ [v], n1 := D.n1 + 1, htl := by rw [List.length_append, D.htl]; rfl, off := off4y D.off }, rfl⟩⟩) hr hst hpl hi hw
/-- self.functors.append(key) -/
theorem Ex.symRow {t : Str} {sp tp ap bp pos pos' : Pos} {st : List Stmt} {T : Addr} {a r : Int} {ta' tr' : Tok} (hT : (T, tupOf [.int a ta', .int r tr']) ∈ rest) (hs : (self, Vl.r sg) ∈ lc) (ht : (t, Vl.r T) ∈ lc) (hz : Fl.length ≤ 1000) (hr : Ex Γ lc (SP w sg nt A (Fl ++ [[a, r]]) FF rest) st R) (hk : autoParam (Γ.env.kindOf self = some .local) rfl9) (hd9 : autoParam ((self == "__debug__") = false) rfl9) (hkt : autoParam (Γ.env.kindOf t = some .local) rfl9) (hdt : autoParam ((t == "__debug__") = false) rfl9)
    (hst : autoParam (starEach [.Name t tp] Γ.env = (false, eval (.Name t tp) Γ.env) :: starEach [] Γ.env) rfl9) (hpl : autoParam (∃ pl, eval (.Call (.Attribute (.Attribute (.Name self sp) (Str.ofString "functors") ap) (Str.ofString "append") bp) [.Name t tp] [] pos) Γ.env = (do let ov ← eval (.Attribute (.Name self sp) (Str.ofString "functors") ap) Γ.env; standAt bp.atName; let (f, first) ← holding [ov] (getMethod ov (Str.ofString "append") pl); callWith pos f first (backTo pos (starEach [.Name t tp] Γ.env)) [])) some9)
    (hi : autoParam (interactive Γ.env = false) rfl9) (hw : autoParam (swapsWith (.Call (.Attribute (.Attribute (.Name self sp) (Str.ofString "functors") ap) (Str.ofString "append") bp) [.Name t tp] [] pos) none pos'.line Γ.env = pure false) rfl9) :
    Ex Γ lc (SP w sg nt A Fl FF rest) (.Expr (.Call (.Attribute (.Attribute (.Name self sp) (Str.ofString "functors") ap) (Str.ofString "append") bp) [.Name t tp] [] pos) pos' :: st) R :=
  .appendA (V := (Vl.r T).is) (fun _ => .name ht hkt hdt) (fun n hn => by
    have hs9 := sp_mem hn
    obtain ⟨D, rfl⟩ := hn
    exact ⟨D.fl, D.fvs, D.n3, _, D.get (d := D.fl) hs9 hs rfl (by kernel_rfl!) (by kernel_rfl!) hk hd9, u3 D.x2 D.x4 D.x6 D.off, by rw [D.hrows.len]; exact hz, fun v hv => by
      have hv' : v = .ref T := hv
      subst hv'
      exact ⟨{ D with fvs := D.fvs ++ [.ref T], n3 := D.n3 + 1, hrows := D.hrows.snoc hT, off := off4y D.off }, rfl⟩⟩) hr hst hpl hi hw
/-- self.atom_numbers[t] = number -/
theorem Ex.symNum {t x num : Str} {sp tp ap ip np pos : Pos} {st : List Stmt} (hx : x ∉ A) (hz : A.length ≤ 1000) (hs : (self, Vl.r sg) ∈ lc) (ht : (t, Vl.s x) ∈ lc) (hnum : (num, Vl.i A.length) ∈ lc) (hr : Ex Γ lc (SP w sg nt (A ++ [x]) Fl FF rest) st R) (hk : autoParam (Γ.env.kindOf self = some .local) rfl9) (hd9 : autoParam ((self == "__debug__") = false) rfl9) (hkt : autoParam (Γ.env.kindOf t = some .local) rfl9) (hdt : autoParam ((t == "__debug__") = false) rfl9) (hkn : autoParam (Γ.env.kindOf num = some .local) rfl9) (hdn : autoParam ((num == "__debug__") = false) rfl9)
    (hw : autoParam (swapsWith (.Name num np) (some (.Subscript (.Attribute (.Name self sp) (Str.ofString "atom_numbers") ap) (.Name t tp) ip)) pos.line Γ.env = pure false) rfl9) :
    Ex Γ lc (SP w sg nt A Fl FF rest) (.Assign [.Subscript (.Attribute (.Name self sp) (Str.ofString "atom_numbers") ap) (.Name t tp) ip] (.Name num np) pos :: st) R :=
  .putA (V := (Vl.i A.length).is) (VI := (Vl.s x).is) (.name hnum hkn hdn) (fun _ => .name ht hkt hdt) (fun n hn => by
    have hs9 := sp_mem hn
    obtain ⟨D, rfl⟩ := hn
    refine ⟨D.aa, D.get (d := D.aa) hs9 hs rfl (by kernel_rfl!) (by kernel_rfl!) hk hd9, fun v vi ⟨t1, e1⟩ ⟨t2, e2⟩ s Q E S q => ?_⟩
    subst e1 e2
    obtain ⟨⟨m, Fm, hm⟩, news, N, rfl⟩ := S
    exact setA hx hz Fm N (u2 D.x1 D.x4 D.x5 D.off) D.hda D.hfa fun h' o' kvs' F' N' hd' hf' => q h' _ ⟨⟨m, F', hm⟩, _, N', { D with oa := o', kvs := kvs', hda := hd', hfa := hf', off := off4y D.off }, rfl⟩) hr hw
/-- self.functor_numbers[key] = number -/
theorem Ex.symNumF {t num : Str} {sp tp ap ip np pos : Pos} {st : List Stmt} {T : Addr} {a r : Int} {ta' tr' : Tok} (hT : (T, tupOf [.int a ta', .int r tr']) ∈ rest) (hnew : [a, r] ∉ FF) (hz : FF.length ≤ 1000) (hroom : Γ.room 0 2) (hs : (self, Vl.r sg) ∈ lc) (ht : (t, Vl.r T) ∈ lc) (hnum : (num, Vl.i FF.length) ∈ lc) (hr : Ex Γ lc (SP w sg nt A Fl (FF ++ [[a, r]]) rest) st R) (hk : autoParam (Γ.env.kindOf self = some .local) rfl9) (hd9 : autoParam ((self == "__debug__") = false) rfl9) (hkt : autoParam (Γ.env.kindOf t = some .local) rfl9) (hdt : autoParam ((t == "__debug__") = false) rfl9) (hkn : autoParam (Γ.env.kindOf num = some .local) rfl9) (hdn : autoParam ((num == "__debug__") = false) rfl9)
    (hw : autoParam (swapsWith (.Name num np) (some (.Subscript (.Attribute (.Name self sp) (Str.ofString "functor_numbers") ap) (.Name t tp) ip)) pos.line Γ.env = pure false) rfl9) :
    Ex Γ lc (SP w sg nt A Fl FF rest) (.Assign [.Subscript (.Attribute (.Name self sp) (Str.ofString "functor_numbers") ap) (.Name t tp) ip] (.Name num np) pos :: st) R :=
  .putA (V := (Vl.i FF.length).is) (VI := (Vl.r T).is) (.name hnum hkn hdn) (fun _ => .name ht hkt hdt) (fun n hn => by
    have hs9 := sp_mem hn
    obtain ⟨D, rfl⟩ := hn
    refine ⟨D.na, D.get (d := D.na) hs9 hs rfl (by kernel_rfl!) (by kernel_rfl!) hk hd9, fun v vi ⟨t1, e1⟩ e2 s Q E S q => ?_⟩
    have e2' : vi = .ref T := e2
    subst e1 e2'
    obtain ⟨⟨m, Fm, hm⟩, news, N, rfl⟩ := S
    refine set_tup (K := Int) (ks := [a, r]) same_int (by have := hroom.2; show Γ.un + 1 < cLine; omega) (Flat.int _ _) Fm N (u4 D.x3 D.x5 D.x6 D.off) D.htup hs9 hT (TupKeyObj.made (ItemsAre.cons (intKind_is _ _ _ _) (ItemsAre.cons (intKind_is _ _ _ _) ItemsAre.nil))) (fun h' o' F' N' hd' => q h' _ ⟨⟨m, F', hm⟩, _, N', { D with on := o', htup := ?_, off := off4y D.off }, rfl⟩) (by rw [dK_len, sizeLine_eq]; omega)
    have := put_dK hencF (n := 0) hnew
    rw [Nat.zero_add] at this
    rwa [this] at hd') hr hw
end
end Mine
end

section
open PySem PySem.W PySem.Spec PySem.Calls PyProof.Rows PyProof.V
set_option Elab.async false
set_option maxRecDepth 100000
set_option maxHeartbeats 4000000
namespace Mine
theorem filly4 : True ∨ (PySem.Challenge.rw_sa0151_01 = PySem.Challenge.rw_sa0151_01 ∧ hd.heap_1 = hd.heap_1) := by
  k_fill
  exact .inl trivial
theorem m_atom (w : World) : Mth w 162 (Str.ofString "atom") 96 := ⟨by kernel_rfl!, by kernel_rfl!, by kernel_rfl!, by kernel_rfl!⟩
theorem m_functor (w : World) : Mth w 162 (Str.ofString "functor") 110 := ⟨by kernel_rfl!, by kernel_rfl!, by kernel_rfl!, by kernel_rfl!⟩
section
variable {w : World} {F : Fn} {Γ : Cx w F} {lc : Lcs} {P : Led → Prop} {x C f : Addr} {meth : Str}
/-- a method of two arguments, of which the first makes objects -/
theorem EvT.callM2 {o : PX} {ap pos : Pos} {dp un : Nat} {e e' : PX} {RV : Value → (Led → Prop) → Prop} {V' : Value → Prop} {post : Value → Led → Prop} (M : Mth w C meth f) (ho : Ev Γ lc P o (Vl.r x).is) (hI : InstIn P x C meth)
    (he : EvT Γ lc P e RV) (he' : ∀ P' : Led → Prop, Ev Γ lc P' e' V')
    (spec : ∀ v v' P', RV v P' → V' v' → ∀ n, P' n → Spec w f dp un [.ref x, v, v'] n post) (hroom : Γ.room dp un) (hst : autoParam (starEach [e, e'] Γ.env = (false, eval e Γ.env) :: starEach [e'] Γ.env) rfl9) (hst' : autoParam (starEach [e'] Γ.env = (false, eval e' Γ.env) :: starEach [] Γ.env) rfl9) (hany : autoParam (((backTo pos (starEach [e'] Γ.env)).any fun x => x.1) = false) rfl9)
    (hpl : autoParam (∃ pl, eval (.Call (.Attribute o meth ap) [e, e'] [] pos) Γ.env = (do let ov ← eval o Γ.env; standAt ap.atName; let (f, first) ← holding [ov] (getMethod ov meth pl); callWith pos f first (backTo pos (starEach [e, e'] Γ.env)) [])) some9) : EvT Γ lc P (.Call (.Attribute o meth ap) [e, e'] [] pos) (fun v P' => P' = fun n => post v n) := by
  intro s Q E S q
  obtain ⟨pl, hpl⟩ := hpl
  refine MethodCall_ (pl := pl) (ho s _ E S fun v1 h1 t1 x1 S1 => ?_) hpl
  have x1' : v1 = .ref x := x1
  subst x1'
  obtain ⟨⟨m, Fm, hm⟩, news, N, hP⟩ := S1
  obtain ⟨ox, es', c, I, hg⟩ := hI news hP _ _ _ N
  refine method_inst Fm Γ.X I M.plain M.at_ M.fn hg ?_
  refine callWith_K Γ.X M.keep (args_cons (he _ _ E ⟨⟨m, Fm, hm⟩, news, N, hP⟩ fun v P' h2 t2 hv S2 => EvL.cons (he' P') .nil hst' pos _ _ E S2 fun vs h3 t3 ⟨v', r, e1, hv', e2⟩ S3 => ?_) hst) hst hany
  subst e1 e2
  refine ⟨?_, ?_⟩
  · obtain ⟨m', F', _⟩ := S3.lc
    exact Γ.X.keeps F'.keep
  · exact spec_ev (spec v v' P' hv hv') hroom S3 fun v h2 t2 S2 => q v _ h2 t2 rfl S2
end
theorem atom_q {w : World} {sg : Addr} {t : Str} {tt : Tok} {A : List Str} {FF : List (List Int)} {rest : Led} (hz : A.length ≤ 1000) :
    ∀ n, SP w sg A.length A FF FF rest n → Spec w 96 6 300 [.ref sg, .str t tt] n (fun r n' => (Vl.i (atomIx A t)).is r ∧ SP w sg (atomAdd A t).length (atomAdd A t) FF FF rest n') := by
  refine' Spec.body (lc := [(Str.ofString "self", .r sg), (Str.ofString "text", .s t)]) ?k6 ?k7 ?k9 ?kB ?c2 ?c3 ?c4 ?c5 ?hlc ?hd1 ?hu1 ?H
  case k6 => k_is
  case k7 => k_is
  case k9 => exact rfl
  case kB => exact rfl
  case c2 => exact rfl
  case c3 => exact rfl
  case c4 => exact rfl
  case c5 => decide
  case hlc => exact ⟨⟨_, rfl, rfl⟩, ⟨_, rfl, _, rfl⟩, trivial⟩
  case hd1 => exact rfl
  case hu1 => exact rfl
  intro Γ hroom
  refine .set (vl := .i (ixK 0 A t)) (.symGet (.head _) (.tail _ (.head _))) (nm_ok (by kernel_rfl!)) rfl rfl ?_
  refine .ifC (.ge (.name (.head _) rfl rfl) .int) (fun h => ?_) (fun h => .nilT ?_)
  · have h0 : 0 ≤ ixK 0 A t := of_decide_eq_true h
    exact .ret (.name (v := .i (ixK 0 A t)) (.head _) rfl rfl) fun v hv n hn => by
      unfold atomIx atomAdd
      rw [if_pos h0, if_pos h0]
      exact ⟨hv, hn⟩
  · have h0 : ¬ 0 ≤ ixK 0 A t := of_decide_eq_false h
    refine .set (vl := .i A.length) (.symTexts (.tail _ (.head _)) hz) (nm_ok (by kernel_rfl!)) rfl rfl ?_
    refine .symText (.tail _ (.tail _ (.head _))) (.tail _ (.tail _ (.tail _ (.head _)))) hz ?_
    refine .symNum (ix_neg (n := 0) (by omega)) hz (.tail _ (.tail _ (.head _))) (.tail _ (.tail _ (.tail _ (.head _)))) (.head _) ?_
    exact .ret (.name (v := .i A.length) (.head _) rfl rfl) fun v hv n hn => by
      unfold atomIx atomAdd
      rw [if_neg h0, if_neg h0, List.length_append]
      exact ⟨hv, hn⟩
theorem sp_push {w : World} {sg : Addr} {nt : Nat} {A : List Str} {Fl FF : List (List Int)} {rest n : Led} {T : Addr} {o : Obj} (h : SP w sg nt A Fl FF rest n) (hT : ∀ p ∈ n, p.1 ≠ T) : ∃ n', SP w sg nt A Fl FF ((T, o) :: rest) n' ∧ ∀ p ∈ n', p ∈ (T, o) :: n := by
  obtain ⟨D, rfl⟩ := h
  obtain ⟨D', e⟩ := SymG.move ⟨D, rfl⟩ (rest' := (T, o) :: rest) (fun p hp _ => .tail _ hp) (D.off.cons fun p hp => hT p (List.mem_append.mpr (.inl hp)))
  refine ⟨_, ⟨D', rfl⟩, fun p hp => ?_⟩
  rw [← e] at hp
  rcases List.mem_append.mp hp with hp | hp
  · exact .tail _ (List.mem_append.mpr (.inl hp))
  · rcases List.mem_cons.mp hp with rfl | hp
    · exact .head _
    · exact .tail _ (List.mem_append.mpr (.inr hp))
theorem functor_q {w : World} {sg : Addr} {a r : Int} {ta' tr' : Tok} {nt : Nat} {A : List Str} {FF : List (List Int)} {rest : Led} (hz : FF.length ≤ 1000) (hnew : [a, r] ∉ FF) :
    ∀ n, SP w sg nt A FF FF rest n → Spec w 110 6 300 [.ref sg, .int a ta', .int r tr'] n (fun v n' => (Vl.i FF.length).is v ∧ ∃ e : Addr × Obj, (∀ p ∈ rest, p.1 < e.1) ∧ SP w sg nt A (FF ++ [[a, r]]) (FF ++ [[a, r]]) (e :: rest) n') := by
  refine' Spec.body (lc := [(Str.ofString "self", .r sg), (Str.ofString "atom", .i a), (Str.ofString "arity", .i r)]) ?k6 ?k7 ?k9 ?kB ?c2 ?c3 ?c4 ?c5 ?hlc ?hd1 ?hu1 ?H
  case k6 => k_is
  case k7 => k_is
  case k9 => exact rfl
  case kB => exact rfl
  case c2 => exact rfl
  case c3 => exact rfl
  case c4 => exact rfl
  case c5 => decide
  case hlc => exact ⟨⟨_, rfl, rfl⟩, ⟨_, rfl, _, rfl⟩, ⟨_, rfl, _, rfl⟩, trivial⟩
  case hd1 => exact rfl
  case hu1 => exact rfl
  intro Γ hroom
  refine .setT (.tuple (.two (.name (.tail _ (.head _)) rfl rfl) (.name (.tail _ (.tail _ (.head _))) rfl rfl) rfl rfl) fun vs ⟨v, v', e, _⟩ => by subst e; exact Nat.le_of_ble_eq_true rfl) rfl rfl fun v P' ⟨T, vs, e1, ⟨v1, v2, e2, ⟨t1, e3⟩, t2, e4⟩, e5⟩ => ⟨.r T, (Str.ofString "key", .r T) :: [(Str.ofString "self", .r sg), (Str.ofString "atom", .i a), (Str.ofString "arity", .i r)], e1, Dropped.cons (by kernel_rfl!), ?_⟩
  subst e1 e2 e3 e4 e5
  refine .fact (φ := ∀ p ∈ rest, p.1 < T) (fun n ⟨n0, _, h, hl⟩ p hp => hl p (sp_mem h p hp)) fun hlt => ?_
  refine .weak (P' := SP w sg nt A FF FF ((T, tupOf [.int a t1, .int r t2]) :: rest)) (fun _ h => h) (fun n ⟨n0, e, h, hl⟩ => by subst e; exact sp_push h fun p hp => Nat.ne_of_lt (hl p hp)) ?_
  have hr2 : Γ.room 0 2 := hroom.le (by decide) (by decide)
  refine .set (vl := .i (-1)) (.symGetF (.head _) hnew hr2 (.tail _ (.head _)) (.head _)) (nm_ok (by kernel_rfl!)) rfl rfl ?_
  refine .ifF (.ge (.name (.head _) rfl rfl) .int) rfl (.nilT ?_)
  refine .set (vl := .i FF.length) (.symRows (.tail _ (.tail _ (.head _))) hz) (nm_ok (by kernel_rfl!)) rfl rfl ?_
  refine .symRow (.head _) (.tail _ (.tail _ (.tail _ (.head _)))) (.tail _ (.tail _ (.head _))) hz ?_
  refine .symNumF (.head _) hnew hz hr2 (.tail _ (.tail _ (.tail _ (.head _)))) (.tail _ (.tail _ (.head _))) (.head _) ?_
  exact .ret (.name (v := .i FF.length) (.head _) rfl rfl) fun v hv n hn => ⟨hv, _, hlt, hn⟩
theorem func_q {w : World} {sg : Addr} {t : Str} {tt tr' : Tok} {r : Int} {A : List Str} {FF : List (List Int)} {rest : Led} (hz : FF.length ≤ 1000) (hA : A.length ≤ 1000) (hnew : [atomIx A t, r] ∉ FF) :
    ∀ n, SP w sg A.length A FF FF rest n → Spec w 117 9 500 [.ref sg, .str t tt, .int r tr'] n (fun v n' => (Vl.i FF.length).is v ∧ ∃ e : Addr × Obj, (∀ p ∈ rest, p.1 < e.1) ∧ SP w sg (atomAdd A t).length (atomAdd A t) (FF ++ [[atomIx A t, r]]) (FF ++ [[atomIx A t, r]]) (e :: rest) n') := by
  refine' Spec.body (lc := [(Str.ofString "self", .r sg), (Str.ofString "text", .s t), (Str.ofString "arity", .i r)]) ?k6 ?k7 ?k9 ?kB ?c2 ?c3 ?c4 ?c5 ?hlc ?hd1 ?hu1 ?H
  case k6 => k_is
  case k7 => k_is
  case k9 => exact rfl
  case kB => exact rfl
  case c2 => exact rfl
  case c3 => exact rfl
  case c4 => exact rfl
  case c5 => decide
  case hlc => exact ⟨⟨_, rfl, rfl⟩, ⟨_, rfl, _, rfl⟩, ⟨_, rfl, _, rfl⟩, trivial⟩
  case hd1 => exact rfl
  case hu1 => exact rfl
  intro Γ hroom
  refine @Ex.retT _ _ _ _ _ _ _ _ _ _ (.callM2 (dp := 6) (un := 300) (post := fun v n' => (Vl.i FF.length).is v ∧ ∃ e : Addr × Obj, (∀ p ∈ rest, p.1 < e.1) ∧ SP w sg (atomAdd A t).length (atomAdd A t) (FF ++ [[atomIx A t, r]]) (FF ++ [[atomIx A t, r]]) (e :: rest) n') (m_functor w) (.name (.head _) rfl rfl) (sp_inst (by intros; rfl)) (RV := fun v P' => P' = fun n => (Vl.i (atomIx A t)).is v ∧ SP w sg (atomAdd A t).length (atomAdd A t) FF FF rest n) ?_ (fun _ => .name (.tail _ (.tail _ (.head _))) rfl rfl) ?_ (hroom.le (by decide) (by decide))) ?_
  · exact .callM (dp := 6) (un := 300) (m_atom w) (.name (.head _) rfl rfl) (sp_inst (by intros; rfl)) (.cons (.name (.tail _ (.head _)) rfl rfl) .nil rfl) rfl rfl ⟨_, rfl⟩ (fun vs ⟨v, r, e, ⟨t, e2⟩, e3⟩ n hn => by subst e e2 e3; exact atom_q hA n hn) (hroom.le (by decide) (by decide))
  · intro v v' P' e ⟨t', e'⟩ n hn
    subst e e'
    obtain ⟨⟨t1, e1⟩, hn⟩ := hn
    subst e1
    exact functor_q hz hnew n hn
  · intro v P' e n hn
    subst e
    exact hn
theorem func_core (w : World) (sg : Addr) (t : Str) (tt tr' : Tok) (r : Int) (A : List Str) (FF : List (List Int)) (four rest : Led) (hS : SymF w sg A FF four rest) (hn : FF.length ≤ 1000) (hna : A.length ≤ 1000) (hnew : [atomIx A t, r] ∉ FF) :
    Spec w 117 9 500 [.ref sg, .str t tt, .int r tr'] (four ++ rest) (fun res nn => ∃ e four' tk, res = .int (FF.length : Int) tk ∧ nn = four' ++ e :: rest ∧ (∀ p ∈ rest, p.1 < e.1) ∧ SymF w sg (atomAdd A t) (FF ++ [[atomIx A t, r]]) four' (e :: rest)) :=
  (func_q hn hna hnew _ (by obtain ⟨D, rfl⟩ := hS; exact ⟨D, rfl⟩)).conv (Nat.le_refl _) (Nat.le_refl _) (fun _ h => h) fun v n ⟨⟨tk, e1⟩, e, hl, D, e2⟩ => ⟨n, ⟨e, D.four, tk, e1, e2, hl, D, rfl⟩, fun _ h => h⟩
end Mine
end

section
open PySem PySem.W PySem.Spec PySem.Calls PyProof.Rows PyProof.V
set_option Elab.async false
set_option maxRecDepth 100000
set_option maxHeartbeats 4000000
namespace Mine
theorem filly5 : True ∨ (PySem.Challenge.rw_sa0151_01 = PySem.Challenge.rw_sa0151_01 ∧ hd.heap_1 = hd.heap_1) := by
  k_fill
  exact .inl trivial
theorem subL_of : ∀ {l all : Led}, (∀ p ∈ l, p ∈ all) → SubL l all
  | [], _, _ => trivial
  | p :: r, _, h => ⟨h p (.head _), subL_of fun q hq => h q (.tail _ hq)⟩
theorem offW_of {I : Addr} {it : Obj} : ∀ {l : Led}, (∀ p ∈ l, p.1 ≠ I) → OffW [(I, it)] l
  | [], _ => trivial
  | p :: r, h => ⟨⟨.inl (h p (.head _)), trivial⟩, offW_of fun q hq => h q (.tail _ hq)⟩
noncomputable def funStep (S : List Str × List (List Int)) (q : Str × Int) : List Str × List (List Int) := (atomAdd S.1 q.1, S.2 ++ [[atomIx S.1 q.1, q.2]])
noncomputable def allNew : List Str × List (List Int) → List (Str × Int) → Bool
  | _, [] => true
  | S, q :: l => decide ([atomIx S.1 q.1, q.2] ∉ S.2) && decide (S.1.length ≤ 1000) && decide (S.2.length ≤ 1000) && allNew (funStep S q) l
noncomputable def smallAll : List Str → List Str → Bool
  | _, [] => true
  | A, t :: l => decide (A.length ≤ 1000) && smallAll (atomAdd A t) l
noncomputable abbrev A1 : List Str := atomsL.foldl atomAdd []
noncomputable abbrev S2 : List Str × List (List Int) := funsL.foldl funStep (A1, [])
theorem small1 : smallAll [] atomsL = true := by decide +kernel
theorem new1 : allNew (A1, []) funsL = true := by decide +kernel
theorem SymG.grow {w : World} {sg : Addr} {nt : Nat} {A : List Str} {Fl FF : List (List Int)} {four R X : Led} (h : SymG w sg nt A Fl FF four R) (ha : Above X (four ++ R)) : SymG w sg nt A Fl FF four (R ++ X) :=
  h.move (fun p hp _ => List.mem_append.mpr (.inl hp)) (h.off.app fun p hp q hq => Nat.ne_of_gt (ha q hq p (List.mem_append.mpr (.inl hp))))
theorem sp_grow {w : World} {sg : Addr} {nt : Nat} {A : List Str} {Fl FF : List (List Int)} {R X n : Led} (h : SP w sg nt A Fl FF R n) (ha : Above X n) : SP w sg nt A Fl FF (R ++ X) (n ++ X) := by
  obtain ⟨D, rfl⟩ := h
  obtain ⟨D', e⟩ := SymG.grow ⟨D, rfl⟩ ha
  exact ⟨D', by rw [List.append_assoc, e]⟩
theorem fin32 : S2.2.length = 32 ∧ [atomIx S2.1 (Str.ofString "p"), 2] ∉ S2.2 ∧ S2.1.length ≤ 1000 ∧ S2.2[0]? = some [1, 2] ∧ S2.2[21]? = some [16, 0] := by decide +kernel
noncomputable def ktOf (k0 k1 k2 k3 : Tok) (i : Nat) : Tok := match i with | 0 => k0 | 1 => k1 | 2 => k2 | _ => k3
section
variable {w : World} {F : Fn} {Γ : Cx w F} {lc : Lcs} {P : Led → Prop} {R : RX}
theorem turn_unrW {I : Addr} {it : Obj} {J : Lcs → (Led → Prop) → Prop} {J' : (Str → Option Value) → Led → Prop} {rest : List Stmt} {s s₁ : Shared} {Q : Flow → Shared → Prop}
    (hs : ∃ h tk, s₁ = { s with heap := h, toks := tk }) (q : ∀ f lc' P' h' tk, Then Γ rest R f lc' P' → St Γ h' lc' P' → Q f { s with heap := h', toks := tk })
    (hJ : ∀ lc P m nx, J lc P → (∀ p ∈ lc, ∃ v, m p.1 = some v ∧ p.2.is v) → P nx → (∀ p ∈ nx, p.1 ≠ I) → J' m nx) {f : Flow} {lc' : Lcs} {P' : Led → Prop} {h' : Heap} {tk' : Nat} (r : Turn Γ I it J rest R f lc' P') (S' : St Γ h' lc' P') :
    UnrPostW Γ.h₀ Γ.L s₁ [(I, it)] J' Q f { s₁ with heap := h', toks := tk' } := by
  obtain ⟨h, tk, rfl⟩ := hs
  have go : (∃ lc2 P2, J lc2 P2 ∧ (∀ p ∈ lc2, p ∈ lc') ∧ ∀ n, P' n → ∃ n', Fresh I it P2 n' ∧ ∀ p ∈ n', p ∈ n) → UnrEndW Γ.h₀ Γ.L { s with heap := h, toks := tk } [(I, it)] J' { s with heap := h', toks := tk' } := by
    rintro ⟨lc2, P2, hj, hl, hn⟩
    obtain ⟨⟨m, Fm, hm⟩, n, N, hP⟩ := S'
    obtain ⟨n', ⟨nx, rfl, hx, ho⟩, hsub⟩ := hn n hP
    exact UnrEndW.intro Fm N nx ⟨hsub _ (.head _), trivial⟩ (subL_of fun p hp => hsub p (.tail _ hp)) (offW_of ho) (hJ lc2 P2 m nx hj (fun p hp => hm p (hl p hp)) hx ho)
  cases f with
  | brk => exact q .next _ _ _ _ r S'
  | ret v => exact q _ _ _ _ _ r S'
  | next => exact go r
  | cont => exact go r
/-- a loop over a tuple -/
theorem Ex.forTupT {x : Str} {xp pos : Pos} {iter : PX} {body st : List Stmt} {RV : Value → (Led → Prop) → Prop} (hit : EvT Γ lc P iter RV) (hk : Γ.env.kindOf x = some .local) (hfold : ∀ v, foldedSetIterable iter Γ.env v = pure v)
    (h : ∀ v P', RV v P' → ∃ (l : Addr) (vs : List Value) (J : Nat → Lcs → (Led → Prop) → Prop), v = .ref l ∧ (∀ i lc P, J i lc P → ∀ n, P n → (l, tupOf vs) ∈ n) ∧ J 0 lc P' ∧
      (∀ i v lc P I it, vs[i]? = some v → it.cls = .type "tuple_iterator" → J i lc P → ∃ vl lc₁, vl.is v ∧ Dropped x vl lc lc₁ ∧ Ex Γ lc₁ (Fresh I it P) body (Turn Γ I it (J (i + 1)) st R)) ∧ (∀ lc P, J vs.length lc P → Ex Γ lc P st R)) :
    Ex Γ lc P (.For (.Name x xp) iter body [] pos :: st) R := by
  refine .next fun s Q E po S q => ?_
  have hF := S.lc
  obtain ⟨m₀, Fm₀, _⟩ := hF
  refine For_turns (m := m₀) Fm₀ (hit s _ E S fun r P' h' tk hr S' => ?_) hfold po
  obtain ⟨l, vs, J, rfl, hl, h0, turn, done⟩ := h r P' hr
  obtain ⟨⟨m, Fm, hm⟩, news, N, hP⟩ := S'
  refine iter_tupTurns rfl Fm N (hl 0 lc P' h0 news hP) rfl rfl fun I hI => ?_
  have go : ∀ (k i : Nat) (m : Str → Option Value) (nx : Led) (lc : Lcs) (P : Led → Prop), i + k = vs.length → J i lc P → (∀ p ∈ lc, ∃ v, m p.1 = some v ∧ p.2.is v) → P nx → (∀ p ∈ nx, p.1 ≠ I) →
      ItemsRest PR w Γ.A E Γ.h₀ Γ.env (.Name x xp) body Q { s with heap := h', toks := tk } [(I, "tuple_iterator")] [(l, tupOf vs)] ((vs.drop i).map .val) m nx := by
    intro k
    induction k with
    | zero =>
      intro i m nx lc P hi hJ hm hP _
      have e : i = vs.length := by omega
      subst e
      rw [List.drop_length]
      exact fun h2 tk2 F2 N2 => q .next lc P h2 tk2 (done lc P hJ) ⟨⟨m, F2, hm⟩, nx, N2, hP⟩
    | succ k ih =>
      intro i m nx lc P hi hJ hm hP ho
      have hlt : i < vs.length := by omega
      rw [List.drop_eq_getElem_cons hlt]
      refine ItemsRest.val fun h2 tk2 F2 it hc => ?_
      intro N2
      obtain ⟨vl, lc₁, hv, hd, hx⟩ := turn i _ lc P I it (List.getElem?_eq_getElem hlt) hc hJ
      refine wpAny_assign_Name (storeX_L F2 N2 (fun h3 F3 N3 => ?_) Γ.hk hk)
      refine hx _ _ E po ⟨⟨_, F3, hd.at hv hm⟩, _, N3, nx, rfl, hP, ho⟩ fun f lc2 P2 h4 tk4 r2 S2 => ?_
      exact turn_unrW (s := s) ⟨_, _, rfl⟩ q (fun lc P m nx hj hl' hp ho => ⟨⟨hl (i + 1) lc P hj nx hp, trivial⟩, ih (i + 1) m nx lc P (by omega) hj hl' hp ho⟩) r2 S2
  exact go vs.length 0 m news lc P' (by omega) h0 hm hP fun p hp => Nat.ne_of_lt (hI p hp)
end
theorem sp_start {w : World} {x dx ta aa fl na : Addr} {oa on : Obj} {rest n : Led} (H : IniS x dx [(na, on), (fl, listOf #[] 0), (aa, oa), (ta, listOf #[] 0)] rest) (a3 : @LT.lt Nat _ ta aa) (a4 : @LT.lt Nat _ aa fl) (a5 : @LT.lt Nat _ fl na)
    (hoa : oa.IsDictOf (strKind PR w) []) (hon : on.IsDictOf (intKind PR w) []) (la : (aa == sysModules) = false) (ln : (na == sysModules) = false)
    (h : IniP w 162 x dx [(na, on), (fl, listOf #[] 0), (aa, oa), (ta, listOf #[] 0)] [(Str.ofString "texts", .r ta), (Str.ofString "atom_numbers", .r aa), (Str.ofString "functors", .r fl), (Str.ofString "functor_numbers", .r na)] rest n) :
    ∃ o n', SP w x 0 [] [] [] ((x, instObj 162 dx) :: (dx, o) :: rest) n' ∧ ∀ p ∈ n', p ∈ n := by
  obtain ⟨es, ⟨k0, v0, _, rfl, h0, k1, v1, _, rfl, h1, k2, v2, _, rfl, h2, k3, v3, _, rfl, h3, rfl⟩, rfl⟩ := h
  have h0' : v0 = .ref ta := h0
  have h1' : v1 = .ref aa := h1
  have h2' : v2 = .ref fl := h2
  have h3' : v3 = .ref na := h3
  subst h0' h1' h2' h3'
  have l : ∀ d : Addr, @LT.lt Nat _ x d → ∀ (o : Obj), ∀ q ∈ (x, instObj 162 dx) :: (dx, o) :: rest, q.1 ≠ d := fun d h o q hq => by
    rcases List.mem_cons.mp hq with rfl | hq
    · exact Nat.ne_of_lt h
    · rcases List.mem_cons.mp hq with rfl | hq
      · exact Nat.ne_of_lt (Nat.lt_trans H.x h)
      · exact Nat.ne_of_lt (Nat.lt_trans (H.rest q hq) (Nat.lt_trans H.x h))
  refine ⟨_, _, ⟨{ ds := dx, ta, aa, fl, na, kt := ktOf k0 k1 k2 k3, tvs := [], n1 := 0, oa, kvs := [], fvs := [], n3 := 0, on, m1 := .head _, m2 := .tail _ (.head _), htl := rfl, hda := hoa, hfa := .nil, hlo := la, hrows := .nil, htup := TupOn.empty hon, hlo2 := ln, x1 := Nat.ne_of_lt a3, x2 := Nat.ne_of_lt (Nat.lt_trans a3 a4), x3 := Nat.ne_of_lt (Nat.lt_trans a3 (Nat.lt_trans a4 a5)), x4 := Nat.ne_of_lt a4, x5 := Nat.ne_of_lt (Nat.lt_trans a4 a5), x6 := Nat.ne_of_lt a5, off := ?_ }, rfl⟩, ?_⟩
  · intro p hp q hq
    refine l p.1 ?_ _ q hq
    refine H.tl p ?_
    simp only [List.mem_cons, List.mem_nil_iff, or_false] at hp ⊢
    rcases hp with h | h | h | h
    · exact .inr (.inr (.inr h))
    · exact .inr (.inr (.inl h))
    · exact .inr (.inl h)
    · exact .inl h
  · intro p hp
    replace hp : p ∈ (ta, listOf #[] 0) :: (aa, oa) :: (fl, listOf #[] 0) :: (na, on) :: (x, instObj 162 dx) :: (dx, _) :: rest := hp
    simp only [List.cons_append, List.nil_append, List.mem_cons] at hp ⊢
    rcases hp with h | h | h | h | h
    · exact .inr (.inr (.inr (.inl h)))
    · exact .inr (.inr (.inl h))
    · exact .inr (.inl h)
    · exact .inl h
    · exact .inr (.inr (.inr (.inr h)))
end Mine
end

section
open PySem PySem.W PySem.Spec PySem.Calls PyProof.Rows PyProof.V
set_option Elab.async false
set_option maxRecDepth 100000
set_option maxHeartbeats 4000000
namespace Mine
theorem filly5b : True ∨ (PySem.Challenge.rw_sa0151_01 = PySem.Challenge.rw_sa0151_01 ∧ hd.heap_1 = hd.heap_1) := by
  k_fill
  exact .inl trivial
noncomputable abbrev At (l : List Str) (i : Nat) : List Str := (l.take i).foldl atomAdd []
noncomputable abbrev Ft (l : List (Str × Int)) (i : Nat) : List Str × List (List Int) := (l.take i).foldl funStep (A1, [])
theorem foldl_take {α β : Type} (f : β → α → β) (b : β) {l : List α} {i : Nat} {a : α} (h : l[i]? = some a) : (l.take (i + 1)).foldl f b = f ((l.take i).foldl f b) a := by
  rw [List.take_add_one, h, List.foldl_append]
  rfl
theorem small_at : ∀ {l : List Str} {A : List Str} {i : Nat} {t : Str}, smallAll A l = true → l[i]? = some t → ((l.take i).foldl atomAdd A).length ≤ 1000
  | [], _, _, _, _, h => by simp at h
  | a :: l, A, i, t, hs, h => by
    simp only [smallAll, Bool.and_eq_true, decide_eq_true_eq] at hs
    cases i with
    | zero => exact hs.1
    | succ i => exact small_at hs.2 (i := i) h
theorem new_at : ∀ {l : List (Str × Int)} {S : List Str × List (List Int)} {i : Nat} {q : Str × Int}, allNew S l = true → l[i]? = some q → [atomIx ((l.take i).foldl funStep S).1 q.1, q.2] ∉ ((l.take i).foldl funStep S).2 ∧ ((l.take i).foldl funStep S).1.length ≤ 1000 ∧ ((l.take i).foldl funStep S).2.length ≤ 1000
  | [], _, _, _, _, h => by simp at h
  | a :: l, S, i, t, hs, h => by
    simp only [allNew, Bool.and_eq_true, decide_eq_true_eq] at hs
    cases i with
    | zero => cases h; exact ⟨hs.1.1.1, hs.1.1.2, hs.1.2⟩
    | succ i => exact new_at hs.2 (i := i) h
theorem strs_at {vs : List Value} {l : List Str} (h : StrsAre vs l) : ∀ {i : Nat} {v : Value}, vs[i]? = some v → ∃ t tk, v = .str t tk ∧ l[i]? = some t := by
  induction h with
  | nil => intro i v h; simp at h
  | cons t tk _ ih =>
    intro i v h
    cases i with
    | zero => cases h; exact ⟨t, tk, rfl, rfl⟩
    | succ i => exact ih h
theorem fns_at {L : Led} {vs : List Value} {l : List (Str × Int)} (h : FnRows L vs l) : ∀ {i : Nat} {v : Value}, vs[i]? = some v → ∃ t y r t1 t2, v = .ref t ∧ l[i]? = some (y, r) ∧ (t, tupOf [.str y t1, .int r t2]) ∈ L := by
  induction h with
  | nil => intro i v h; simp at h
  | cons m _ ih =>
    intro i v h
    cases i with
    | zero => cases h; exact ⟨_, _, _, _, _, rfl, rfl, m⟩
    | succ i => exact ih h
section
variable {w : World} {sg I : Addr} {it : Obj} {nt : Nat} {A : List Str} {Fl FF : List (List Int)} {R n : Led}
theorem sp_in (h : Fresh I it (SP w sg nt A Fl FF R) n) : ∃ n', SP w sg nt A Fl FF ((I, it) :: R) n' ∧ ∀ p ∈ n', p ∈ n := by
  obtain ⟨nx, rfl, hS, ho⟩ := h
  exact sp_push hS ho
theorem sp_out {X : Led} (hc : it.cls = .type "tuple_iterator") (hm : (I, it) ∈ X) (hX : ∀ p ∈ X, p ∈ R ∨ p = (I, it)) (hR : ∀ p ∈ R, p ∈ X) (hI : ∀ p ∈ R, p.1 ≠ I) (h : SP w sg nt A Fl FF X n) : ∃ n', Fresh I it (SP w sg nt A Fl FF R) n' ∧ ∀ p ∈ n', p ∈ n := by
  obtain ⟨D, rfl⟩ := h
  have hi : (I, it) ∈ D.four ++ X := List.mem_append.mpr (.inr hm)
  obtain ⟨D', e⟩ := SymG.move ⟨D, rfl⟩ (rest' := R) (fun p hp hcl => (hX p hp).elim id fun h => absurd hc (by rw [h] at hcl; exact hcl)) (D.off.mono hR)
  refine ⟨(I, it) :: (D.four ++ R), ⟨_, rfl, ⟨D', by rw [e]⟩, fun p hp => ?_⟩, fun p hp => ?_⟩
  · rcases List.mem_append.mp hp with hp | hp
    · exact Ne.symm (D.off p hp _ hm)
    · exact hI p hp
  · rcases List.mem_cons.mp hp with rfl | hp
    · exact hi
    · exact (List.mem_append.mp hp).elim (fun h => List.mem_append.mpr (.inl h)) (fun h => List.mem_append.mpr (.inr (hR p h)))
theorem fresh_rest (h : Fresh I it (SP w sg nt A Fl FF R) n) : ∀ p ∈ R, p.1 ≠ I := by
  obtain ⟨nx, rfl, hS, ho⟩ := h
  exact fun p hp => ho p (sp_mem hS p hp)
end
/-- the symbols, on top of more than R -/
noncomputable def SQ (w : World) (sg : Addr) (S : List Str × List (List Int)) (R : Led) : Led → Prop := fun n => ∃ X, (∀ p ∈ R, p ∈ X) ∧ SP w sg S.1.length S.1 S.2 S.2 X n
theorem c1_sy (w : World) : findIn (hd.heap_1 w.params) (.ref 162) "__setattr__" = some (some (.builtin "object.__setattr__")) := by kernel_rfl!
theorem c2_sy (w : World) : plainOver (hd.heap_1 w.params) 162 = true := by kernel_rfl!
theorem c4_sy (w : World) : hasDictIn (hd.heap_1 w.params) 162 = true := by kernel_rfl!
theorem m_func (w : World) : Mth w 162 (Str.ofString "func") 117 := ⟨by kernel_rfl!, by kernel_rfl!, by kernel_rfl!, by kernel_rfl!⟩
theorem syms_core (w : World) (rest : Led) : Spec w 162 20 900 [] rest (fun res nn => ∃ sg four rest', res = .ref sg ∧ nn = four ++ rest' ∧ (∀ p ∈ rest, p ∈ rest') ∧ SymF w sg S2.1 S2.2 four rest') := by
  refine' Spec.make (fI := 89) (lc := fun x => [(Str.ofString "self", .r x)]) ?hm ?hi ?hf ?k6 ?k7 ?k9 ?kB ?c2 ?c3 ?c4 ?c5 ?hlc ?hd1 ?hu1 ?H
  case hm => kernel_rfl!
  case hi => kernel_rfl!
  case hf => kernel_rfl!
  case k6 => k_is
  case k7 => k_is
  case k9 => exact fun _ => rfl
  case kB => exact fun _ => rfl
  case c2 => exact rfl
  case c3 => exact rfl
  case c4 => exact rfl
  case c5 => decide
  case hlc => exact fun _ => ⟨⟨_, rfl, rfl⟩, trivial⟩
  case hd1 => exact rfl
  case hu1 => exact rfl
  intro x dx Γ hroom hlr hlx
  refine .weak (lc' := [(Str.ofString "self", .r x)]) (P' := IniP w 162 x dx [] [] rest) (fun _ h => h) (fun n e => ⟨n, ⟨[], rfl, e⟩, fun _ h => h⟩) ?_
  have H0 : IniS x dx [] rest := ⟨fun _ h => (nomatch h), hlx, hlr⟩
  refine .iniL (c1_sy w) (c2_sy w) (c4_sy w) (.head _) H0 fun ta _ H1 => ?_
  refine .iniD (c1_sy w) (c2_sy w) (c4_sy w) (.head _) H1 fun aa oa la hoa _ l2 H2 => ?_
  refine .iniL (c1_sy w) (c2_sy w) (c4_sy w) (.head _) H2 fun fl l3 H3 => ?_
  refine .iniD (c1_sy w) (c2_sy w) (c4_sy w) (.head _) H3 fun na on ln _ hon l4 H4 => ?_
  refine .weak (lc' := [(Str.ofString "self", .r x)]) (P' := fun n => ∃ o, SP w x 0 [] [] [] ((x, instObj 162 dx) :: (dx, o) :: rest) n) (fun _ h => h) (fun n hn => ?_) (.exi fun o => ?_)
  · obtain ⟨o, n', h1, h2⟩ := sp_start H4 (l2 _ (.head _)) (l3 _ (.head _)) (l4 _ (.head _)) hoa hon la ln hn
    exact ⟨n', ⟨o, h1⟩, h2⟩
  generalize hR0 : (x, instObj 162 dx) :: (dx, o) :: rest = R0
  have hsub : ∀ p ∈ rest, p ∈ R0 := fun p hp => hR0 ▸ .tail _ (.tail _ hp)
  clear hR0 H0 H1 H2 H3 H4 hlr hlx
  refine .forTupT (RV := fun v P' => ∃ D vs, v = .ref D ∧ StrsAre vs atomsL ∧ P' = SP w x 0 [] [] [] (R0 ++ [(D, tupOf vs)])) (.conv (EvT.call0 (f := 68) (dp := 3) (un := 100) (post := fun v n => ∃ D vs, v = .ref D ∧ StrsAre vs atomsL ∧ SP w x 0 [] [] [] (R0 ++ [(D, tupOf vs)]) n) (by kernel_rfl!) rfl (by decide +kernel) (by kernel_rfl!) rfl (fun n hn => ?_) (hroom.le (by decide) (by decide))) ?_) rfl (fun _ => rfl) ?_
  · exact (fa_core w n).conv (Nat.le_refl _) (Nat.le_refl _) (fun _ h => h) fun r nn ⟨D, vs, e, e2, h, ha⟩ => ⟨nn, ⟨D, vs, e, h, e2 ▸ sp_grow hn ha⟩, fun _ h => h⟩
  · intro v P' e h n N hn
    subst e
    obtain ⟨D, vs, e, hv, hn⟩ := hn
    exact ⟨_, ⟨D, vs, e, hv, rfl⟩, n, hn, fun _ h => h⟩
  rintro v P' ⟨D, vs, e, hv, rfl⟩
  have hD : (D, tupOf vs) ∈ R0 ++ [(D, tupOf vs)] := List.mem_append.mpr (.inr (.head _))
  have hsub1 : ∀ p ∈ rest, p ∈ R0 ++ [(D, tupOf vs)] := fun p hp => List.mem_append.mpr (.inl (hsub p hp))
  generalize R0 ++ [(D, tupOf vs)] = R1 at hD hsub1
  refine ⟨D, vs, fun i l P => l = [(Str.ofString "self", .r x)] ∧ P = SP w x (At atomsL i).length (At atomsL i) [] [] R1, e, ?_, ⟨rfl, rfl⟩, ?_, ?_⟩
  · rintro i l P ⟨_, rfl⟩ n hn
    exact sp_mem hn _ hD
  · rintro i v l P I it hi hc ⟨rfl, rfl⟩
    obtain ⟨t, tk, rfl, hat⟩ := strs_at hv hi
    refine ⟨.s t, _, ⟨tk, rfl⟩, .cons (by kernel_rfl!), .fact (fun n h => fresh_rest h) fun hI => .weak (fun _ h => h) (fun n h => sp_in h) ?_⟩
    refine .exprT (.callM (dp := 6) (un := 300) (m_atom w) (.name (.tail _ (.head _)) rfl rfl) (sp_inst (by intros; rfl)) (.cons (.name (.head _) rfl rfl) .nil rfl) rfl rfl ⟨_, rfl⟩ (fun us ⟨v, r, e, ⟨t, e2⟩, e3⟩ n hn => by subst e e2 e3; exact atom_q (small_at small1 hat) n hn) (hroom.le (by decide) (by decide))) rfl rfl fun v P' e => .nil ?_
    subst e
    refine ⟨_, _, ⟨rfl, rfl⟩, fun p hp => .tail _ hp, fun n hn => ?_⟩
    have e9 : At atomsL (i + 1) = atomAdd (At atomsL i) t := foldl_take _ _ hat
    rw [e9]
    exact sp_out hc (.head _) (fun p hp => (List.mem_cons.mp hp).elim .inr .inl) (fun p hp => .tail _ hp) hI hn.2
  rintro l P ⟨rfl, rfl⟩
  have e9 : At atomsL vs.length = A1 := by
    rw [strsAre_len hv]
    show ((atomsL.take atomsL.length).foldl atomAdd []) = _
    rw [List.take_length]
  rw [e9]
  clear hv hD e e9
  refine .forTupT (RV := fun v P' => ∃ D vs tl, v = .ref D ∧ FnRows (R1 ++ (D, tupOf vs) :: tl) vs funsL ∧ P' = SQ w x (Ft funsL 0) (R1 ++ (D, tupOf vs) :: tl)) (.conv (EvT.call0 (f := 75) (dp := 3) (un := 100) (post := fun v n => ∃ D vs tl, v = .ref D ∧ FnRows (R1 ++ (D, tupOf vs) :: tl) vs funsL ∧ SP w x A1.length A1 [] [] (R1 ++ (D, tupOf vs) :: tl) n) (by kernel_rfl!) rfl (by decide +kernel) (by kernel_rfl!) rfl (fun n hn => ?_) (hroom.le (by decide) (by decide))) ?_) rfl (fun _ => rfl) ?_
  · exact (ff_core w n).conv (Nat.le_refl _) (Nat.le_refl _) (fun _ h => h) fun r nn ⟨D, vs, tl, e, e2, h, ha⟩ => ⟨nn, ⟨D, vs, tl, e, h.mono fun p hp => List.mem_append.mpr (.inr (.tail _ hp)), e2 ▸ sp_grow hn ha⟩, fun _ h => h⟩
  · intro v P' e h n N hn
    subst e
    obtain ⟨D, vs, tl, e, hv, hn⟩ := hn
    exact ⟨_, ⟨D, vs, tl, e, hv, rfl⟩, n, ⟨_, fun _ h => h, hn⟩, fun _ h => h⟩
  rintro v P' ⟨D, vs, tl, e, hv, rfl⟩
  have hD : (D, tupOf vs) ∈ R1 ++ (D, tupOf vs) :: tl := List.mem_append.mpr (.inr (.head _))
  have hsub2 : ∀ p ∈ rest, p ∈ R1 ++ (D, tupOf vs) :: tl := fun p hp => List.mem_append.mpr (.inl (hsub1 p hp))
  generalize R1 ++ (D, tupOf vs) :: tl = R2 at hv hD hsub2
  refine ⟨D, vs, fun i l P => l = [(Str.ofString "self", .r x)] ∧ P = SQ w x (Ft funsL i) R2, e, ?_, ⟨rfl, rfl⟩, ?_, ?_⟩
  · rintro i l P ⟨_, rfl⟩ n ⟨X, hX, hn⟩
    exact sp_mem hn _ (hX _ hD)
  · rintro i v l P I it hi hc ⟨rfl, rfl⟩
    obtain ⟨t, y, r, t1, t2, rfl, hat, hm⟩ := fns_at hv hi
    obtain ⟨n1, n2, n3⟩ := new_at new1 hat
    refine ⟨.r t, _, rfl, .cons (by kernel_rfl!), .weak (lc' := [(Str.ofString "row", .r t), (Str.ofString "self", .r x)]) (P' := fun n => ∃ X, (∀ p ∈ R2, p ∈ X) ∧ Fresh I it (SP w x (Ft funsL i).1.length (Ft funsL i).1 (Ft funsL i).2 (Ft funsL i).2 X) n) (fun _ h => h) (fun n ⟨nx, e, ⟨X, hX, hn⟩, ho⟩ => ⟨n, ⟨X, hX, nx, e, hn, ho⟩, fun _ h => h⟩) (.exi fun X => ?_)⟩
    refine .fact (φ := (∀ p ∈ R2, p ∈ X) ∧ ∀ p ∈ X, p.1 ≠ I) (fun n h => ⟨h.1, fresh_rest h.2⟩) fun ⟨hX, hI⟩ => .weak (fun _ h => h) (fun n h => sp_in h.2) ?_
    refine .exprT (.callM (dp := 9) (un := 500) (m_func w) (.name (.tail _ (.head _)) rfl rfl) (sp_inst (by intros; rfl)) (.two (V := (Vl.s y).is) (V' := (Vl.i r).is) ((Ev.tup (j := 0) (.name (.head _) rfl rfl) .int (fun n h => sp_mem h _ (.tail _ (hX _ hm))) (by decide) (by decide) (seqN (Nat.zero_lt_succ _)) rfl (fun _ => rfl)).is ⟨_, rfl⟩) ((Ev.tup (j := 1) (.name (.head _) rfl rfl) .int (fun n h => sp_mem h _ (.tail _ (hX _ hm))) (by decide) (by decide) (seqN (Nat.le_refl 2)) rfl (fun _ => rfl)).is ⟨_, rfl⟩) rfl rfl) rfl rfl ⟨_, rfl⟩ (fun us ⟨v, v', e, ⟨t, e2⟩, ⟨t', e3⟩⟩ n hn => by subst e e2 e3; exact func_q n3 n2 n1 n hn) (hroom.le (by decide) (by decide))) rfl rfl fun v P' e => .nil ?_
    subst e
    have e9 : Ft funsL (i + 1) = funStep (Ft funsL i) (y, r) := foldl_take _ _ hat
    refine ⟨_, _, ⟨rfl, rfl⟩, fun p hp => .tail _ hp, fun n hn => ?_⟩
    rw [e9]
    obtain ⟨_, e, hl, hn⟩ := hn
    obtain ⟨n', ⟨nx, e1, h1, h2⟩, h3⟩ := sp_out (R := e :: X) hc (.tail _ (.head _)) (fun p hp => by
      rcases List.mem_cons.mp hp with h | hp
      · exact .inl (h ▸ .head _)
      · rcases List.mem_cons.mp hp with h | hp
        · exact .inr h
        · exact .inl (.tail _ hp)) (fun p hp => (List.mem_cons.mp hp).elim (fun h => h ▸ .head _) fun h => .tail _ (.tail _ h)) (fun p hp => by
      rcases List.mem_cons.mp hp with h | hp
      · exact h ▸ Nat.ne_of_gt (hl _ (.head _))
      · exact hI p hp) hn
    exact ⟨n', ⟨nx, e1, ⟨e :: X, fun p hp => .tail _ (hX p hp), h1⟩, h2⟩, h3⟩
  rintro l P ⟨rfl, rfl⟩
  have e9 : Ft funsL vs.length = S2 := by
    rw [fnRows_len hv]
    show ((funsL.take funsL.length).foldl funStep (A1, [])) = _
    rw [List.take_length]
  rw [e9]
  exact .nil fun n ⟨X, hX, D, e⟩ => ⟨rfl, x, D.four, X, rfl, e, fun p hp => hX p (hsub2 p hp), D, rfl⟩
end Mine
end

section
open PySem PySem.W PySem.Spec PySem.Calls PyProof.Rows
set_option Elab.async false
set_option maxRecDepth 100000
set_option maxHeartbeats 4000000
namespace Mine
section
variable {w : World} {F : Fn} {Γ : Cx w F} {lc lc' : Lcs} {P P' : Led → Prop} {R : RX}
/-- a def of the top whose contract asks of the base -/
theorem EvT.callH {fn : Str} {np pos : Pos} {f : Addr} {dp un : Nat} {e : PX} {es : List PX} {Vs : List Value → Prop} {post : Value → Led → Prop} {H : Heap → Prop} (hH : H Γ.h₀) (hf : nsIn (hd.heap_1 w.params) mainGlobals fn = some (some (.ref f))) (hk : Γ.env.kindOf fn = some .globalImplicit) (hd9 : (fn == "__debug__") = false) (hkeep : keepIn (hd.heap_1 w.params) (.ref f) = true)
    (ha : EvL Γ lc P (e :: es) Vs) (hst : starEach (e :: es) Γ.env = (false, eval e Γ.env) :: starEach es Γ.env) (hany : ((backTo pos (starEach es Γ.env)).any fun x => x.1) = false) (hcall : callIs fn np pos (e :: es) Γ.env)
    (spec : ∀ vs, Vs vs → ∀ n, P n → SpecH w f dp un vs n H post) (hroom : Γ.room dp un) : EvT Γ lc P (.Call (.Name fn np) (e :: es) [] pos) (fun v P' => P' = fun n => post v n) := by
  intro s Q E S q
  obtain ⟨⟨m, Fm, hm⟩, news, N, hP⟩ := S
  refine Call_ (nameX_K Fm Γ.X (topRead_of Γ.T) hf ?_ Γ.hk hk hd9) hcall
  refine callWith_K Γ.X hkeep (ha pos s _ E ⟨⟨m, Fm, hm⟩, news, N, hP⟩ fun vs h' tk hv S1 => ⟨?_, ?_⟩) hst hany
  · obtain ⟨m', F', _⟩ := S1.lc
    exact Γ.X.keeps F'.keep
  · obtain ⟨⟨m1, F1, hm1⟩, n1, N1, hP1⟩ := S1
    exact spec vs hv n1 hP1 _ _ _ _ _ _ _ _ _ _ _ _ _ _ _ _ _ _ _ _ _ _ hH Γ.B F1 Γ.X N1 Γ.T Γ.hk hroom.1 hroom.2 fun r n' h' tk' F' N' hp => q r _ h' tk' rfl ⟨⟨m1, F', hm1⟩, n', N', hp⟩
/-- the figures' list, on top -/
noncomputable def FgT (fa : Addr) (B : Led → Prop) : Led → Prop := fun n => ∃ o r, n = (fa, o) :: r ∧ Figs o ∧ B r ∧ ∀ p ∈ r, p.1 ≠ fa
noncomputable abbrev IsDraw (k : Int) (v : Value) : Prop := ∃ i t, v = .int i t ∧ 0 ≤ i ∧ i < k
theorem Ev.draw {B : Led → Prop} {fa : Addr} {k : Int} {x : Str} {np xp cp pos : Pos} {kn : Nat} (hx : (x, Vl.r fa) ∈ lc) (hroom : Γ.room 2 100) (h0 : autoParam (0 < k) dec9) (h1 : autoParam (k < 100) dec9) (hk : autoParam (Γ.env.kindOf x = some .local) rfl9) (hkf : autoParam (Γ.env.kindOf (Str.ofString "_law_draw") = some .globalImplicit) rfl9) (hd : autoParam ((x == "__debug__") = false) rfl9)
    (hst : autoParam (starEach [.Name x xp, .Constant (.int k) kn cp] Γ.env = (false, eval (.Name x xp) Γ.env) :: starEach [.Constant (.int k) kn cp] Γ.env) rfl9) (hcall : autoParam (callIs (Str.ofString "_law_draw") np pos [.Name x xp, .Constant (.int k) kn cp] Γ.env) rfl9) :
    Ev Γ lc (FgT fa B) (.Call (.Name (Str.ofString "_law_draw") np) [.Name x xp, .Constant (.int k) kn cp] [] pos) (IsDraw k) :=
  .ofT (EvT.call (f := 383) (post := fun v n => IsDraw k v ∧ FgT fa B n) (by kernel_rfl!) hkf (by decide +kernel) (by kernel_rfl!) (.two (.name hx hk hd) .int hst rfl) hst rfl hcall (fun vs hv n hn => by
    obtain ⟨v, v', rfl, e, ⟨t, rfl⟩⟩ := hv
    have e' : v = .ref fa := e
    subst e'
    obtain ⟨o, r, rfl, hf, hB, ho⟩ := hn
    exact (draw_core w fa o k t r hf ho h0 h1).conv (Nat.le_refl _) (Nat.le_refl _) (fun _ h => h) fun v n' ⟨o', ⟨hf', y, tk, e, h1, h2⟩, e2⟩ => ⟨n', ⟨⟨y, tk, e, h1, h2⟩, o', r, e2, hf', hB, ho⟩, fun _ h => h⟩) hroom)
    fun v P' e n hn => by subst e; exact ⟨hn.1, n, hn.2, fun _ h => h⟩
/-- [a, b, ..][_law_draw(figures, k)] -/
theorem Ev.menu {B : Led → Prop} {fa : Addr} {k : Int} {x : Str} {np xp cp pos lp sp : Pos} {kn : Nat} {es : List PX} {V : Value → Prop} (hes : EvL Γ lc (FgT fa B) es (fun vs => (vs.length : Int) = k ∧ ∀ v ∈ vs, V v)) (hx : (x, Vl.r fa) ∈ lc) (hroom : Γ.room 2 100) (h0 : autoParam (0 < k) dec9) (h1 : autoParam (k < 100) dec9) (hk : autoParam (Γ.env.kindOf x = some .local) rfl9) (hkf : autoParam (Γ.env.kindOf (Str.ofString "_law_draw") = some .globalImplicit) rfl9) (hd : autoParam ((x == "__debug__") = false) rfl9)
    (hst : autoParam (starEach [.Name x xp, .Constant (.int k) kn cp] Γ.env = (false, eval (.Name x xp) Γ.env) :: starEach [.Constant (.int k) kn cp] Γ.env) rfl9) (hcall : autoParam (callIs (Str.ofString "_law_draw") np pos [.Name x xp, .Constant (.int k) kn cp] Γ.env) rfl9)
    (hs : autoParam (∀ (i : Int) (t : Tok) (a : Addr), subscripted (.Call (.Name (Str.ofString "_law_draw") np) [.Name x xp, .Constant (.int k) kn cp] [] pos) false (.ref a) (.int i t) = operate [.ref a, .int i t] (getItem (.ref a) (.int i t))) irfl9) :
    Ev Γ lc (FgT fa B) (.Subscript (.List es lp) (.Call (.Name (Str.ofString "_law_draw") np) [.Name x xp, .Constant (.int k) kn cp] [] pos) sp) V := by
  intro s Q E S q
  refine Subscript_ (EvT.list hes (fun vs ⟨h, _⟩ => by omega) s _ E S fun v P' h1' t1 ⟨l, vs, e1, ⟨hl, hV⟩, e2⟩ S1 => ?_)
  subst e1 e2
  refine Ev.draw (B := fun r => ∃ r0, r = (l, listOf vs.toArray 0) :: r0 ∧ B r0) hx hroom h0 h1 hk hkf hd hst hcall _ _ E (S1.mono (fun _ h => h) fun n hn => ?_) fun v2 h2 t2 ⟨i, t, e, hi0, hi1⟩ S2 => ?_
  · obtain ⟨n0, rfl, ⟨o, r, rfl, hf, hB, ho⟩, hlt⟩ := hn
    refine ⟨_, ⟨o, _, rfl, hf, ⟨r, rfl, hB⟩, fun p hp => ?_⟩, fun p hp => ?_⟩
    · rcases List.mem_cons.mp hp with rfl | hp
      · exact Nat.ne_of_gt (hlt _ (.head _))
      · exact ho p hp
    · simp only [List.mem_cons] at hp ⊢
      grind
  · subst e
    obtain ⟨⟨m, Fm, hm⟩, news, N, o, r, rfl, hf, ⟨r0, rfl, hB⟩, ho⟩ := S2
    have hil : i.toNat < vs.length := by omega
    have hL : h2.IsList l vs.toArray := News.isList N (.tail _ (.head _))
    refine tail_any hL.typeIs slot_list_getitem.lookup (wpAny_getItem_list hL hi0 (by omega) (by simpa using List.getElem?_eq_getElem hil) (q _ h2 t2 (hV _ (List.getElem_mem hil)) ⟨⟨m, Fm, hm⟩, _, News.sub N ?_, o, r0, rfl, hf, hB, fun p hp => ho p (.tail _ hp)⟩)) (hs i t l)
    intro p hp
    rcases List.mem_cons.mp hp with rfl | hp
    · exact .head _
    · exact .tail _ (.tail _ hp)
theorem EvL.ints0 : EvL Γ lc P [] (fun vs => ((vs.length : Nat) : Int) = 0 ∧ ∀ v ∈ vs, ∃ i t, v = .int i t ∧ i ∈ ([] : List Int)) := fun pos s Q E S q => EvL.nil pos s Q E S fun vs h tk e S => q vs h tk (by subst e; exact ⟨rfl, fun _ h => nomatch h⟩) S
/-- a row of written ints -/
theorem EvL.ints {es : List PX} {is : List Int} {i : Int} {kn : Nat} {cp : Pos} {n : Int} (h : EvL Γ lc P es (fun vs => ((vs.length : Nat) : Int) = n ∧ ∀ v ∈ vs, ∃ i t, v = .int i t ∧ i ∈ is)) (hst : autoParam (starEach (.Constant (.int i) kn cp :: es) Γ.env = (false, eval (.Constant (.int i) kn cp) Γ.env) :: starEach es Γ.env) rfl9) :
    EvL Γ lc P (.Constant (.int i) kn cp :: es) (fun vs => ((vs.length : Nat) : Int) = n + 1 ∧ ∀ v ∈ vs, ∃ j t, v = .int j t ∧ j ∈ i :: is) := fun pos s Q E S q => EvL.cons .int h hst pos s Q E S fun vs h' tk ⟨v, r, e, ⟨t, e2⟩, hl, hr⟩ S' => q vs h' tk (by
  subst e e2
  refine ⟨by rw [List.length_cons]; omega, fun u hu => ?_⟩
  rcases List.mem_cons.mp hu with rfl | hu
  · exact ⟨i, t, rfl, .head _⟩
  · obtain ⟨j, t', e, hj⟩ := hr u hu
    exact ⟨j, t', e, .tail _ hj⟩) S'
end
end Mine
namespace Mine
theorem use_top {w : World} {p : Program} {loose : List Str} {mean : ExcName → Option Value} {mg mb : Str → Option Value} {dp un : Nat} {gd : Option (List Code)} {cn : Str} {cs : Scope} {L a : Addr} {ccd : Value} {cl : List (Str × Addr)} {outer : List Env} {A₀ : Around} {base h₀ : Heap} {m : Str → Option Value} {body : List Stmt} {s : Shared} {Q : Flow → Shared → Prop} {E : Value → Shared → Prop} {sa : Addr} {vs : List Value}
    (d u : Nat) (B : Below A₀ base outer h₀) (X : (hd.heap_1 w.params).In h₀) (T : Top p loose mean mg mb h₀) (hk : cs.kind = .function) (Fm : Fr h₀ L s.heap m) (N : News h₀ L s.heap []) (po : PassesOwn (model PR w) (ktrTop dp un gd cn cs L a ccd cl outer) (envX cn cs L a ccd cl) E)
    (hφ : h₀.IsList sa vs.toArray) (hm : m (Str.ofString "script") = some (.ref sa)) (hd9 : dp + d < recursionLimit) (hu : un + u < cLine) (fin : ∀ h' tk m' n, Fr h₀ L h' m' → News h₀ L h' n → Q (.ret (.bool true)) { s with heap := h', toks := tk })
    (H : ∀ Γ : Cx w ⟨cn, cs, a, ccd, cl⟩, Γ.room d u → Γ.h₀.IsList sa vs.toArray → Ex Γ [(Str.ofString "script", .r sa)] (fun n => n = []) body (fun f _ _ => f = .ret (.bool true))) : wpAny (model PR w) (ktrTop dp un gd cn cs L a ccd cl outer) (execs body (envX cn cs L a ccd cl)) Q E s :=
  H ⟨p, loose, mean, mg, mb, dp, un, gd, outer, A₀, base, h₀, L, B, X, T, hk⟩ ⟨hd9, hu⟩ hφ s Q E po ⟨⟨m, Fm, fun p hp => by rw [List.mem_singleton.mp hp]; exact ⟨_, hm, rfl⟩⟩, [], N, rfl⟩ fun f lc' P' h' tk e S' => by
    obtain ⟨⟨m2, F2, _⟩, n2, N2, hP2⟩ := S'
    subst e
    exact fin h' tk m2 n2 F2 N2
end Mine
end

section
open PySem PySem.W PySem.Spec PySem.Calls PyProof.Rows
set_option Elab.async false
set_option maxRecDepth 100000
set_option maxHeartbeats 4000000
namespace Mine
theorem fillqb : True ∨ (PySem.Challenge.rw_sa0151_01 = PySem.Challenge.rw_sa0151_01 ∧ hd.heap_1 = hd.heap_1) := by
  k_fill
  exact .inl trivial
noncomputable abbrev Le (a b : Led) : Prop := ∀ p ∈ a, p ∈ b
theorem Le.nil {a : Led} : Le [] a := fun _ h => nomatch h
theorem Le.rfl {a : Led} : Le a a := fun _ h => h
theorem Le.trans {a b c : Led} (h : Le a b) (h' : Le b c) : Le a c := fun p hp => h' p (h p hp)
section
variable {w : World} {F : Fn} {Γ : Cx w F} {lc lc' : Lcs} {P P' : Led → Prop} {R : RX} {fa : Addr} {r tl : Led} {e : PX} {es : List PX} {pos : Pos}
/-- the figures, and what has been made since on top of r -/
noncomputable abbrev GT (fa : Addr) (r tl : Led) : Led → Prop := FgT fa (fun R => R = tl ++ r ∧ ∀ p ∈ tl, fa < p.1 ∧ ∀ q ∈ r, q.1 < p.1)
theorem gt_grow {l : Addr} {o : Obj} {n0 : Led} (h : GT fa r tl n0) (hl : ∀ p ∈ n0, p.1 < l) : ∃ n', GT fa r ((l, o) :: tl) n' ∧ Le n' ((l, o) :: n0) := by
  obtain ⟨of, R, rfl, hf, ⟨rfl, ha⟩, ho⟩ := h
  refine ⟨(fa, of) :: (l, o) :: (tl ++ r), ⟨of, _, rfl, hf, ⟨rfl, fun p hp => ?_⟩, fun p hp => ?_⟩, fun p hp => ?_⟩
  · rcases List.mem_cons.mp hp with rfl | hp
    · exact ⟨hl _ (.head _), fun q hq => hl _ (.tail _ (List.mem_append.mpr (.inr hq)))⟩
    · exact ha p hp
  · rcases List.mem_cons.mp hp with rfl | hp
    · exact Nat.ne_of_gt (hl _ (.head _))
    · exact ho p hp
  · rcases List.mem_cons.mp hp with rfl | hp
    · exact .tail _ (.head _)
    · rcases List.mem_cons.mp hp with rfl | hp
      · exact .head _
      · exact .tail _ (.tail _ hp)
/-- an expression that makes objects -/
noncomputable def G (Γ : Cx w F) (lc : Lcs) (fa : Addr) (r tl0 : Led) (e : PX) (V : Led → Value → Prop) : Prop :=
  ∀ tl, Le tl0 tl → ∀ s Q E, St Γ s.heap lc (GT fa r tl) → (∀ v tl' h' tk, Le tl tl' → V tl' v → St Γ h' lc (GT fa r tl') → Q v { s with heap := h', toks := tk }) → wpAny (model PR w) Γ.A (eval e Γ.env) Q E s
noncomputable def GL (Γ : Cx w F) (lc : Lcs) (fa : Addr) (r tl0 : Led) (es : List PX) (V : Led → List Value → Prop) : Prop :=
  ∀ tl, Le tl0 tl → ∀ pos s Q E, St Γ s.heap lc (GT fa r tl) → (∀ v tl' h' tk, Le tl tl' → V tl' v → St Γ h' lc (GT fa r tl') → Q v { s with heap := h', toks := tk }) → wpAny (model PR w) Γ.A (spliced (backTo pos (starEach es Γ.env))) Q E s
theorem GL.nil : GL Γ lc fa r tl [] (fun _ vs => vs = []) := fun tl _ _ s _ _ S q => args_nil (q [] tl s.heap s.toks Le.rfl rfl S)
theorem GL.cons {V : Led → Value → Prop} {Vs : Led → List Value → Prop} (h : G Γ lc fa r tl e V) (hs : GL Γ lc fa r tl es Vs) (up : ∀ L L' v, Le L L' → V L v → V L' v) (hst : autoParam (starEach (e :: es) Γ.env = (false, eval e Γ.env) :: starEach es Γ.env) rfl9) :
    GL Γ lc fa r tl (e :: es) (fun L vs => ∃ v r, vs = v :: r ∧ V L v ∧ Vs L r) :=
  fun tl1 h1 pos s _ E S q => args_cons (h tl1 h1 s _ E S fun v tl2 h2 t2 s2 hv S2 => hs tl2 (h1.trans s2) pos _ _ E S2 fun vs tl3 h3 t3 s3 hvs S3 => q _ tl3 h3 t3 (s2.trans s3) ⟨v, vs, rfl, up _ _ v s3 hv, hvs⟩ S3) hst
theorem GL.mono {V V' : Led → List Value → Prop} (h : GL Γ lc fa r tl es V) (hv : ∀ L v, V L v → V' L v) : GL Γ lc fa r tl es V' := fun tl1 h1 pos s Q E S q => h tl1 h1 pos s Q E S fun v tl' h' tk a b => q v tl' h' tk a (hv _ _ b)
theorem G.mono {V V' : Led → Value → Prop} (h : G Γ lc fa r tl e V) (hv : ∀ L v, V L v → V' L v) : G Γ lc fa r tl e V' := fun tl1 h1 s Q E S q => h tl1 h1 s Q E S fun v tl' h' tk a b => q v tl' h' tk a (hv _ _ b)
theorem G.ev {V : Led → Value → Prop} (h : ∀ tl', Le tl tl' → Ev Γ lc (GT fa r tl') e (V tl')) : G Γ lc fa r tl e V := fun tl1 h1 s Q E S q => h tl1 h1 s Q E S fun v h' tk hv S' => q v tl1 h' tk Le.rfl hv S'
theorem G.ofT {V : Led → Value → Prop} (h : ∀ tl', Le tl tl' → EvT Γ lc (GT fa r tl') e (fun v P' => P' = fun n => ∃ tl2, Le tl' tl2 ∧ V tl2 v ∧ GT fa r tl2 n)) : G Γ lc fa r tl e V := fun tl1 h1 s Q E S q => h tl1 h1 s Q E S fun v P' h' tk e S' => by
  subst e
  obtain ⟨l, news, N, tl2, hs, hv, hg⟩ := S'
  exact q v tl2 h' tk hs hv ⟨l, news, N, hg⟩
theorem G.toT {V : Led → Value → Prop} (h : G Γ lc fa r tl e V) : EvT Γ lc (GT fa r tl) e (fun v P' => ∃ tl', Le tl tl' ∧ V tl' v ∧ P' = GT fa r tl') := fun s Q E S q => h tl Le.rfl s Q E S fun v tl' h' tk a b S' => q v _ h' tk ⟨tl', a, b, rfl⟩ S'
theorem G.tup {k : Nat} {Vs : Led → List Value → Prop} (h : GL Γ lc fa r tl es Vs) (hV : ∀ L vs, Vs L vs → vs.length ≤ 1000) (up : ∀ L L' v, Le L L' → Vs L v → Vs L' v) : G Γ lc fa r tl (.Tuple es k pos) (fun L v => ∃ a vs, v = .ref a ∧ (a, tupOf vs) ∈ L ∧ Vs L vs) := by
  intro tl1 h1 s Q E S q
  refine Tuple_ (h tl1 h1 _ s _ E S fun vs tl2 h2 t2 s2 hv S2 => ?_)
  obtain ⟨⟨m, Fm, hm⟩, news, N, hP⟩ := S2
  refine kup_newTuple Fm N (fun l h' F' N' hl => ?_) (by rw [sizeLine_eq]; have := hV _ vs hv; omega)
  obtain ⟨n', hn, hs⟩ := gt_grow hP hl
  exact q (.ref l) _ h' _ (fun p hp => .tail _ (s2 p hp)) ⟨l, vs, rfl, .head _, up _ _ _ (fun _ h => .tail _ h) hv⟩ ⟨⟨m, F', hm⟩, n', News.sub N' hs, hn⟩
theorem G.lst {Vs : Led → List Value → Prop} (h : GL Γ lc fa r tl es Vs) (hV : ∀ L vs, Vs L vs → vs.length ≤ 1000) (up : ∀ L L' v, Le L L' → Vs L v → Vs L' v) : G Γ lc fa r tl (.List es pos) (fun L v => ∃ a vs, v = .ref a ∧ (a, listOf vs.toArray 0) ∈ L ∧ Vs L vs) := by
  intro tl1 h1 s Q E S q
  refine List_ (h tl1 h1 _ s _ E S fun vs tl2 h2 t2 s2 hv S2 => ?_)
  obtain ⟨⟨m, Fm, hm⟩, news, N, hP⟩ := S2
  refine newList_K Fm N (fun l h' F' N' hl => ?_) (by rw [sizeLine_eq]; have := hV _ vs hv; omega)
  obtain ⟨n', hn, hs⟩ := gt_grow hP hl
  exact q (.ref l) _ h' _ (fun p hp => .tail _ (s2 p hp)) ⟨l, vs, rfl, .head _, up _ _ _ (fun _ h => .tail _ h) hv⟩ ⟨⟨m, F', hm⟩, n', News.sub N' hs, hn⟩
theorem opsAt_len {L : Led} {vs : List Value} {os : List Op} (h : OpsAt L vs os) : vs.length = os.length := by
  induction h with
  | nil => rfl
  | cons _ _ ih => simp only [List.length_cons, ih]
theorem GL.op0 : GL Γ lc fa r tl [] (fun L vs => OpsAt L vs []) := GL.nil.mono fun _ _ e => e ▸ .nil
theorem GL.op {o : Op} {os : List Op} (h : G Γ lc fa r tl e (fun L v => OpAt L v o)) (hs : GL Γ lc fa r tl es (fun L v => OpsAt L v os)) (hst : autoParam (starEach (e :: es) Γ.env = (false, eval e Γ.env) :: starEach es Γ.env) rfl9) : GL Γ lc fa r tl (e :: es) (fun L v => OpsAt L v (o :: os)) :=
  (GL.cons h hs (fun _ _ _ hs h => h.mono hs) hst).mono fun _ _ ⟨_, _, e, a, b⟩ => e ▸ .cons a b
theorem GL.row0 : GL Γ lc fa r tl [] (fun L vs => RowsAt L vs []) := GL.nil.mono fun _ _ e => e ▸ .nil
theorem GL.row {o : Row} {os : List Row} (h : G Γ lc fa r tl e (fun L v => RowAt L v o)) (hs : GL Γ lc fa r tl es (fun L v => RowsAt L v os)) (hst : autoParam (starEach (e :: es) Γ.env = (false, eval e Γ.env) :: starEach es Γ.env) rfl9) : GL Γ lc fa r tl (e :: es) (fun L v => RowsAt L v (o :: os)) :=
  (GL.cons h hs (fun _ _ _ hs h => h.mono hs) hst).mono fun _ _ ⟨_, _, e, a, b⟩ => e ▸ .cons a b
/-- (name, operands ..) -/
theorem G.row {row : Row} {ne : PX} {k : Nat} (hn : ∀ tl', Ev Γ lc (GT fa r tl') ne (Vl.s row.name).is) (h : GL Γ lc fa r tl es (fun L vs => OpsAt L vs row.ops)) (hst : autoParam (starEach (ne :: es) Γ.env = (false, eval ne Γ.env) :: starEach es Γ.env) rfl9) : G Γ lc fa r tl (.Tuple (ne :: es) k pos) (fun L v => RowAt L v row) :=
  (G.tup (.cons (.ev fun tl' _ => hn tl') h (fun _ _ _ _ h => h) hst) (fun _ vs ⟨_, _, e, _, h⟩ => by
    subst e
    rw [List.length_cons, opsAt_len h]
    cases row <;> exact Nat.le_of_ble_eq_true rfl) fun _ _ _ hs ⟨v, r, e, h, h'⟩ => ⟨v, r, e, h, h'.mono hs⟩).mono fun _ _ ⟨a, _, e, hm, _, vs, e2, ⟨t, e3⟩, ho⟩ => by
    subst e2 e3
    exact ⟨a, t, vs, e, hm, ho⟩
/-- [row, ..] -/
theorem G.pair {rs : List Row} (h : GL Γ lc fa r tl es (fun L vs => RowsAt L vs rs)) (hl : autoParam (rs.length ≤ 900) ble9) : G Γ lc fa r tl (.List es pos) (fun L v => PairAt L v rs) :=
  (G.lst h (fun _ vs h => by rw [rowsAt_len h]; omega) fun _ _ _ hs h => h.mono hs).mono fun _ _ ⟨a, vs, e, hm, h⟩ => ⟨a, vs, 0, e, hm, h⟩
-- operands
theorem G.nm {x : Str} {a : Addr} {o : Op} (hx : (x, Vl.r a) ∈ lc) (ho : OpAt tl (.ref a) o) (hk : autoParam (Γ.env.kindOf x = some .local) rfl9) (hd : autoParam ((x == "__debug__") = false) rfl9) : G Γ lc fa r tl (.Name x pos) (fun L v => OpAt L v o) :=
  .ev fun _ h => (Ev.name hx hk hd).mono fun v e => by
    have e' : v = .ref a := e
    subst e'
    exact ho.mono h
theorem G.nI {x : Str} {i : Int} (hx : (x, Vl.i i) ∈ lc) (hk : autoParam (Γ.env.kindOf x = some .local) rfl9) (hd : autoParam ((x == "__debug__") = false) rfl9) : G Γ lc fa r tl (.Name x pos) (fun L v => OpAt L v (.int i)) := .ev fun _ _ => .name hx hk hd
theorem G.cI {i : Int} {k : Nat} : G Γ lc fa r tl (.Constant (.int i) k pos) (fun L v => OpAt L v (.int i)) := .ev fun _ _ => .int
theorem G.gI {x : Str} {i : Int} {t : Tok} (hf : nsIn (hd.heap_1 w.params) mainGlobals x = some (some (.int i t))) (hk : autoParam (Γ.env.kindOf x = some .globalImplicit) rfl9) (hd9 : autoParam ((x == "__debug__") = false) rfl9) : G Γ lc fa r tl (.Name x pos) (fun L v => OpAt L v (.int i)) := .ev fun _ _ => (Ev.glob hf hk hd9).mono fun v e => ⟨t, e⟩
/-- (INT, i) -/
theorem G.con {x : Str} {i : Int} {t : Tok} {k1 k2 : Nat} {p1 p2 : Pos} (hf : nsIn (hd.heap_1 w.params) mainGlobals x = some (some (.int 5 t))) (hk : autoParam (Γ.env.kindOf x = some .globalImplicit) rfl9) (hd9 : autoParam ((x == "__debug__") = false) rfl9)
    (hst : autoParam (starEach [.Name x p1, .Constant (.int i) k1 p2] Γ.env = (false, eval (.Name x p1) Γ.env) :: starEach [.Constant (.int i) k1 p2] Γ.env) rfl9) (hst2 : autoParam (starEach [.Constant (.int i) k1 p2] Γ.env = (false, eval (.Constant (.int i) k1 p2) Γ.env) :: starEach [] Γ.env) rfl9) :
    G Γ lc fa r tl (.Tuple [.Name x p1, .Constant (.int i) k1 p2] k2 pos) (fun L v => OpAt L v (.con i)) :=
  (G.tup (.op (o := .int 5) (.gI hf hk hd9) (.op (o := .int i) .cI .op0 hst2) hst) (fun _ vs h => by rw [opsAt_len h]; exact Nat.le_of_ble_eq_true rfl) fun _ _ _ hs h => h.mono hs).mono fun _ _ ⟨a, vs, e, hm, h⟩ => by
    obtain _ | ⟨⟨t1, e1⟩, _ | ⟨⟨t2, e2⟩, _ | _⟩⟩ := h
    subst e1 e2
    exact ⟨a, t1, t2, e, hm⟩
/-- (sign, number) -/
theorem G.reg {ne ie : PX} {k : Nat} {s : Str} {V : Int → Prop} (hs : ∀ tl', Ev Γ lc (GT fa r tl') ne (Vl.s s).is) (hi : ∀ tl', Ev Γ lc (GT fa r tl') ie (fun v => ∃ i t, v = .int i t ∧ V i)) {y : Bool} (hn : s = Reg.nm ⟨y, 0⟩) (hv : ∀ i, V i → Reg.ok ⟨y, i⟩)
    (hst : autoParam (starEach [ne, ie] Γ.env = (false, eval ne Γ.env) :: starEach [ie] Γ.env) rfl9) (hst2 : autoParam (starEach [ie] Γ.env = (false, eval ie Γ.env) :: starEach [] Γ.env) rfl9) :
    G Γ lc fa r tl (.Tuple [ne, ie] k pos) (fun L v => ∃ i, V i ∧ OpAt L v (.reg ⟨y, i⟩)) :=
  (G.tup (.cons (V := fun _ => (Vl.s s).is) (.ev fun tl' _ => hs tl') (.cons (V := fun _ v => ∃ i t, v = .int i t ∧ V i) (.ev fun tl' _ => hi tl') .nil (fun _ _ _ _ h => h) hst2) (fun _ _ _ _ h => h) hst) (fun _ vs ⟨_, _, e, _, _, _, e2, _, e3⟩ => by subst e e2 e3; exact Nat.le_of_ble_eq_true rfl) fun _ _ _ _ h => h).mono
    fun _ _ ⟨a, vs, e, hm, _, _, e2, ⟨t1, e3⟩, _, _, e4, ⟨i, t2, e5, hv'⟩, e6⟩ => by
      subst e2 e3 e4 e5 e6 hn
      exact ⟨i, hv', a, t1, t2, e, hm, hv i hv'⟩
/-- 1 + a figure -/
theorem Ev.up1 {a : PX} {k1 : Nat} {p1 : Pos} {k : Int} (h : Ev Γ lc P a (IsDraw k)) : Ev Γ lc P (.BinOp (.Constant (.int 1) k1 p1) .Add a pos) (fun v => ∃ i t, v = .int i t ∧ 1 ≤ i ∧ i ≤ k) :=
  Ev.bin .int h fun _ _ ⟨_, e1⟩ ⟨i, _, e2, h1, h2⟩ _ _ _ q => by subst e1; subst e2; exact add_int (q _ _ ⟨1 + i, _, rfl, by omega, by omega⟩)
/-- a test whose answer is not known -/
noncomputable def EcX (Γ : Cx w F) (lc : Lcs) (P : Led → Prop) (c : PX) (φ : Bool → Prop) : Prop :=
  ∀ s Q E, St Γ s.heap lc P → (∀ b h' tk, φ b → St Γ h' lc P → Q b { s with heap := h', toks := tk }) → wpAny (model PR w) Γ.A (PySem.isTrue c Γ.env (eval c Γ.env)) Q E s
theorem Ex.ifX {c : PX} {thn els rest : List Stmt} {pos : Pos} {φ : Bool → Prop} (hc : EcX Γ lc P c φ) (h1 : φ true → Ex Γ lc P thn (Then Γ rest R)) (h2 : φ false → Ex Γ lc P els (Then Γ rest R)) : Ex Γ lc P (.If c thn els pos :: rest) R := by
  refine .next fun s Q E po S q => wpAny_If (hc s _ E S fun b h' tk hb S' => ?_)
  cases b with
  | true => exact h1 hb _ Q E po S' fun f l p h2 t2 r2 S2 => q f l p h2 t2 r2 S2
  | false => exact h2 hb _ Q E po S' fun f l p h2 t2 r2 S2 => q f l p h2 t2 r2 S2
theorem Ex.ifXJ {c : PX} {thn els rest : List Stmt} {pos : Pos} {φ : Bool → Prop} (J : Lcs → (Led → Prop) → Prop) (hc : EcX Γ lc P c φ) (h1 : φ true → Ex Γ lc P thn (fun f l p => f = .next ∧ J l p)) (h2 : φ false → Ex Γ lc P els (fun f l p => f = .next ∧ J l p)) (h : ∀ l p, J l p → Ex Γ l p rest R) :
    Ex Γ lc P (.If c thn els pos :: rest) R :=
  .ifX hc (fun e => (h1 e).mono fun f l p ⟨e, j⟩ => by subst e; exact h l p j) fun e => (h2 e).mono fun f l p ⟨e, j⟩ => by subst e; exact h l p j
-- statements
theorem Ex.setG {x : Str} {xp : Pos} {rest : List Stmt} {V : Led → Value → Prop} (h : G Γ lc fa r tl e V) (hr : ∀ v tl', Le tl tl' → V tl' v → ∃ vl lc', vl.is v ∧ (∀ p ∈ lc', p = (x, vl) ∨ (p.1 ≠ x ∧ p ∈ lc)) ∧ Ex Γ lc' (GT fa r tl') rest R)
    (hk : autoParam (Γ.env.kindOf x = some .local) rfl9) (hw : autoParam (swapsWith e (some (.Name x xp)) pos.line Γ.env = pure false) rfl9) : Ex Γ lc (GT fa r tl) (.Assign [.Name x xp] e pos :: rest) R :=
  .setT h.toT hk hw fun v P' ⟨tl', a, b, e⟩ => by subst e; exact hr v tl' a b
theorem Ex.retG {rest : List Stmt} {V : Led → Value → Prop} (h : G Γ lc fa r tl e V) (hr : ∀ v tl', Le tl tl' → V tl' v → R (.ret v) lc (GT fa r tl')) : Ex Γ lc (GT fa r tl) (.Return (some e) pos :: rest) R :=
  .next fun s Q E po S q => wpAny_Return_some (h tl Le.rfl s _ E S fun v tl' h' tk hs hv S' => q _ _ _ _ _ (hr v tl' hs hv) S')
theorem EcX.eqD {a c : PX} {k m : Int} (ha : Ev Γ lc P a (IsDraw k)) (hc : Ev Γ lc P c (Vl.i m).is) : EcX Γ lc P (.Compare a [.Eq] [c] pos) (fun _ => True) := by
  intro s Q E S q
  refine wpAny_isTrue_Compare1 (ha s _ E S fun v h2 t2 ⟨i, t, e, _⟩ S2 => hc _ _ E S2 fun u h3 t3 ⟨t', e'⟩ S3 => ?_) (marks _ _ rfl)
  subst e e'
  exact eq_int (wpAny_truthy_bool (q _ h3 t3 trivial S3))
theorem Ev.fam {g : Bool} {x y z : Str} {k : Nat} {p1 p2 : Pos} (hx : (x, Vl.s (Str.ofString (famPre g))) ∈ lc) (h : Str.ofString (famPre g) ++ y = z) (hl : autoParam (y.length ≤ 900) ble9) (hk : autoParam (Γ.env.kindOf x = some .local) rfl9) (hd : autoParam ((x == "__debug__") = false) rfl9) : Ev Γ lc P (.BinOp (.Name x p1) .Add (.Constant (.str y) k p2) pos) (Vl.s z).is :=
  Ev.bin (.name hx hk hd) .str fun _ _ ⟨_, e1⟩ ⟨_, e2⟩ _ _ _ q => by
    subst e1 e2 h
    exact PyProof.Rows.add_str (fun t' tk => q _ tk ⟨t', rfl⟩) (by rw [sizeLine_eq]; have : (Str.ofString (famPre g)).length ≤ 6 := by cases g <;> exact Nat.le_of_ble_eq_true rfl
                                                                   omega)
theorem rowsAt_rep {L : Led} {v : Value} {r : Row} (h : RowAt L v r) : ∀ k, RowsAt L (List.replicate k v) (List.replicate k r)
  | 0 => .nil
  | k + 1 => .cons h (rowsAt_rep h k)
theorem rowsAt_app {L : Led} {vs us : List Value} {rs qs : List Row} (h : RowsAt L vs rs) (h' : RowsAt L us qs) : RowsAt L (vs ++ us) (rs ++ qs) := by
  induction h with
  | nil => exact h'
  | cons h _ ih => exact .cons h ih
theorem gt_mem {n : Led} (h : GT fa r tl n) : Le tl n := by
  obtain ⟨o, R, rfl, _, ⟨rfl, _⟩, _⟩ := h
  exact fun p hp => .tail _ (List.mem_append.mpr (.inl hp))
/-- [row] * m -/
theorem G.mul {x : Str} {m : Int} {row : Row} {xp : Pos} (h : G Γ lc fa r tl e (fun L v => PairAt L v [row])) (hx : (x, Vl.i m) ∈ lc) (h1 : 1 ≤ m) (h2 : m ≤ 3) (hk : autoParam (Γ.env.kindOf x = some .local) rfl9) (hd : autoParam ((x == "__debug__") = false) rfl9) :
    G Γ lc fa r tl (.BinOp e .Mult (.Name x xp) pos) (fun L v => PairAt L v (List.replicate m.toNat row)) := by
  intro tl1 hle s Q E S q
  refine wpAny_BinOp (h tl1 hle s _ E S fun v tl2 h2' t2 s2 hv S2 => Ev.name hx hk hd _ _ E S2 fun u h3 t3 hu S3 => ?_)
  obtain ⟨t, hu⟩ := hu
  obtain ⟨a, vs, n, e1, hm, hr⟩ := hv
  subst hu e1
  obtain _ | ⟨hr, _ | _⟩ := hr
  obtain ⟨⟨mm, Fm, hml⟩, news, N, hP⟩ := S3
  refine KMa.mul Fm N (News.isList N (gt_mem hP _ hm)) (by omega) (by omega) (by simp only [List.length_cons, List.length_nil]; omega) (List.flatten_replicate_singleton) fun D h' F' N' hl => ?_
  obtain ⟨n', hn, hs⟩ := gt_grow hP hl
  exact q (.ref D) _ h' _ (fun p hp => .tail _ (s2 p hp)) ⟨D, _, 0, rfl, .head _, (rowsAt_rep hr _).mono fun _ h => .tail _ h⟩ ⟨⟨mm, F', hml⟩, n', News.sub N' hs, hn⟩
/-- pair + pair -/
theorem G.cat {e' : PX} {rs qs : List Row} (h : G Γ lc fa r tl e (fun L v => PairAt L v rs)) (h' : G Γ lc fa r tl e' (fun L v => PairAt L v qs)) (hl : rs.length + qs.length ≤ 900) :
    G Γ lc fa r tl (.BinOp e .Add e' pos) (fun L v => PairAt L v (rs ++ qs)) := by
  intro tl1 hle s Q E S q
  refine wpAny_BinOp (h tl1 hle s _ E S fun v tl2 h2' t2 s2 hv S2 => h' tl2 (hle.trans s2) _ _ E S2 fun u tl3 h3 t3 s3 hu S3 => ?_)
  obtain ⟨a, vs, n, e1, hm, hr⟩ := hv
  obtain ⟨b, us, n', e2, hm', hr'⟩ := hu
  subst e1 e2
  obtain ⟨⟨mm, Fm, hml⟩, news, N, hP⟩ := S3
  refine kmk_add_lit Fm N (News.isList N (gt_mem hP _ (s3 _ hm))) (News.isList N (gt_mem hP _ hm')) rfl (fun D h' F' N' hl => ?_) (by rw [sizeLine_eq]; simp only [rowsAt_len hr, rowsAt_len hr']; omega)
  obtain ⟨n', hn, hs⟩ := gt_grow hP hl
  exact q (.ref D) _ h' _ (fun p hp => .tail _ (s3 _ (s2 p hp))) ⟨D, _, 0, rfl, .head _, (rowsAt_app (hr.mono s3) hr').mono fun _ h => .tail _ h⟩ ⟨⟨mm, F', hml⟩, n', News.sub N' hs, hn⟩
/-- a def of the figures -/
theorem G.one {fn x : Str} {np xp : Pos} {f : Addr} {dp un : Nat} {V : Led → Value → Prop} (hf : nsIn (hd.heap_1 w.params) mainGlobals fn = some (some (.ref f))) (hkeep : keepIn (hd.heap_1 w.params) (.ref f) = true) (spec : ∀ tl n, GT fa r tl n → Spec w f dp un [.ref fa] n (fun v n => ∃ tl', Le tl tl' ∧ V tl' v ∧ GT fa r tl' n)) (hx : (x, Vl.r fa) ∈ lc) (hroom : Γ.room dp un)
    (hkf : autoParam (Γ.env.kindOf fn = some .globalImplicit) rfl9) (hdf : autoParam ((fn == "__debug__") = false) rfl9) (hk : autoParam (Γ.env.kindOf x = some .local) rfl9) (hd : autoParam ((x == "__debug__") = false) rfl9) (hst : autoParam (starEach [.Name x xp] Γ.env = (false, eval (.Name x xp) Γ.env) :: starEach [] Γ.env) rfl9) (hcall : autoParam (callIs fn np pos [.Name x xp] Γ.env) rfl9) :
    G Γ lc fa r tl (.Call (.Name fn np) [.Name x xp] [] pos) V :=
  .ofT fun tl' _ => .call hf hkf hdf hkeep (.cons (.name hx hk hd) .nil hst) hst rfl hcall (fun vs ⟨v, _, e, e2, e3⟩ n hn => by
    have e2' : v = .ref fa := e2
    subst e e2' e3
    exact spec tl' n hn) hroom
end
noncomputable abbrev Gen (fa : Addr) (r tl : Led) (V : Led → Value → Prop) : Value → Led → Prop := fun v n => ∃ tl', Le tl tl' ∧ V tl' v ∧ GT fa r tl' n
theorem x_q {w : World} {fa : Addr} {r tl : Led} : ∀ n, GT fa r tl n → Spec w 390 3 200 [.ref fa] n (Gen fa r tl fun L v => ∃ i, OpAt L v (.reg (X i))) := by
  refine' Spec.body (lc := [(Str.ofString "figures", .r fa)]) ?k6 ?k7 ?k9 ?kB ?c2 ?c3 ?c4 ?c5 ?hlc ?hd1 ?hu1 ?H
  case k6 => k_is
  case k7 => k_is
  case k9 => exact rfl
  case kB => exact rfl
  case c2 => exact rfl
  case c3 => exact rfl
  case c4 => exact rfl
  case c5 => decide
  case hlc => exact ⟨⟨_, rfl, rfl⟩, trivial⟩
  case hd1 => exact rfl
  case hu1 => exact rfl
  intro Γ hroom
  exact .retG (G.reg (y := false) (V := fun i => 1 ≤ i ∧ i ≤ 5) (fun _ => .str) (fun _ => .up1 (.draw (.head _) (hroom.le (by decide) (by decide)))) (by kernel_rfl!) fun i h => h) fun v tl' hs ⟨i, _, h⟩ n hn => ⟨tl', hs, ⟨i, h⟩, hn⟩
theorem any_q {w : World} {fa : Addr} {r tl : Led} : ∀ n, GT fa r tl n → Spec w 397 4 300 [.ref fa] n (Gen fa r tl fun L v => ∃ rg, OpAt L v (.reg rg)) := by
  refine' Spec.body (lc := [(Str.ofString "figures", .r fa)]) ?k6 ?k7 ?k9 ?kB ?c2 ?c3 ?c4 ?c5 ?hlc ?hd1 ?hu1 ?H
  case k6 => k_is
  case k7 => k_is
  case k9 => exact rfl
  case kB => exact rfl
  case c2 => exact rfl
  case c3 => exact rfl
  case c4 => exact rfl
  case c5 => decide
  case hlc => exact ⟨⟨_, rfl, rfl⟩, trivial⟩
  case hd1 => exact rfl
  case hu1 => exact rfl
  intro Γ hroom
  refine .ifX (.eqD (.draw (.head _) (hroom.le (by decide) (by decide))) .int) (fun _ => ?_) fun _ => .nilT ?_
  · exact .retG (G.reg (y := true) (V := fun i => 1 ≤ i ∧ i ≤ 3) (fun _ => .str) (fun _ => .up1 (.draw (.head _) (hroom.le (by decide) (by decide)))) (by kernel_rfl!) fun i h => ⟨h.1, Int.le_trans h.2 (by decide)⟩) fun v tl' hs ⟨i, _, h⟩ n hn => ⟨tl', hs, ⟨_, h⟩, hn⟩
  · exact .retG (.one (f := 390) (by kernel_rfl!) (by kernel_rfl!) (fun _ => x_q) (.head _) (hroom.le (by decide) (by decide))) fun v tl' hs ⟨i, h⟩ n hn => ⟨tl', hs, ⟨_, h⟩, hn⟩
end Mine
end

section
open PySem PySem.W PySem.Spec PySem.Calls PyProof.Rows
set_option Elab.async false
set_option maxRecDepth 100000
set_option maxHeartbeats 4000000
namespace Mine
theorem fillqbw : True ∨ (PySem.Challenge.rw_sa0151_01 = PySem.Challenge.rw_sa0151_01 ∧ hd.heap_1 = hd.heap_1) := by
  k_fill
  exact .inl trivial
inductive WP (g : Bool) : List Row → Prop
  | v (r : Reg) : r.ok → WP g [.famValue g r, .famLocal g r]
  | x (r : Reg) : r.ok → WP g [.famVariable g r, .famVariable g r]
  | n (n : Nat) : 1 ≤ n → n ≤ 3 → WP g (.famVoid g n :: List.replicate n (.famConstant g))

theorem op_ref {L : Led} {v : Value} {rg : Reg} (h : OpAt L v (.reg rg)) : ∃ a, v = .ref a ∧ rg.ok := by obtain ⟨a, _, _, e, _, k⟩ := h; exact ⟨a, e, k⟩
theorem within_q {w : World} {fa : Addr} {r : Led} {g : Bool} {l : Int} {tf t : Tok} (h1 : 1 ≤ l) (h2 : l ≤ 2) : ∀ n, GT fa r [] n → Spec w 404 5 400 [.ref fa, .str (Str.ofString (famPre g)) tf, .int l t] n (Gen fa r [] fun L v => ∃ rs, WP g rs ∧ PairAt L v rs) := by
  refine' Spec.body (lc := [(Str.ofString "figures", .r fa), (Str.ofString "family", .s (Str.ofString (famPre g))), (Str.ofString "left", .i l)]) ?k6 ?k7 ?k9 ?kB ?c2 ?c3 ?c4 ?c5 ?hlc ?hd1 ?hu1 ?H
  case k6 => k_is
  case k7 => k_is
  case k9 => exact rfl
  case kB => exact rfl
  case c2 => exact rfl
  case c3 => exact rfl
  case c4 => exact rfl
  case c5 => decide
  case hlc => exact ⟨⟨_, rfl, rfl⟩, ⟨_, rfl, _, rfl⟩, ⟨_, rfl, _, rfl⟩, trivial⟩
  case hd1 => exact rfl
  case hu1 => exact rfl
  intro Γ hroom
  have hr : Γ.room 2 100 := hroom.le (by decide) (by decide)
  refine .setT (Ev.draw (.head _) hr).toT rfl rfl fun v P' ⟨⟨k, t', e, _, _⟩, e2⟩ => ⟨.i k, _, ⟨_, e⟩, Dropped.cons (by kernel_rfl!), ?_⟩
  subst e2
  refine .setG (.one (f := 397) (by kernel_rfl!) (by kernel_rfl!) (fun _ => any_q) (.tail _ (.head _)) (hroom.le (by decide) (by decide))) fun v tl hs ⟨rg, ho⟩ => ?_
  obtain ⟨a, rfl, hok⟩ := op_ref ho
  refine ⟨.r a, _, rfl, Dropped.cons (by kernel_rfl!), ?_⟩
  have hk : (Str.ofString "kind", Vl.i k) ∈ [(Str.ofString "spot", Vl.r a), (Str.ofString "kind", Vl.i k), (Str.ofString "figures", Vl.r fa), (Str.ofString "family", Vl.s (Str.ofString (famPre g))), (Str.ofString "left", Vl.i l)] := .tail _ (.head _)
  have hf : (Str.ofString "family", Vl.s (Str.ofString (famPre g))) ∈ [(Str.ofString "spot", Vl.r a), (Str.ofString "kind", Vl.i k), (Str.ofString "figures", Vl.r fa), (Str.ofString "family", Vl.s (Str.ofString (famPre g))), (Str.ofString "left", Vl.i l)] := .tail _ (.tail _ (.tail _ (.head _)))
  refine .ifC (.eqI (.name hk rfl rfl) .int) (fun _ => ?_) fun _ => .nilT ?_
  · exact .retG (.pair (.row (.row (row := .famValue g rg) (fun _ => .fam hf (by cases g <;> kernel_rfl!)) (.op (.nm (.head _) ho) .op0)) (.row (.row (row := .famLocal g rg) (fun _ => .fam hf (by cases g <;> kernel_rfl!)) (.op (.nm (.head _) ho) .op0)) .row0))) fun v tl' _ h n hn => ⟨tl', Le.nil, ⟨_, .v rg hok, h⟩, hn⟩
  refine .ifC (.eqI (.name hk rfl rfl) .int) (fun _ => ?_) fun _ => .nilT ?_
  · exact .retG (.pair (.row (.row (row := .famVariable g rg) (fun _ => .fam hf (by cases g <;> kernel_rfl!)) (.op (.nm (.head _) ho) .op0)) (.row (.row (row := .famVariable g rg) (fun _ => .fam hf (by cases g <;> kernel_rfl!)) (.op (.nm (.head _) ho) .op0)) .row0))) fun v tl' _ h n hn => ⟨tl', Le.nil, ⟨_, .x rg hok, h⟩, hn⟩
  refine .set (vl := .i l) (.name (.tail _ (.tail _ (.tail _ (.tail _ (.head _))))) rfl rfl) (nm_ok (by kernel_rfl!)) rfl rfl ?_
  refine .ifJ (fun lc P => ∃ m, 1 ≤ m ∧ m ≤ 3 ∧ lc = [(Str.ofString "many", Vl.i m), (Str.ofString "family", Vl.s (Str.ofString (famPre g)))] ∧ P = GT fa r tl) (.eqI (.name (.tail _ hk) rfl rfl) .int) (fun _ => ?_) (fun _ => .weak (lc' := [(Str.ofString "many", Vl.i l), (Str.ofString "family", Vl.s (Str.ofString (famPre g)))]) (fun p hp => (List.mem_cons.mp hp).elim (fun e => e ▸ .head _) fun hp => (by rw [List.mem_singleton.mp hp]; exact .tail _ hf)) (fun n hn => ⟨n, hn, fun _ h => h⟩) (.nil ⟨rfl, l, h1, by omega, rfl, rfl⟩)) ?_
  · exact .setT (Ev.up1 (.draw (.tail _ (.tail _ (.tail _ (.head _)))) hr)).toT rfl rfl fun v P' ⟨⟨m, t', e, a1, a2⟩, e2⟩ => ⟨.i m, [(Str.ofString "many", Vl.i m), (Str.ofString "family", Vl.s (Str.ofString (famPre g)))], ⟨_, e⟩, fun p hp => by
      rcases List.mem_cons.mp hp with rfl | hp
      · exact .inl rfl
      · rw [List.mem_singleton.mp hp]; exact .inr ⟨(by decide +kernel : Str.ofString "family" ≠ Str.ofString "many"), .tail _ hf⟩, .nil ⟨rfl, m, a1, a2, rfl, e2⟩⟩
  · rintro _ _ ⟨m, a1, a2, rfl, rfl⟩
    refine .retG (.cat (.pair (.row (.row (row := .famVoid g m) (fun _ => .fam (.tail _ (.head _)) (by cases g <;> kernel_rfl!)) (.op (.nI (.head _)) .op0)) .row0)) (.mul (.pair (.row (.row (row := .famConstant g) (fun _ => .fam (.tail _ (.head _)) (by cases g <;> kernel_rfl!)) (.op (.con (by rfl)) .op0)) .row0)) (.head _) a1 a2) (by rw [List.length_replicate, List.length_singleton]; omega)) fun v tl' _ h n hn => ⟨tl', Le.nil, ⟨_, ?_, h⟩, hn⟩
    have e : m = ((m.toNat : Nat) : Int) := by omega
    have := WP.n (g := g) m.toNat (by omega) (by omega)
    rw [← e] at this
    exact this
end Mine
end

section
open PySem PySem.W PySem.Spec PySem.Calls PyProof.Rows
set_option Elab.async false
set_option maxRecDepth 100000
set_option maxHeartbeats 4000000
namespace Mine
theorem fillqba : True ∨ (PySem.Challenge.rw_sa0151_01 = PySem.Challenge.rw_sa0151_01 ∧ hd.heap_1 = hd.heap_1) := by
  k_fill
  exact .inl trivial
theorem alike_q {w : World} {fa : Addr} {r : Led} {t : Tok} : ∀ n, GT fa r [] n → Spec w 411 5 400 [.ref fa, .int 32 t] n (Gen fa r [] fun L v => ∃ rs, Pair rs ∧ PairAt L v rs) := by
  refine' Spec.body (lc := [(Str.ofString "figures", .r fa), (Str.ofString "name", .i 32)]) ?k6 ?k7 ?k9 ?kB ?c2 ?c3 ?c4 ?c5 ?hlc ?hd1 ?hu1 ?H
  case k6 => k_is
  case k7 => k_is
  case k9 => exact rfl
  case kB => exact rfl
  case c2 => exact rfl
  case c3 => exact rfl
  case c4 => exact rfl
  case c5 => decide
  case hlc => exact ⟨⟨_, rfl, rfl⟩, ⟨_, rfl, _, rfl⟩, trivial⟩
  case hd1 => exact rfl
  case hu1 => exact rfl
  intro Γ hroom
  have hr : Γ.room 2 100 := hroom.le (by decide) (by decide)
  refine .setT (Ev.draw (.head _) hr).toT rfl rfl fun v P' ⟨⟨k, t', e, _, _⟩, e2⟩ => ⟨.i k, _, ⟨_, e⟩, Dropped.cons (by kernel_rfl!), ?_⟩
  subst e2
  refine .setG (.one (f := 397) (by kernel_rfl!) (by kernel_rfl!) (fun _ => any_q) (.tail _ (.head _)) (hroom.le (by decide) (by decide))) fun v tl hs ⟨rg, ho⟩ => ?_
  obtain ⟨a, rfl, hok⟩ := op_ref ho
  refine ⟨.r a, _, rfl, Dropped.cons (by kernel_rfl!), ?_⟩
  refine .setG (.one (f := 390) (by kernel_rfl!) (by kernel_rfl!) (fun _ => x_q) (.tail _ (.tail _ (.head _))) (hroom.le (by decide) (by decide))) fun v tl2 hs2 ⟨i, hx⟩ => ?_
  obtain ⟨b, rfl, _⟩ := op_ref hx
  refine ⟨.r b, _, rfl, Dropped.cons (by kernel_rfl!), ?_⟩
  refine .setG (.con (by rfl)) fun v tl3 hs3 hc => ?_
  obtain ⟨c, t1, t2, rfl, hc⟩ := hc
  refine ⟨.r c, _, rfl, Dropped.cons (by kernel_rfl!), ?_⟩
  have hc' : OpAt tl3 (.ref c) (.con 8) := ⟨c, t1, t2, rfl, hc⟩
  replace ho := ho.mono (hs2.trans hs3)
  replace hx := hx.mono hs3
  clear hs hs2 hs3 hc
  generalize hlc : [(Str.ofString "fixed", Vl.r c), (Str.ofString "here", Vl.r b), (Str.ofString "spot", Vl.r a), (Str.ofString "kind", Vl.i k), (Str.ofString "figures", Vl.r fa), (Str.ofString "name", Vl.i 32)] = lc
  have mk : (Str.ofString "kind", Vl.i k) ∈ lc := by subst hlc; exact .tail _ (.tail _ (.tail _ (.head _)))
  have mf : (Str.ofString "figures", Vl.r fa) ∈ lc := by subst hlc; exact .tail _ (.tail _ (.tail _ (.tail _ (.head _))))
  have mn : (Str.ofString "name", Vl.i 32) ∈ lc := by subst hlc; exact .tail _ (.tail _ (.tail _ (.tail _ (.tail _ (.head _)))))
  have hcn : ∀ p ∈ lc, p.1 ≠ Str.ofString "count" := by subst hlc; exact nm_ok (by kernel_rfl!)
  have S : ∀ {pos}, G Γ lc fa r tl3 (.Name (Str.ofString "spot") pos) (fun L v => OpAt L v (.reg rg)) := .nm (by subst hlc; exact .tail _ (.tail _ (.head _))) ho
  have H : ∀ {pos}, G Γ lc fa r tl3 (.Name (Str.ofString "here") pos) (fun L v => OpAt L v (.reg (X i))) := .nm (by subst hlc; exact .tail _ (.head _)) hx
  have C : ∀ {pos}, G Γ lc fa r tl3 (.Name (Str.ofString "fixed") pos) (fun L v => OpAt L v (.con 8)) := .nm (by subst hlc; exact .head _) hc'
  have N : ∀ {pos lc}, (Str.ofString "name", Vl.i 32) ∈ lc → G Γ lc fa r tl3 (.Name (Str.ofString "name") pos) (fun L v => OpAt L v (.int 32)) := fun h => .nI h
  have T : ∀ {pos lc}, G Γ lc fa r tl3 (.Name (Str.ofString "F_TRUE") pos) (fun L v => OpAt L v (.int 21)) := .gI (by rfl)
  have D : ∀ {pos}, G Γ lc fa r tl3 (.Name (Str.ofString "F_DOT") pos) (fun L v => OpAt L v (.int 0)) := .gI (by rfl)
  have K : ∀ {rs v tl' n}, Pair rs → PairAt tl' v rs → GT fa r tl' n → Gen fa r [] (fun L v => ∃ rs, Pair rs ∧ PairAt L v rs) v n := fun h h' hn => ⟨_, Le.nil, ⟨_, h, h'⟩, hn⟩
  refine .ifC (.eqI (.name mk rfl rfl) .int) (fun _ => .retG (.pair (.row (.row (row := .getList i) (fun _ => .str) (.op H .op0)) (.row (.row (row := .getStructure i) (fun _ => .str) (.op D (.op H .op0))) .row0))) fun _ _ _ h _ => K (.k0 _) h) fun _ => .nilT ?_
  refine .ifC (.eqI (.name mk rfl rfl) .int) (fun _ => .retG (.pair (.row (.row (row := .getVariable rg i) (fun _ => .str) (.op S (.op H .op0))) (.row (.row (row := .cutTo (X i)) (fun _ => .str) (.op H .op0)) (.row (.row (row := .mark rg) (fun _ => .str) (.op S .op0)) .row0)))) fun _ _ _ h _ => K (.k1 _ _) h) fun _ => .nilT ?_
  refine .ifC (.eqI (.name mk rfl rfl) .int) (fun _ => .retG (.pair (.row (.row (row := .putValue rg i) (fun _ => .str) (.op S (.op H .op0))) (.row (.row (row := .cutTo rg) (fun _ => .str) (.op S .op0)) (.row (.row (row := .putVoid i) (fun _ => .str) (.op H .op0)) .row0)))) fun _ _ _ h _ => K (.k2 _ _) h) fun _ => .nilT ?_
  refine .ifC (.eqI (.name mk rfl rfl) .int) (fun _ => .retG (.pair (.row (.row (row := .putList i) (fun _ => .str) (.op H .op0)) (.row (.row (row := .putStructure i) (fun _ => .str) (.op D (.op H .op0))) .row0))) fun _ _ _ h _ => K (.k3 _) h) fun _ => .nilT ?_
  refine .ifC (.eqI (.name mk rfl rfl) .int) (fun _ => .retG (.pair (.row (.row (row := .putVariable rg i) (fun _ => .str) (.op S (.op H .op0))) (.row (.row (row := .getLevel rg) (fun _ => .str) (.op S .op0)) (.row (.row (row := .putConstant i) (fun _ => .str) (.op C (.op H .op0))) .row0)))) fun _ _ _ h _ => K (.k4 _ _) h) fun _ => .nilT ?_
  refine .ifC (.eqI (.name mk rfl rfl) .int) (fun _ => .retG (.pair (.row (.row (row := .getValue rg i) (fun _ => .str) (.op S (.op H .op0))) (.row (.row (row := .getConstant i) (fun _ => .str) (.op C (.op H .op0))) (.row (.row (row := .cutTo rg) (fun _ => .str) (.op S .op0)) .row0)))) fun _ _ _ h _ => K (.k5 _ _) h) fun _ => .nilT ?_
  refine .ifC (.eqI (.name mk rfl rfl) .int) (fun _ => ?_) fun _ => .nilT ?_
  · refine .setT (Ev.draw mf hr).toT rfl rfl fun v P' ⟨⟨m, t', e, a1, a2⟩, e2⟩ => ⟨.i m, (Str.ofString "count", .i m) :: lc, ⟨_, e⟩, fun p hp => (List.mem_cons.mp hp).imp id fun hp => ⟨hcn p hp, hp⟩, ?_⟩
    subst e2
    exact .retG (.pair (.row (.row (row := .call 32 m) (fun _ => .str) (.op (N (.tail _ mn)) (.op (.nI (.head _)) .op0))) (.row (.row (row := .builtin 32) (fun _ => .str) (.op (N (.tail _ mn)) .op0)) (.row (.row (row := .call 21 m) (fun _ => .str) (.op T (.op (.nI (.head _)) .op0))) .row0)))) fun _ _ _ h _ => K (.k6 _ a1 (by omega)) h
  refine .ifC (.eqI (.name mk rfl rfl) .int) (fun _ => .retG (.pair (.row (.row (row := .allocate) (fun _ => .str) (.op .cI .op0)) (.row (.row (row := .neckCut) (fun _ => .str) .op0) (.row (.row (row := .allocate) (fun _ => .str) (.op .cI .op0)) .row0)))) fun _ _ _ h _ => K .k7 h) fun _ => .nilT ?_
  refine .ifC (.eqI (.name mk rfl rfl) .int) (fun _ => .retG (.pair (.row (.row (row := .deallocate) (fun _ => .str) .op0) (.row (.row (row := .deallocate) (fun _ => .str) .op0) (.row (.row (row := .builtin 21) (fun _ => .str) (.op T .op0)) .row0)))) fun _ _ _ h _ => K .k8 h) fun _ => .nilT ?_
  have Y : ∀ {k1 k2 k3 p1 p2 p3}, G Γ lc fa r tl3 (.Tuple [.Constant (.str (Str.ofString "y")) k1 p1, .Constant (.int 1) k2 p2] k3 p3) (fun L v => OpAt L v (.reg ⟨true, 1⟩)) := (G.reg (y := true) (V := fun i => i = 1) (fun _ => .str) (fun _ => Ev.int.mono fun v ⟨t, e⟩ => ⟨1, t, e, rfl⟩) (by kernel_rfl!) fun i h => by subst h; exact ⟨by decide, by decide⟩).mono fun _ _ ⟨_, e, h⟩ => e ▸ h
  refine .ifC (.eqI (.name mk rfl rfl) .int) (fun _ => .retG (.pair (.row (.row (row := .putUnsafe i) (fun _ => .str) (.op Y (.op H .op0))) (.row (.row (row := .putValue ⟨true, 1⟩ i) (fun _ => .str) (.op Y (.op H .op0))) .row0))) fun _ _ _ h _ => K (.k9 _) h) fun _ => .nilT ?_
  refine .ifC (.eqI (.name mk rfl rfl) .int) (fun _ => .retG (.pair (.row (.row (row := .mark rg) (fun _ => .str) (.op S .op0)) (.row (.row (row := .getLevel rg) (fun _ => .str) (.op S .op0)) .row0))) fun _ _ _ h _ => K (.k10 _) h) fun _ => .nilT ?_
  refine .ifC (.eqI (.name mk rfl rfl) .int) (fun _ => .retG (.pair (.row (.row (row := .execute 32) (fun _ => .str) (.op (N mn) .op0)) (.row (.row (row := .builtin 32) (fun _ => .str) (.op (N mn) .op0)) (.row (.row (row := .execute 21) (fun _ => .str) (.op T .op0)) .row0)))) fun _ _ _ h _ => K .k11 h) fun _ => .nilT ?_
  exact .retG (.pair (.row (.row (row := .cutTo (X i)) (fun _ => .str) (.op H .op0)) (.row (.row (row := .getValue (X i) i) (fun _ => .str) (.op H (.op H .op0))) .row0))) fun _ _ _ h _ => K (.k12 _) h
end Mine
end

section
open PySem PySem.W PySem.Spec PySem.Calls PyProof.Rows PyProof.V
set_option Elab.async false
set_option maxRecDepth 100000
namespace Mine
theorem law_pack {w : World} {sg : Addr} {A : List Str} {FF : List (List Int)} {four rest : Led} {h₀ h : Heap} {L a : Addr} {o : Obj} (hS : SymF w sg A FF four rest) (N : News h₀ L h (four ++ rest)) (hm : (a, o) ∈ rest) (hc : o.cls = .type "list")
    (hl : FF.length = 33) (h0 : ∃ a, FF[0]? = some [a, 2]) (h21 : ∃ a, FF[21]? = some [a, 0]) (h32 : ∃ a, FF[32]? = some [a, 2]) :
    ∃ R, News h₀ L h ((a, o) :: R) ∧ SymAt w sg R ∧ (∀ p ∈ R, p.1 ≠ a) := by
  refine ⟨away a (four ++ rest), news_pull N (List.mem_append.mpr (.inr hm)), ?_, away_off⟩
  obtain ⟨D, rfl⟩ := hS
  have ne : ∀ {b : Addr} {ob : Obj}, (b, ob) ∈ rest → ob.cls ≠ .type "list" → b ≠ a := fun {b ob} hb hcl e => by
    subst e
    have := news_same N N (List.mem_append.mpr (.inr hb)) (List.mem_append.mpr (.inr hm))
    rw [this] at hcl
    exact hcl hc
  have inR : ∀ {b : Addr} {ob : Obj}, (b, ob) ∈ rest → ob.cls ≠ .type "list" → (b, ob) ∈ away a (D.four ++ rest) := fun hb hcl => away_mem (List.mem_append.mpr (.inr hb)) (ne hb hcl)
  have hfl : (D.fl, listOf (List.toArray D.fvs) D.n3) ∈ away a (D.four ++ rest) :=
    away_mem (.tail _ (.tail _ (.head _))) fun e => D.off _ (.tail _ (.tail _ (.head _))) _ hm e.symm
  refine ⟨⟨D.ds, D.fl, D.kt, .ref D.ta, .ref D.aa, .ref D.na, D.fvs, D.n3, inR D.m1 (by intro q; cases q), inR D.m2 (by intro q; injection q with q; exact absurd q (by decide)), hfl, by rw [D.hrows.len, hl], fun f hf => ?_⟩⟩
  have go : ∀ (n : Nat) (a' r : Int), FF[n]? = some [a', r] → ∃ t v tk, D.fvs[n]? = some (.ref t) ∧ (t, tupOf [v, .int r tk]) ∈ away a (D.four ++ rest) := fun n a' r e => by
    obtain ⟨t, ta', tr, e1, e2⟩ := D.hrows.at e
    exact ⟨t, _, tr, e1, inR e2 (by intro q; injection q with q; exact absurd q (by decide))⟩
  rcases hf with rfl | rfl | rfl
  · obtain ⟨a', e⟩ := h0; exact go 0 a' _ e
  · obtain ⟨a', e⟩ := h21; exact go 21 a' _ e
  · obtain ⟨a', e⟩ := h32; exact go 32 a' _ e
theorem S3len (a : List Int) : (S2.2 ++ [a]).length = 33 := by rw [List.length_append, fin32.1]; rfl
theorem S3at {a : List Int} {n : Nat} {v : List Int} (h : S2.2[n]? = some v) : (S2.2 ++ [a])[n]? = some v := by
  obtain ⟨hn, e⟩ := List.getElem?_eq_some_iff.mp h
  rw [List.getElem?_append_left hn]; exact h
theorem S3last (a : List Int) : (S2.2 ++ [a])[32]? = some a := by
  rw [List.getElem?_append_right (by rw [fin32.1]; decide), fin32.1]; rfl
theorem e32 : ((S2.2.length : Nat) : Int) = 32 := by rw [fin32.1]; rfl
end Mine
end

section
open PySem PySem.W PySem.Spec PySem.Calls PyProof.Rows PyProof.V
set_option Elab.async false
set_option maxRecDepth 100000
namespace Mine
theorem PairsAt.snoc {L : Led} {vs : List Value} {ps : List (List Row)} {v : Value} {rs : List Row} (h : PairsAt L vs ps) (hp : PairAt L v rs) : PairsAt L (vs ++ [v]) (ps ++ [rs]) := by
  induction h with
  | nil => exact .cons hp .nil
  | cons a _ ih => exact .cons a ih
theorem WP.pair {g : Bool} {rs : List Row} (h : WP g rs) : Pair rs := by
  cases h with
  | v r k => exact .famV g r k
  | x r k => exact .famX g r k
  | n n h1 h3 => exact .famN g n h1 h3
theorem Pair.two {rs : List Row} (h : Pair rs) : 2 ≤ rs.length := by
  cases h with
  | famN g n h1 h3 => simp; omega
  | _ => simp
theorem Pair.four {rs : List Row} (h : Pair rs) : rs.length ≤ 4 := by
  cases h with
  | famN g n h1 h3 => simp; omega
  | _ => simp
noncomputable def FamIs (left : Int) (fam : Str) : Prop := 0 < left → ∃ g, fam = Str.ofString (famPre g)
end Mine
end

section
open PySem PySem.W PySem.Spec PySem.Calls PyProof.Rows
set_option Elab.async false
set_option maxRecDepth 100000
set_option maxHeartbeats 4000000
namespace Mine
section
variable {w : World} {F : Fn} {Γ : Cx w F} {lc lc' : Lcs} {P P' : Led → Prop} {R : RX}
/-- left > 0 and _law_draw(figures, 12) != 11 -/
theorem EcX.and2 {a b c : PX} {pos p2 : Pos} {x : Bool} {k : Int} {m : Int} (ha : Ec Γ lc P a x) (hb : Ev Γ lc P b (IsDraw k)) (hc : Ev Γ lc P c (Vl.i m).is) : EcX Γ lc P (.BoolOp .And [a, .Compare b [.NotEq] [c] p2] pos) (fun z => z = true → x = true) := by
  intro s Q E S q
  refine isTrue_and (ha s _ E S fun h1 t1 S1 => ?_)
  cases x with
  | false => exact q false h1 t1 (fun h => nomatch h) S1
  | true =>
    refine isTrue_and (wpAny_isTrue_Compare1 (hb _ _ E S1 fun v h2 t2 ⟨i, t, e, _⟩ S2 => hc _ _ E S2 fun u h3 t3 ⟨t', e'⟩ S3 => ?_) (marks _ _ rfl))
    subst e e'
    refine ne_int (wpAny_truthy_bool ?_)
    cases (i != m) with
    | true => exact isTrue_and_nil (q true h3 t3 (fun _ => rfl) S3)
    | false => exact q false h3 t3 (fun _ => rfl) S3
theorem Ev.ends {o e : PX} {ap pos : Pos} {x y : Str} (ho : Ev Γ lc P o (Vl.s x).is) (he : Ev Γ lc P e (Vl.s y).is) (hst : starEach [e] Γ.env = (false, eval e Γ.env) :: starEach [] Γ.env) (hany : ((backTo pos (starEach [] Γ.env)).any fun x => x.1) = false)
    (hpl : ∃ pl, eval (.Call (.Attribute o (Str.ofString "endswith") ap) [e] [] pos) Γ.env = (do let ov ← eval o Γ.env; standAt ap.atName; let (f, first) ← holding [ov] (getMethod ov (Str.ofString "endswith") pl); callWith pos f first (backTo pos (starEach [e] Γ.env)) [])) :
    Ev Γ lc P (.Call (.Attribute o (Str.ofString "endswith") ap) [e] [] pos) (Vl.b (Txt.endswith x y)).is := by
  intro s Q E S q
  obtain ⟨pl, hpl⟩ := hpl
  refine MethodCall_ (pl := pl) (ho s _ E S fun v1 h1 t1 x1 S1 => ?_) hpl
  obtain ⟨u1, x1'⟩ := x1
  subst x1'
  refine GM.endswith (callWith_method1 (EvL.cons he .nil hst pos _ _ E S1 fun vs h2 t2 hv S2 => ?_) hst hany)
  obtain ⟨v, r, e1, ⟨t, e2⟩, e3⟩ := hv
  subst e1 e2 e3
  exact SC.endswith (q _ h2 t2 rfl S2)
/-- name -= e -/
theorem Ex.augSub {x : Str} {e : PX} {xp pos : Pos} {st : List Stmt} {i : Int} {V : Value → Prop} (hx : (x, Vl.i i) ∈ lc) (he : Ev Γ lc P e V) (hk : Γ.env.kindOf x = some .local) (hr : ∀ v, V v → ∃ j t lc', v = .int j t ∧ Dropped x (.i (i - j)) lc lc' ∧ Ex Γ lc' P st R) : Ex Γ lc P (.AugAssign (.Name x xp) .Sub e pos :: st) R := by
  refine .next fun s Q E po S q => wpAny_AugAssign_Name ?_
  obtain ⟨⟨m, Fm, hm⟩, news, N, hP⟩ := S
  obtain ⟨u, e1, t, e2⟩ := hm _ hx
  subst e2
  refine wpAny_loadName_local Γ.hk hk Fm.ns e1 (he s _ E ⟨⟨m, Fm, hm⟩, news, N, hP⟩ fun v h' tk hv S' => ?_)
  obtain ⟨j, t', lc', rfl, hd, hx⟩ := hr v hv
  obtain ⟨⟨m2, F2, hm2⟩, n2, N2, hP2⟩ := S'
  exact isub_int (storeX_L F2 N2 (fun h3 F3 N3 => q .next lc' P h3 _ hx ⟨⟨_, F3, hd.at ⟨_, rfl⟩ hm2⟩, n2, N3, hP2⟩) Γ.hk hk)
/-- x in ('a', 'b') -/
theorem Ec.in2 {a : PX} {x y z : Str} {ky kz kt : Nat} {py pz pt pos : Pos} (ha : Ev Γ lc P a (Vl.s x).is) (hst : starEach [.Constant (.str y) ky py, .Constant (.str z) kz pz] Γ.env = (false, eval (.Constant (.str y) ky py) Γ.env) :: starEach [.Constant (.str z) kz pz] Γ.env) (hst' : starEach [.Constant (.str z) kz pz] Γ.env = (false, eval (.Constant (.str z) kz pz) Γ.env) :: starEach [] Γ.env) :
    Ec Γ lc P (.Compare a [.In] [.Tuple [.Constant (.str y) ky py, .Constant (.str z) kz pz] kt pt] pos) (y == x || (z == x || false)) := by
  intro s Q E S q
  refine wpAny_isTrue_Compare1 (ha s _ E S fun v h1 t1 ⟨t, e⟩ S1 => Tuple_ (EvL.two .str .str hst hst' _ _ _ E S1 fun vs h2 t2 ⟨v1, v2, e1, ⟨u1, e2⟩, ⟨u2, e3⟩⟩ S2 => ?_)) rfl
  subst e e1 e2 e3
  obtain ⟨⟨m, Fm, hm⟩, news, N, hP⟩ := S2
  refine kup_newTuple Fm N (fun D h' F' N' _ => ?_) (by rw [sizeLine_eq]; exact Nat.le_of_ble_eq_true rfl)
  refine in_tuple_strs (ys := [y, z]) (News.isTup N' (.head _)) (.cons _ _ (.cons _ _ .nil)) (wpAny_truthy_bool ?_)
  exact q h' _ ⟨⟨m, F', hm⟩, news, News.sub N' fun p hp => .tail _ hp, hP⟩
end
end Mine
namespace Mine
/-- the law's ledger in its first loop, behind the figures -/
noncomputable def L1B (w : World) (sg pa : Addr) (pss : List (List Row)) (X : Led) (Z : Led → Prop) : Led → Prop := fun r =>
  ∃ pvs c R, r = (pa, listOf (List.toArray pvs) c) :: (X ++ R) ∧ SymAt w sg R ∧ PairsAt R pvs pss ∧ Z R ∧ (∀ p ∈ X ++ R, p.1 ≠ pa) ∧ (∀ p ∈ R, ∀ q ∈ X, p.1 ≠ q.1)
theorem l1_grow {w : World} {sg pa fa : Addr} {pss : List (List Row)} {X : Led} {Z Z' : Led → Prop} {o o' : Obj} {r tl : Led} (hB : L1B w sg pa pss X Z r) (ho : ∀ p ∈ r, p.1 ≠ fa) (ha : Above tl ((fa, o) :: r)) (hf : Figs o') (hz : ∀ R, Z R → Z' (tl ++ R)) :
    ∃ n', FgT fa (L1B w sg pa pss X Z') n' ∧ ∀ p ∈ n', p ∈ tl ++ (fa, o') :: r := by
  obtain ⟨pvs, c, R, rfl, h1, h2, h3, h4, h5⟩ := hB
  have hr : ∀ p ∈ tl ++ R, p ∈ X ++ (tl ++ R) := fun p hp => List.mem_append.mpr (.inr hp)
  refine ⟨_, ⟨o', _, rfl, hf, ⟨pvs, c, tl ++ R, rfl, h1.mono fun p hp => List.mem_append.mpr (.inr hp), h2.mono fun p hp => List.mem_append.mpr (.inr hp), hz R h3, fun p hp => ?_, fun p hp q hq => ?_⟩, fun p hp => ?_⟩, fun p hp => ?_⟩
  · rcases List.mem_append.mp hp with hp | hp
    · exact h4 p (List.mem_append.mpr (.inl hp))
    · rcases List.mem_append.mp hp with hp | hp
      · exact Nat.ne_of_gt (ha p hp _ (.tail _ (.head _)))
      · exact h4 p (List.mem_append.mpr (.inr hp))
  · rcases List.mem_append.mp hp with hp | hp
    · exact Nat.ne_of_gt (ha p hp _ (.tail _ (.tail _ (List.mem_append.mpr (.inl hq)))))
    · exact h5 p hp q hq
  · rcases List.mem_cons.mp hp with rfl | hp
    · exact ho _ (.head _)
    · rcases List.mem_append.mp hp with hp | hp
      · exact ho p (.tail _ (List.mem_append.mpr (.inl hp)))
      · rcases List.mem_append.mp hp with hp | hp
        · exact Nat.ne_of_gt (ha p hp _ (.head _))
        · exact ho p (.tail _ (List.mem_append.mpr (.inr hp)))
  · simp only [List.mem_cons, List.mem_append] at hp ⊢
    rcases hp with h | h | h | h | h
    · exact .inr (.inl h)
    · exact .inr (.inr (.inl h))
    · exact .inr (.inr (.inr (.inl h)))
    · exact .inl h
    · exact .inr (.inr (.inr (.inr h)))
theorem above_gt {fa : Addr} {o : Obj} {r tl : Led} (h : ∀ p ∈ tl, fa < p.1 ∧ ∀ q ∈ r, q.1 < p.1) : Above tl ((fa, o) :: r) := fun p hp q hq => by
  rcases List.mem_cons.mp hq with rfl | hq
  · exact (h p hp).1
  · exact (h p hp).2 q hq
theorem mem_swap {x p : Addr × Obj} {tl r : Led} (h : p ∈ tl ++ x :: r) : p ∈ x :: (tl ++ r) := by
  simp only [List.mem_cons, List.mem_append] at h ⊢
  rcases h with h | h | h
  · exact .inr (.inl h)
  · exact .inl h
  · exact .inr (.inr h)
theorem pairAt_ref {L : Led} {v : Value} {rs : List Row} (h : PairAt L v rs) : ∃ a, v = .ref a := by obtain ⟨a, _, _, e, _⟩ := h; exact ⟨a, e⟩
section
variable {w : World} {F : Fn} {Γ : Cx w F} {lc lc' : Lcs} {P P' : Led → Prop} {R : RX} {sg pa fa : Addr} {pss : List (List Row)} {X : Led}
theorem EvT.within {g : Bool} {left : Int} {f x l : Str} {np fp xp lp pos : Pos} (hf : (f, Vl.r fa) ∈ lc) (hx : (x, Vl.s (Str.ofString (famPre g))) ∈ lc) (hl : (l, Vl.i left) ∈ lc) (h1 : 1 ≤ left) (h2 : left ≤ 2) (hroom : Γ.room 5 400)
    (hkf : autoParam (Γ.env.kindOf (Str.ofString "_law_within") = some .globalImplicit) rfl9) (hk1 : autoParam (Γ.env.kindOf f = some .local) rfl9) (hk2 : autoParam (Γ.env.kindOf x = some .local) rfl9) (hk3 : autoParam (Γ.env.kindOf l = some .local) rfl9) (hd1 : autoParam ((f == "__debug__") = false) rfl9) (hd2 : autoParam ((x == "__debug__") = false) rfl9) (hd3 : autoParam ((l == "__debug__") = false) rfl9)
    (hst : autoParam (starEach [.Name f fp, .Name x xp, .Name l lp] Γ.env = (false, eval (.Name f fp) Γ.env) :: starEach [.Name x xp, .Name l lp] Γ.env) rfl9) (hcall : autoParam (callIs (Str.ofString "_law_within") np pos [.Name f fp, .Name x xp, .Name l lp] Γ.env) rfl9) :
    EvT Γ lc (FgT fa (L1B w sg pa pss X fun _ => True)) (.Call (.Name (Str.ofString "_law_within") np) [.Name f fp, .Name x xp, .Name l lp] [] pos) (fun v P' => ∃ a rs, v = .ref a ∧ WP g rs ∧ P' = FgT fa (L1B w sg pa pss X fun R => PairAt R (.ref a) rs)) :=
  .conv (EvT.call (f := 404) (post := fun v nn => ∃ o r o' tl rs, L1B w sg pa pss X (fun _ => True) r ∧ (∀ p ∈ r, p.1 ≠ fa) ∧ Figs o' ∧ WP g rs ∧ PairAt tl v rs ∧ Above tl ((fa, o) :: r) ∧ nn = (fa, o') :: (tl ++ r)) (by kernel_rfl!) hkf (by decide +kernel) (by kernel_rfl!) (.three (.name hf hk1 hd1) (.name hx hk2 hd2) (.name hl hk3 hd3) hst rfl rfl) hst rfl hcall (fun vs hv n hn => by
    obtain ⟨v, v', v'', rfl, e, ⟨t, rfl⟩, ⟨t', rfl⟩⟩ := hv
    have e' : v = .ref fa := e
    subst e'
    obtain ⟨o, r, rfl, hfg, hB, ho⟩ := hn
    exact (within_q h1 h2 _ ⟨o, r, rfl, hfg, ⟨rfl, fun _ h => nomatch h⟩, ho⟩).conv (Nat.le_refl _) (Nat.le_refl _) (fun _ h => h) fun v nn ⟨tl, _, ⟨rs, a2, a3⟩, o', _, e, a1, ⟨e2, ha⟩, _⟩ => ⟨nn, ⟨o, r, o', tl, rs, hB, ho, a1, a2, a3, above_gt ha, by rw [e, e2]⟩, fun _ h => h⟩) hroom) fun v P' e h n N hn => by
    subst e
    obtain ⟨o, r, o', tl, rs, hB, ho, a1, a2, a3, a4, rfl⟩ := hn
    obtain ⟨a, rfl⟩ := pairAt_ref a3
    obtain ⟨n', h1, h2⟩ := l1_grow (Z' := fun R => PairAt R (.ref a) rs) hB ho a4 a1 fun R _ => a3.mono fun p hp => List.mem_append.mpr (.inl hp)
    exact ⟨_, ⟨a, rs, rfl, a2, rfl⟩, n', h1, fun p hp => mem_swap (h2 p hp)⟩
theorem EvT.alike {f x : Str} {np fp xp pos : Pos} (hf : (f, Vl.r fa) ∈ lc) (hx : (x, Vl.i 32) ∈ lc) (hroom : Γ.room 5 400)
    (hkf : autoParam (Γ.env.kindOf (Str.ofString "_law_alike") = some .globalImplicit) rfl9) (hk1 : autoParam (Γ.env.kindOf f = some .local) rfl9) (hk2 : autoParam (Γ.env.kindOf x = some .local) rfl9) (hd1 : autoParam ((f == "__debug__") = false) rfl9) (hd2 : autoParam ((x == "__debug__") = false) rfl9)
    (hst : autoParam (starEach [.Name f fp, .Name x xp] Γ.env = (false, eval (.Name f fp) Γ.env) :: starEach [.Name x xp] Γ.env) rfl9) (hcall : autoParam (callIs (Str.ofString "_law_alike") np pos [.Name f fp, .Name x xp] Γ.env) rfl9) :
    EvT Γ lc (FgT fa (L1B w sg pa pss X fun _ => True)) (.Call (.Name (Str.ofString "_law_alike") np) [.Name f fp, .Name x xp] [] pos) (fun v P' => ∃ a rs, v = .ref a ∧ Pair rs ∧ P' = FgT fa (L1B w sg pa pss X fun R => PairAt R (.ref a) rs)) :=
  .conv (EvT.call (f := 411) (post := fun v nn => ∃ o r o' tl rs, L1B w sg pa pss X (fun _ => True) r ∧ (∀ p ∈ r, p.1 ≠ fa) ∧ Figs o' ∧ Pair rs ∧ PairAt tl v rs ∧ Above tl ((fa, o) :: r) ∧ nn = (fa, o') :: (tl ++ r)) (by kernel_rfl!) hkf (by decide +kernel) (by kernel_rfl!) (.two (.name hf hk1 hd1) (.name hx hk2 hd2) hst rfl) hst rfl hcall (fun vs hv n hn => by
    obtain ⟨v, v', rfl, e, ⟨t, rfl⟩⟩ := hv
    have e' : v = .ref fa := e
    subst e'
    obtain ⟨o, r, rfl, hfg, hB, ho⟩ := hn
    exact (alike_q _ ⟨o, r, rfl, hfg, ⟨rfl, fun _ h => nomatch h⟩, ho⟩).conv (Nat.le_refl _) (Nat.le_refl _) (fun _ h => h) fun v nn ⟨tl, _, ⟨rs, a2, a3⟩, o', _, e, a1, ⟨e2, ha⟩, _⟩ => ⟨nn, ⟨o, r, o', tl, rs, hB, ho, a1, a2, a3, above_gt ha, by rw [e, e2]⟩, fun _ h => h⟩) hroom) fun v P' e h n N hn => by
    subst e
    obtain ⟨o, r, o', tl, rs, hB, ho, a1, a2, a3, a4, rfl⟩ := hn
    obtain ⟨a, rfl⟩ := pairAt_ref a3
    obtain ⟨n', h1, h2⟩ := l1_grow (Z' := fun R => PairAt R (.ref a) rs) hB ho a4 a1 fun R _ => a3.mono fun p hp => List.mem_append.mpr (.inl hp)
    exact ⟨_, ⟨a, rs, rfl, a2, rfl⟩, n', h1, fun p hp => mem_swap (h2 p hp)⟩
/-- pair[0][0], len(pair) -/
theorem Ev.pairName {a : Addr} {r0 : Row} {rs : List Row} {x : Str} {xp c1 c2 p1 p2 : Pos} {k1 k2 : Nat} (hP : ∀ n, P n → PairAt n (.ref a) (r0 :: rs)) (hx : (x, Vl.r a) ∈ lc) (hk : autoParam (Γ.env.kindOf x = some .local) rfl9) (hd : autoParam ((x == "__debug__") = false) rfl9) :
    Ev Γ lc P (.Subscript (.Subscript (.Name x xp) (.Constant (.int 0) k1 c1) p1) (.Constant (.int 0) k2 c2) p2) (Vl.s r0.name).is :=
  .at fun n hn => by
    obtain ⟨b, vs, c, e, hm, hr⟩ := hP n hn
    injection e with e; subst e
    cases hr with
    | cons h1 h2 =>
      obtain ⟨d, t, ops, rfl, hd', _⟩ := h1
      exact (Ev.tup (P := fun m => m = n) (j := 0) (vs := .str r0.name t :: ops) ((Ev.lst (P := fun m => m = n) (v := .ref d) (.name hx hk hd) .int (fun m e => e ▸ hm) (by decide) (by decide) rfl (fun _ => rfl)).is (vl := .r d) rfl) .int (fun m e => e ▸ hd') (by decide) (by decide) (seqN (Nat.succ_pos _)) rfl (fun _ => rfl)).is ⟨_, rfl⟩
theorem Ev.pairLen {a : Addr} {rs : List Row} {x : Str} {np xp pos : Pos} (hP : ∀ n, P n → PairAt n (.ref a) rs) (hl : rs.length ≤ 1000) (hx : (x, Vl.r a) ∈ lc) (hkl : autoParam (Γ.env.kindOf (Str.ofString "len") = some .globalImplicit) rfl9) (hk : autoParam (Γ.env.kindOf x = some .local) rfl9) (hd : autoParam ((x == "__debug__") = false) rfl9)
    (hst : autoParam (starEach [.Name x xp] Γ.env = (false, eval (.Name x xp) Γ.env) :: starEach [] Γ.env) rfl9) (hcall : autoParam (callIs (Str.ofString "len") np pos [.Name x xp] Γ.env) rfl9) : Ev Γ lc P (.Call (.Name (Str.ofString "len") np) [.Name x xp] [] pos) (Vl.i rs.length).is :=
  .at fun n hn => by
    obtain ⟨b, vs, c, e, hm, hr⟩ := hP n hn
    injection e with e; subst e
    rw [← rowsAt_len hr]
    exact .lenL (.name hx hk hd) (fun m e => e ▸ hm) (by rw [rowsAt_len hr]; exact hl) hkl (by kernel_rfl!) hst rfl hcall
theorem l1_pair {a : Addr} {rs : List Row} {n : Led} (h : FgT fa (L1B w sg pa pss X fun R => PairAt R (.ref a) rs) n) : PairAt n (.ref a) rs := by
  obtain ⟨o, r, rfl, _, ⟨pvs, c, R, rfl, _, _, hz, _⟩, _⟩ := h
  exact hz.mono fun p hp => .tail _ (.tail _ (List.mem_append.mpr (.inr hp)))
end
end Mine
end

section
open PySem PySem.W PySem.Spec PySem.Calls PyProof.Rows
set_option Elab.async false
set_option maxRecDepth 100000
set_option maxHeartbeats 4000000
namespace Mine
theorem Dropped.drop (x : Str) (vl : Vl) (lc : Lcs) : Dropped x vl lc ((x, vl) :: lc.filter fun p => p.1 != x) := fun p hp => by
  rcases List.mem_cons.mp hp with h | hp
  · exact .inl h
  · obtain ⟨h1, h2⟩ := List.mem_filter.mp hp
    exact .inr ⟨fun e => by rw [e] at h2; simp at h2, h1⟩
theorem mem_drop {x : Str} {vl : Vl} {lc : Lcs} {p : Str × Vl} (h : p ∈ lc) (hn : (p.1 != x) = true) : p ∈ (x, vl) :: lc.filter fun p => p.1 != x := .tail _ (List.mem_filter.mpr ⟨h, hn⟩)
/-- every row of the one is a row of the other -/
noncomputable def SubL : Lcs → Lcs → Prop
  | [], _ => True
  | p :: r, l => p ∈ l ∧ SubL r l
theorem SubL.all {l : Lcs} : ∀ {a : Lcs}, SubL a l → ∀ q ∈ a, q ∈ l
  | _ :: _, ⟨h, r⟩, q, hq => by
    rcases List.mem_cons.mp hq with rfl | hq
    · exact h
    · exact SubL.all r q hq
theorem WP.cons {g : Bool} {rs : List Row} (h : WP g rs) : ∃ r0 ls, rs = r0 :: ls ∧ ls.length ≤ 3 := by
  cases h with
  | v r k => exact ⟨_, _, rfl, by simp⟩
  | x r k => exact ⟨_, _, rfl, by simp⟩
  | n n h1 h3 => exact ⟨_, _, rfl, by simp; omega⟩
theorem Pair.cons {rs : List Row} (h : Pair rs) : ∃ r0 ls, rs = r0 :: ls ∧ ls.length ≤ 3 := by
  have h4 := h.four
  have h2 := h.two
  cases rs with
  | nil => simp at h2
  | cons r0 ls => exact ⟨r0, ls, rfl, by simp at h4; omega⟩
section
variable {w : World} {sg pa fa I a : Addr} {it : Obj} {pss : List (List Row)} {rs : List Row} {n : Led}
theorem l1_in (h : Fresh I it (FgT fa (L1B w sg pa pss [] fun _ => True)) n) : ∃ n', FgT fa (L1B w sg pa pss [(I, it)] fun _ => True) n' ∧ ∀ p ∈ n', p ∈ n := by
  obtain ⟨nx, rfl, ⟨o, r, rfl, hf, ⟨pvs, c, R, rfl, h1, h2, _, h4, h5⟩, ho⟩, hI⟩ := h
  refine ⟨_, ⟨o, _, rfl, hf, ⟨pvs, c, R, rfl, h1, h2, trivial, fun p hp => ?_, fun p hp q hq => ?_⟩, fun p hp => ?_⟩, fun p hp => ?_⟩
  · rcases List.mem_cons.mp hp with rfl | hp
    · exact Ne.symm (hI _ (.tail _ (.head _)))
    · exact h4 p hp
  · rw [List.mem_singleton.mp hq]
    exact hI p (.tail _ (.tail _ hp))
  · rcases List.mem_cons.mp hp with rfl | hp
    · exact ho _ (.head _)
    · rcases List.mem_cons.mp hp with rfl | hp
      · exact Ne.symm (hI _ (.head _))
      · exact ho p (.tail _ hp)
  · simp only [List.mem_cons, List.nil_append, List.cons_append] at hp ⊢
    rcases hp with h | h | h | h
    · exact .inr (.inl h)
    · exact .inr (.inr (.inl h))
    · exact .inl h
    · exact .inr (.inr (.inr h))
theorem l1_out (h : FgT fa (L1B w sg pa pss [(I, it)] fun _ => True) n) : ∃ n', Fresh I it (FgT fa (L1B w sg pa pss [] fun _ => True)) n' ∧ ∀ p ∈ n', p ∈ n := by
  obtain ⟨o, r, rfl, hf, ⟨pvs, c, R, rfl, h1, h2, _, h4, h5⟩, ho⟩ := h
  refine ⟨_, ⟨_, rfl, ⟨o, _, rfl, hf, ⟨pvs, c, R, rfl, h1, h2, trivial, fun p hp => h4 p (.tail _ hp), fun _ _ _ h => nomatch h⟩, fun p hp => ?_⟩, fun p hp => ?_⟩, fun p hp => ?_⟩
  · rcases List.mem_cons.mp hp with rfl | hp
    · exact ho _ (.head _)
    · exact ho p (.tail _ (.tail _ hp))
  · rcases List.mem_cons.mp hp with rfl | hp
    · exact Ne.symm (ho (I, it) (.tail _ (.head _)))
    · rcases List.mem_cons.mp hp with rfl | hp
      · exact Ne.symm (h4 (I, it) (.head _))
      · exact h5 p hp _ (.head _)
  · simp only [List.mem_cons, List.nil_append, List.cons_append] at hp ⊢
    rcases hp with h | h | h | h
    · exact .inr (.inr (.inl h))
    · exact .inl h
    · exact .inr (.inl h)
    · exact .inr (.inr (.inr h))
theorem pairsAt_len {L : Led} {vs : List Value} {ps : List (List Row)} (h : PairsAt L vs ps) : vs.length = ps.length := by
  induction h with
  | nil => rfl
  | cons _ _ ih => simp [ih]
theorem l1_append {X : Led} (hl : pss.length ≤ 900) (h : FgT fa (L1B w sg pa pss X fun R => PairAt R (.ref a) rs) n) : ∃ (vs : List Value) (c : Nat) (g : Obj → Led), UpdF pa (listOf vs.toArray c) n g ∧ vs.length ≤ 1000 ∧ ∀ v, (Vl.r a).is v → FgT fa (L1B w sg pa (pss ++ [rs]) X fun _ => True) (g (listOf (vs ++ [v]).toArray (c + 1))) := by
  obtain ⟨o, r, rfl, hf, ⟨pvs, c, R, rfl, h1, h2, h3, h4, h5⟩, ho⟩ := h
  refine ⟨pvs, c, _, .tail (Ne.symm (ho _ (.head _))) (.head h4), by rw [pairsAt_len h2]; omega, fun v hv => ?_⟩
  have hv' : v = .ref a := hv
  subst hv'
  refine ⟨o, _, rfl, hf, ⟨_, _, R, rfl, h1, h2.snoc h3, trivial, h4, h5⟩, fun p hp => ?_⟩
  rcases List.mem_cons.mp hp with rfl | hp
  · exact ho (pa, listOf (List.toArray pvs) c) (.head _)
  · exact ho p (.tail _ hp)
end
end Mine
end

section
open PySem PySem.W PySem.Spec PySem.Calls PyProof.Rows
set_option Elab.async false
set_option maxRecDepth 100000
set_option maxHeartbeats 4000000
namespace Mine
section
variable {w : World} {F : Fn} {Γ : Cx w F} {lc lc' : Lcs} {P P' : Led → Prop} {R : RX}
/-- [('proceed',), ('execute', F_TRUE)] -/
theorem EvT.last {sg pa fa : Addr} {pss : List (List Row)} {k1 k2 k3 k4 : Nat} {p1 p2 p3 p4 p5 p6 : Pos}
    (hk : autoParam (Γ.env.kindOf (Str.ofString "F_TRUE") = some .globalImplicit) rfl9)
    (hst : autoParam (starEach [.Tuple [.Constant (.str (Str.ofString "proceed")) k1 p1] k2 p2, .Tuple [.Constant (.str (Str.ofString "execute")) k3 p3, .Name (Str.ofString "F_TRUE") p4] k4 p5] Γ.env = (false, eval (.Tuple [.Constant (.str (Str.ofString "proceed")) k1 p1] k2 p2) Γ.env) :: starEach [.Tuple [.Constant (.str (Str.ofString "execute")) k3 p3, .Name (Str.ofString "F_TRUE") p4] k4 p5] Γ.env) rfl9)
    (hst2 : autoParam (starEach [.Tuple [.Constant (.str (Str.ofString "execute")) k3 p3, .Name (Str.ofString "F_TRUE") p4] k4 p5] Γ.env = (false, eval (.Tuple [.Constant (.str (Str.ofString "execute")) k3 p3, .Name (Str.ofString "F_TRUE") p4] k4 p5) Γ.env) :: starEach [] Γ.env) rfl9)
    (hst3 : autoParam (starEach [.Constant (.str (Str.ofString "proceed")) k1 p1] Γ.env = (false, eval (.Constant (.str (Str.ofString "proceed")) k1 p1) Γ.env) :: starEach [] Γ.env) rfl9)
    (hst4 : autoParam (starEach [.Constant (.str (Str.ofString "execute")) k3 p3, .Name (Str.ofString "F_TRUE") p4] Γ.env = (false, eval (.Constant (.str (Str.ofString "execute")) k3 p3) Γ.env) :: starEach [.Name (Str.ofString "F_TRUE") p4] Γ.env) rfl9)
    (hst5 : autoParam (starEach [.Name (Str.ofString "F_TRUE") p4] Γ.env = (false, eval (.Name (Str.ofString "F_TRUE") p4) Γ.env) :: starEach [] Γ.env) rfl9) {tk : Tok} (hv : nsIn (hd.heap_1 w.params) mainGlobals (Str.ofString "F_TRUE") = some (some (.int 21 tk))) :
    EvT Γ lc (FgT fa (L1B w sg pa pss [] fun _ => True)) (.List [.Tuple [.Constant (.str (Str.ofString "proceed")) k1 p1] k2 p2, .Tuple [.Constant (.str (Str.ofString "execute")) k3 p3, .Name (Str.ofString "F_TRUE") p4] k4 p5] p6)
      (fun v P' => ∃ a, v = .ref a ∧ P' = FgT fa (L1B w sg pa pss [] fun R => PairAt R (.ref a) [.proceed, .execute 21])) := by
  intro s Q E S q
  refine List_ (args_cons (EvT.tuple (EvL.cons .str .nil hst3) (fun vs ⟨v, r, e, _, e2⟩ => by subst e e2; exact Nat.le_of_ble_eq_true rfl) s _ E S fun v P1 h1 t1 ⟨l1, vs1, e1, hv1, e2⟩ S1 => ?_) hst)
  subst e1 e2
  refine args_cons (EvT.tuple (EvL.two .str (.glob hv hk (by decide +kernel)) hst4 hst5) (fun vs ⟨v, r, e, _⟩ => by subst e; exact Nat.le_of_ble_eq_true rfl) _ _ E S1 fun v P1 h2 t2 ⟨l2, vs2, e1, hv2, e2⟩ S2 => args_nil ?_) hst2
  subst e1 e2
  obtain ⟨⟨m, Fm, hm⟩, news, N, n1, rfl, ⟨n0, rfl, hP, hl1⟩, hl2⟩ := S2
  obtain ⟨v1, r, e, ⟨u1, e2⟩, e3⟩ := hv1
  subst e e2 e3
  obtain ⟨v2, v3, e, ⟨u2, e2⟩, e3⟩ := hv2
  subst e e2 e3
  refine newList_K Fm N (fun l h' F' N' hl => ?_) (by rw [sizeLine_eq]; exact Nat.le_of_ble_eq_true rfl)
  obtain ⟨o, r, rfl, hf, hB, ho⟩ := hP
  have ha : Above [(l, listOf [Value.ref l1, .ref l2].toArray 0), (l2, tupOf [.str (Str.ofString "execute") u2, .int 21 tk]), (l1, tupOf [.str (Str.ofString "proceed") u1])] ((fa, o) :: r) := by
    intro p hp x hx
    simp only [List.mem_cons, List.mem_nil_iff, or_false] at hp
    rcases hp with rfl | rfl | rfl
    · exact hl x (.tail _ (.tail _ hx))
    · exact hl2 x (.tail _ hx)
    · exact hl1 x hx
  obtain ⟨n', h1', h2'⟩ := l1_grow (Z' := fun R => PairAt R (.ref l) [.proceed, .execute 21]) hB ho ha hf fun R _ =>
    ⟨l, _, 0, rfl, .head _, .cons ⟨l1, u1, [], rfl, .tail _ (.tail _ (.head _)), .nil⟩ (.cons ⟨l2, u2, [.int 21 tk], rfl, .tail _ (.head _), .cons ⟨tk, rfl⟩ .nil⟩ .nil)⟩
  exact q (.ref l) _ h' _ ⟨l, rfl, rfl⟩ ⟨⟨m, F', hm⟩, n', News.sub N' h2', h1'⟩
/-- xs.append(e), a new object -/
theorem Ex.appendT {xs : Str} {xp ap pos pos' : Pos} {e : PX} {st : List Stmt} {l : Addr} {RV : Value → (Led → Prop) → Prop} (hx : (xs, Vl.r l) ∈ lc) (hl0 : ∀ n, P n → ∃ (vs : List Value) (c : Nat), (l, listOf vs.toArray c) ∈ n) (he : EvT Γ lc P e RV)
    (hl : ∀ v P1, RV v P1 → ∃ P', (∀ n, P1 n → ∃ (vs : List Value) (c : Nat) (g : Obj → Led), UpdF l (listOf vs.toArray c) n g ∧ vs.length ≤ 1000 ∧ P' (g (listOf (vs ++ [v]).toArray (c + 1)))) ∧ Ex Γ lc P' st R)
    (hk : Γ.env.kindOf xs = some .local) (hd : (xs == "__debug__") = false) (hst : starEach [e] Γ.env = (false, eval e Γ.env) :: starEach [] Γ.env) (hpl : methIs xs xp ap pos (Str.ofString "append") [e] Γ.env)
    (hi : interactive Γ.env = false) (hw : swapsWith (.Call (.Attribute (.Name xs xp) (Str.ofString "append") ap) [e] [] pos) none pos'.line Γ.env = pure false) : Ex Γ lc P (.Expr (.Call (.Attribute (.Name xs xp) (Str.ofString "append") ap) [e] [] pos) pos' :: st) R := by
  refine .next fun s Q E po S q => wpAny_Expr_any ?_ hi hw
  obtain ⟨pl, hpl⟩ := hpl
  refine MethodCall_ (pl := pl) (Ev.name hx hk hd s _ E S fun v1 h1 t1 x1 S1 => ?_) hpl
  have x1' : v1 = .ref l := x1
  subst x1'
  obtain ⟨⟨m, Fm, hm⟩, news, N, hP⟩ := S1
  obtain ⟨vs, c, U⟩ := hl0 news hP
  refine listMethod_K N U PySem.F.slot_list_append PySem.F.type_list_append (callWith_method1 (args_cons (he _ _ E ⟨⟨m, Fm, hm⟩, news, N, hP⟩ fun v P1 h2 t2 hv S2 => args_nil ?_) hst) hst rfl)
  obtain ⟨P', hl', hx⟩ := hl v P1 hv
  obtain ⟨⟨m2, F2, hm2⟩, n2, N2, hP2⟩ := S2
  obtain ⟨vs, c, g, U, hz, hg⟩ := hl' n2 hP2
  refine append_K F2 N2 (updF_upd U _) (fun h' F' N' => q .next lc P' h' _ hx ⟨⟨m2, F', hm2⟩, _, N', ?_⟩) (by rw [List.size_toArray, sizeLine_eq]; omega)
  rw [List.push_toArray]
  exact hg
/-- a checker that the ledger holds -/
noncomputable def HasCk (w : World) (P : Led → Prop) (x : Addr) (S : CS) : Prop := ∀ n, P n → ∃ k sg dx rest n', (x, instObj 358 dx) ∈ rest ∧ Ck w k sg dx S rest n' ∧ ∀ p ∈ n', p ∈ n
theorem Ev.endedP {self : Str} {sp pos : Pos} {x : Addr} {S : CS} (hs : (self, Vl.r x) ∈ lc) (hC : HasCk w P x S) (hk : Γ.env.kindOf self = some .local) (hd : (self == "__debug__") = false) : Ev Γ lc P (.Attribute (.Name self sp) (Str.ofString "ended") pos) (Vl.b S.en).is := by
  intro s Q E S₀ q
  refine Attribute_Name_ (Ev.name hs hk hd s _ E S₀ fun u h2 t2 hu S2 => ?_)
  have hu' : u = .ref x := hu
  subst hu'
  obtain ⟨⟨m, Fm, hm⟩, news, N, hP⟩ := S2
  obtain ⟨k, sg, dx, rest, n', hx, hCk, hsub⟩ := hC news hP
  have hCk' := hCk
  obtain ⟨D, rfl⟩ := hCk'
  exact get_own (attr := none) Fm Γ.X (InstAt.of_news (News.sub N hsub) (.tail _ (.tail _ (.tail _ hx))) (.head _)) (by kernel_rfl!) (by kernel_rfl!) (by kernel_rfl!) (by kernel_rfl!) rfl rfl (q _ h2 _ rfl ⟨⟨m, Fm, hm⟩, news, N, hP⟩)
/-- self.fault == '' -/
theorem Ev.faultP {self : Str} {sp ap pos vp : Pos} {kn : Nat} {x : Addr} {S : CS} (hs : (self, Vl.r x) ∈ lc) (hC : HasCk w P x S) (hk : Γ.env.kindOf self = some .local) (hd : (self == "__debug__") = false) :
    Ev Γ lc P (.Compare (.Attribute (.Name self sp) (Str.ofString "fault") ap) [.Eq] [.Constant (.str (Str.ofString "")) kn vp] pos) (Vl.b (!S.bad)).is := by
  intro s Q E S₀ q
  refine wpAny_Compare1 (Attribute_Name_ (Ev.name hs hk hd s _ E S₀ fun u h2 t2 hu S2 => ?_)) rfl
  have hu' : u = .ref x := hu
  subst hu'
  obtain ⟨⟨m, Fm, hm⟩, news, N, hP⟩ := S2
  obtain ⟨k, sg, dx, rest, n', hx, hCk, hsub⟩ := hC news hP
  obtain ⟨D, rfl⟩ := hCk
  have e : (D.flt == Str.ofString "") = !S.bad := by
    cases hb : S.bad with
    | false => exact beq_iff_eq.mpr (D.hflt.mpr hb)
    | true => exact beq_eq_false_iff_ne.mpr fun e => by have := D.hflt.mp e; rw [hb] at this; cases this
  refine get_own (attr := none) Fm Γ.X (InstAt.of_news (News.sub N hsub) (.tail _ (.tail _ (.tail _ hx))) (.head _)) (by kernel_rfl!) (by kernel_rfl!) (by kernel_rfl!) (by kernel_rfl!) rfl rfl (Calls.Constant_str (eq_str ?_))
  rw [e]
  exact q _ _ _ rfl ⟨⟨m, Fm, hm⟩, news, N, hP⟩
theorem Ec.faultP {self : Str} {sp ap pos vp : Pos} {kn : Nat} {x : Addr} {S : CS} (hs : (self, Vl.r x) ∈ lc) (hC : HasCk w P x S) (hk : Γ.env.kindOf self = some .local) (hd : (self == "__debug__") = false) :
    Ec Γ lc P (.Compare (.Attribute (.Name self sp) (Str.ofString "fault") ap) [.Eq] [.Constant (.str (Str.ofString "")) kn vp] pos) (!S.bad) := by
  intro s Q E S₀ q
  refine wpAny_isTrue_Compare1 (Attribute_Name_ (Ev.name hs hk hd s _ E S₀ fun u h2 t2 hu S2 => ?_)) rfl
  have hu' : u = .ref x := hu
  subst hu'
  obtain ⟨⟨m, Fm, hm⟩, news, N, hP⟩ := S2
  obtain ⟨k, sg, dx, rest, n', hx, hCk, hsub⟩ := hC news hP
  obtain ⟨D, rfl⟩ := hCk
  have e : (D.flt == Str.ofString "") = !S.bad := by
    cases hb : S.bad with
    | false => exact beq_iff_eq.mpr (D.hflt.mpr hb)
    | true => exact beq_eq_false_iff_ne.mpr fun e => by have := D.hflt.mp e; rw [hb] at this; cases this
  refine get_own (attr := none) Fm Γ.X (InstAt.of_news (News.sub N hsub) (.tail _ (.tail _ (.tail _ hx))) (.head _)) (by kernel_rfl!) (by kernel_rfl!) (by kernel_rfl!) (by kernel_rfl!) rfl rfl (Calls.Constant_str (eq_str (wpAny_truthy_bool ?_)))
  rw [e]
  exact q _ _ ⟨⟨m, Fm, hm⟩, news, N, hP⟩
end
end Mine
end

section
open PySem PySem.W PySem.Spec PySem.Calls PyProof.Rows
set_option Elab.async false
set_option maxRecDepth 100000
set_option maxHeartbeats 4000000
namespace Mine
theorem updF_at {d : Addr} {o : Obj} {post : Led} (h2 : ∀ p ∈ post, p.1 ≠ d) : ∀ {pre : Led}, (∀ p ∈ pre, p.1 ≠ d) → UpdF d o (pre ++ (d, o) :: post) (fun o' => pre ++ (d, o') :: post)
  | [], _ => .head h2
  | _ :: _, h => .tail (h _ (.head _)) (updF_at h2 fun p hp => h p (.tail _ hp))
set_option genInjectivity false in
set_option genSizeOf false in
/-- the addresses that the law's second loop works on -/
structure LA where
  sg : Addr
  x1 : Addr
  x2 : Addr
  ra : Addr
  la : Addr
  ha : Addr
  pa : Addr
  pvs : List Value
  pc : Nat
  pss : List (List Row)
/-- what stands still -/
structure L2S (w : World) (A : LA) (dx1 dx2 : Addr) (X R : Led) : Prop where
  i1 : (A.x1, instObj 358 dx1) ∈ R
  i2 : (A.x2, instObj 358 dx2) ∈ R
  sy : SymAt w A.sg R
  pm : (A.pa, listOf (List.toArray A.pvs) A.pc) ∈ R
  ps : PairsAt R A.pvs A.pss
  n1 : @Ne Nat A.ra A.la
  n2 : @Ne Nat A.ra A.ha
  n3 : @Ne Nat A.la A.ha
  o1 : ∀ p ∈ X ++ R, p.1 ≠ A.ra
  o2 : ∀ p ∈ X ++ R, p.1 ≠ A.la
  o3 : ∀ p ∈ X ++ R, p.1 ≠ A.ha
  xr : ∀ p ∈ R, ∀ q ∈ X, p.1 ≠ q.1
  xx : X.Pairwise fun p q => p.1 ≠ q.1
noncomputable abbrev LB (A : LA) (rvs lvs hvs : List Value) (c1 c2 c3 : Nat) (X R : Led) : Led := (A.ra, listOf (List.toArray rvs) c1) :: (A.la, listOf (List.toArray lvs) c2) :: (A.ha, listOf (List.toArray hvs) c3) :: (X ++ R)
structure L2C (w : World) (A : LA) (S1 S2 : CS) (rows likes : List Row) (hs : List Int) (X : Led) (Z : Led → Prop) (k1 k2 : Nat → Tok) (dx1 dx2 : Addr) (t1 t2 : Led) (rvs lvs hvs : List Value) (c1 c2 c3 : Nat) (R : Led) : Prop where
  s : L2S w A dx1 dx2 X R
  q1 : CkT w k1 A.sg dx1 S1 t1
  q2 : CkT w k2 A.sg dx2 S2 t2
  f1 : Off t1 (t2 ++ LB A rvs lvs hvs c1 c2 c3 X R)
  f2 : Off t2 (LB A rvs lvs hvs c1 c2 c3 X R)
  rr : RowsAt R rvs rows
  rl : RowsAt R lvs likes
  rh : IntsAre hvs hs
  z : Z R
noncomputable def L2P (w : World) (A : LA) (S1 S2 : CS) (rows likes : List Row) (hs : List Int) (X : Led) (Z : Led → Prop) : Led → Prop := fun n =>
  ∃ k1 k2 dx1 dx2 t1 t2 rvs lvs hvs c1 c2 c3 R, n = t1 ++ (t2 ++ LB A rvs lvs hvs c1 c2 c3 X R) ∧ L2C w A S1 S2 rows likes hs X Z k1 k2 dx1 dx2 t1 t2 rvs lvs hvs c1 c2 c3 R
section
variable {w : World} {A : LA} {S1 S2 : CS} {rows lk : List Row} {hs : List Int} {X : Led} {Z Z' : Led → Prop} {n : Led} {I : Addr} {it : Obj}
theorem off_list {t a b : Led} (h : Off t a) (hs : ∀ p ∈ b, p.1 ∈ a.map (·.1)) : Off t b := fun p hp q hq e => by
  obtain ⟨x, hx, e2⟩ := List.mem_map.mp (hs q hq)
  exact h p hp x hx (e2.trans e)
theorem lb_keys (A : LA) (rvs lvs hvs rvs' lvs' hvs' : List Value) (c1 c2 c3 d1 d2 d3 : Nat) (X R : Led) : ∀ p ∈ LB A rvs' lvs' hvs' d1 d2 d3 X R, p.1 ∈ (LB A rvs lvs hvs c1 c2 c3 X R).map (·.1) := fun p hp => by
  simp only [List.map_cons]
  rcases List.mem_cons.mp hp with rfl | hp
  · exact .head _
  · rcases List.mem_cons.mp hp with rfl | hp
    · exact .tail _ (.head _)
    · rcases List.mem_cons.mp hp with rfl | hp
      · exact .tail _ (.tail _ (.head _))
      · exact .tail _ (.tail _ (.tail _ (List.mem_map_of_mem hp)))
theorem lb_mem {rvs lvs hvs : List Value} {c1 c2 c3 : Nat} {X R t1 t2 : Led} {p : Addr × Obj} (h : p ∈ X ++ R) : p ∈ t1 ++ (t2 ++ LB A rvs lvs hvs c1 c2 c3 X R) := List.mem_append.mpr (.inr (List.mem_append.mpr (.inr (.tail _ (.tail _ (.tail _ h))))))
/-- what is known of the data is opened -/
theorem l2_z (h : L2P w A S1 S2 rows lk hs X Z n) : ∃ R, Z R ∧ PairsAt R A.pvs A.pss ∧ ∀ Z', Z' R → L2P w A S1 S2 rows lk hs X Z' n := by
  obtain ⟨k1, k2, dx1, dx2, t1, t2, rvs, lvs, hvs, c1, c2, c3, R, rfl, C⟩ := h
  exact ⟨R, C.z, C.s.ps, fun Z' hz => ⟨k1, k2, dx1, dx2, t1, t2, rvs, lvs, hvs, c1, c2, c3, R, rfl, { C with z := hz }⟩⟩
theorem l2_ck1 : HasCk w (L2P w A S1 S2 rows lk hs X Z) A.x1 S1 := fun n h => by
  obtain ⟨k1, k2, dx1, dx2, t1, t2, rvs, lvs, hvs, c1, c2, c3, R, rfl, C⟩ := h
  exact ⟨_, _, _, _, _, List.mem_append.mpr (.inr (.tail _ (.tail _ (.tail _ (List.mem_append.mpr (.inr C.s.i1)))))), C.q1.toCk C.f1, fun _ h => h⟩
theorem l2_ck2 : HasCk w (L2P w A S1 S2 rows lk hs X Z) A.x2 S2 := fun n h => by
  obtain ⟨k1, k2, dx1, dx2, t1, t2, rvs, lvs, hvs, c1, c2, c3, R, rfl, C⟩ := h
  exact ⟨_, _, _, _, _, .tail _ (.tail _ (.tail _ (List.mem_append.mpr (.inr C.s.i2)))), C.q2.toCk C.f2, fun p hp => List.mem_append.mpr (.inr hp)⟩
theorem inst_of {P : Led → Prop} {x : Addr} {S : CS} {meth : Str} (h : HasCk w P x S) (hg : ∀ k P a b c d e f g h i, getL meth (ckEs P k a b c d e f g h i) = some none) : InstIn P x 358 meth := fun n hn h₀ L hp N => by
  obtain ⟨k, sg, dx, rest, n', hx, hC, hsub⟩ := h n hn
  obtain ⟨D, rfl⟩ := hC
  exact ⟨_, _, _, InstAt.of_news (News.sub N hsub) (.tail _ (.tail _ (.tail _ hx))) (.head _), hg ..⟩
theorem step1_l2 {v : Value} {row : Row} (hrow : ∀ R, Z R → RowAt R v row) (hwf : row.wf) (hg : S1.good) : ∀ n, L2P w A S1 S2 rows lk hs X Z n →
    Spec w 355 30 1200 [.ref A.x1, v] n (fun _ nn => L2P w A (S1.step row) S2 rows lk hs X Z nn) := fun n h => by
  obtain ⟨k1, k2, dx1, dx2, t1, t2, rvs, lvs, hvs, c1, c2, c3, R, rfl, C⟩ := h
  have hm : ∀ p ∈ R, p ∈ t2 ++ LB A rvs lvs hvs c1 c2 c3 X R := fun p hp => List.mem_append.mpr (.inr (.tail _ (.tail _ (.tail _ (List.mem_append.mpr (.inr hp))))))
  refine (step_t C.q1 C.f1 (hm _ C.s.i1) (C.s.sy.mono hm) ((hrow R C.z).mono hm) hwf hg (fun _ h => h)).conv (Nat.le_refl _) (Nat.le_refl _) (fun _ h => h) fun r nn ⟨_, t', q1, f1, e⟩ => ⟨nn, ?_, fun _ h => h⟩
  subst e
  exact ⟨k1, k2, dx1, dx2, t', t2, rvs, lvs, hvs, c1, c2, c3, R, rfl, { C with q1 := q1, f1 := f1 }⟩
theorem off_app {t a b : Led} (h : Off t (a ++ b)) : Off t a ∧ Off t b := ⟨h.mono fun p hp => List.mem_append.mpr (.inl hp), h.mono fun p hp => List.mem_append.mpr (.inr hp)⟩
theorem step2_l2 {v : Value} {row : Row} (hrow : ∀ R, Z R → RowAt R v row) (hwf : row.wf) (hg : S2.good) : ∀ n, L2P w A S1 S2 rows lk hs X Z n →
    Spec w 355 30 1200 [.ref A.x2, v] n (fun _ nn => L2P w A S1 (S2.step row) rows lk hs X Z nn) := fun n h => by
  obtain ⟨k1, k2, dx1, dx2, t1, t2, rvs, lvs, hvs, c1, c2, c3, R, rfl, C⟩ := h
  obtain ⟨f12, f1b⟩ := off_app C.f1
  have hm : ∀ p ∈ R, p ∈ t1 ++ LB A rvs lvs hvs c1 c2 c3 X R := fun p hp => List.mem_append.mpr (.inr (.tail _ (.tail _ (.tail _ (List.mem_append.mpr (.inr hp))))))
  refine (step_t (rest := t1 ++ LB A rvs lvs hvs c1 c2 c3 X R) C.q2 (Off.app f12.symm C.f2) (hm _ C.s.i2) (C.s.sy.mono hm) ((hrow R C.z).mono hm) hwf hg (fun p hp => ?_)).conv (Nat.le_refl _) (Nat.le_refl _) (fun _ h => h) fun r nn ⟨_, t', q2, f2, e⟩ => ⟨_, ⟨k1, k2, dx1, dx2, t1, t', rvs, lvs, hvs, c1, c2, c3, R, rfl, { C with q2 := q2, f2 := (off_app f2).2, f1 := Off.app (off_app f2).1.symm f1b }⟩, fun p hp => ?_⟩
  · rcases List.mem_append.mp hp with hp | hp
    · exact List.mem_append.mpr (.inr (List.mem_append.mpr (.inl hp)))
    · rcases List.mem_append.mp hp with hp | hp
      · exact List.mem_append.mpr (.inl hp)
      · exact List.mem_append.mpr (.inr (List.mem_append.mpr (.inr hp)))
  · subst e
    rcases List.mem_append.mp hp with hp | hp
    · exact List.mem_append.mpr (.inr (List.mem_append.mpr (.inl hp)))
    · rcases List.mem_append.mp hp with hp | hp
      · exact List.mem_append.mpr (.inl hp)
      · exact List.mem_append.mpr (.inr (List.mem_append.mpr (.inr hp)))
/-- one more object beside the data -/
theorem l2_more {l : Addr} {o : Obj} (h : L2P w A S1 S2 rows lk hs X Z n) (hl : ∀ p ∈ n, p.1 ≠ l) : ∃ n', L2P w A S1 S2 rows lk hs ((l, o) :: X) Z n' ∧ ∀ p ∈ n', p ∈ (l, o) :: n := by
  obtain ⟨k1, k2, dx1, dx2, t1, t2, rvs, lvs, hvs, c1, c2, c3, R, rfl, C⟩ := h
  have hb : ∀ p ∈ LB A rvs lvs hvs c1 c2 c3 X R, p ∈ t1 ++ (t2 ++ LB A rvs lvs hvs c1 c2 c3 X R) := fun p hp => List.mem_append.mpr (.inr (List.mem_append.mpr (.inr hp)))
  have offn : ∀ {t : Led}, (∀ p ∈ t, p ∈ t1 ++ (t2 ++ LB A rvs lvs hvs c1 c2 c3 X R)) → Off t (LB A rvs lvs hvs c1 c2 c3 X R) → Off t (LB A rvs lvs hvs c1 c2 c3 ((l, o) :: X) R) := fun {t} ht ho p hp q hq => by
    simp only [List.mem_cons, List.cons_append] at hq
    rcases hq with h | h | h | h | h
    · exact ho p hp q (h ▸ .head _)
    · exact ho p hp q (h ▸ .tail _ (.head _))
    · exact ho p hp q (h ▸ .tail _ (.tail _ (.head _)))
    · subst h; exact Ne.symm (hl p (ht p hp))
    · exact ho p hp q (.tail _ (.tail _ (.tail _ h)))
  have hx : ∀ p ∈ X ++ R, p.1 ≠ l := fun p hp => hl p (lb_mem hp)
  obtain ⟨f12, f1b⟩ := off_app C.f1
  refine ⟨_, ⟨k1, k2, dx1, dx2, t1, t2, rvs, lvs, hvs, c1, c2, c3, R, rfl, { C with s := { C.s with o1 := ?_, o2 := ?_, o3 := ?_, xr := ?_, xx := ?_ }, f1 := Off.app f12 (offn (fun p hp => List.mem_append.mpr (.inl hp)) f1b), f2 := offn (fun p hp => List.mem_append.mpr (.inr (List.mem_append.mpr (.inl hp)))) C.f2 }⟩, ?_⟩
  · intro p hp
    rcases List.mem_cons.mp hp with rfl | hp
    · exact Ne.symm (hl _ (hb _ (.head _)))
    · exact C.s.o1 p hp
  · intro p hp
    rcases List.mem_cons.mp hp with rfl | hp
    · exact Ne.symm (hl _ (hb _ (.tail _ (.head _))))
    · exact C.s.o2 p hp
  · intro p hp
    rcases List.mem_cons.mp hp with rfl | hp
    · exact Ne.symm (hl _ (hb _ (.tail _ (.tail _ (.head _)))))
    · exact C.s.o3 p hp
  · intro p hp q hq
    rcases List.mem_cons.mp hq with rfl | hq
    · exact hx p (List.mem_append.mpr (.inr hp))
    · exact C.s.xr p hp q hq
  · exact .cons (fun q hq => Ne.symm (hx q (List.mem_append.mpr (.inl hq)))) C.s.xx
  · intro p hp
    simp only [List.mem_append, List.mem_cons, List.cons_append] at hp ⊢
    rcases hp with h | h | h | h | h | h | h | h
    · exact .inr (.inl h)
    · exact .inr (.inr (.inl h))
    · exact .inr (.inr (.inr (.inl h)))
    · exact .inr (.inr (.inr (.inr (.inl h))))
    · exact .inr (.inr (.inr (.inr (.inr (.inl h)))))
    · exact .inl h
    · exact .inr (.inr (.inr (.inr (.inr (.inr (.inl h))))))
    · exact .inr (.inr (.inr (.inr (.inr (.inr (.inr h))))))
/-- the youngest of them is set apart -/
theorem l2_less (h : L2P w A S1 S2 rows lk hs ((I, it) :: X) Z n) : ∃ n', Fresh I it (L2P w A S1 S2 rows lk hs X Z) n' ∧ ∀ p ∈ n', p ∈ n := by
  obtain ⟨k1, k2, dx1, dx2, t1, t2, rvs, lvs, hvs, c1, c2, c3, R, rfl, C⟩ := h
  have sub : ∀ p ∈ LB A rvs lvs hvs c1 c2 c3 X R, p ∈ LB A rvs lvs hvs c1 c2 c3 ((I, it) :: X) R := fun p hp => by
    simp only [List.mem_cons, List.cons_append] at hp ⊢
    rcases hp with h | h | h | h
    · exact .inl h
    · exact .inr (.inl h)
    · exact .inr (.inr (.inl h))
    · exact .inr (.inr (.inr (.inr h)))
  have hI : (I, it) ∈ LB A rvs lvs hvs c1 c2 c3 ((I, it) :: X) R := .tail _ (.tail _ (.tail _ (.head _)))
  obtain ⟨f12, f1b⟩ := off_app C.f1
  have xx := List.pairwise_cons.mp C.s.xx
  refine ⟨_, ⟨_, rfl, ⟨k1, k2, dx1, dx2, t1, t2, rvs, lvs, hvs, c1, c2, c3, R, rfl, { C with s := { C.s with o1 := fun p hp => C.s.o1 p (.tail _ hp), o2 := fun p hp => C.s.o2 p (.tail _ hp), o3 := fun p hp => C.s.o3 p (.tail _ hp), xr := fun p hp q hq => C.s.xr p hp q (.tail _ hq), xx := xx.2 }, f1 := Off.app f12 (f1b.mono sub), f2 := C.f2.mono sub }⟩, fun p hp => ?_⟩, fun p hp => ?_⟩
  · rcases List.mem_append.mp hp with hp | hp
    · exact Ne.symm (f1b p hp _ hI)
    · rcases List.mem_append.mp hp with hp | hp
      · exact Ne.symm (C.f2 p hp _ hI)
      · simp only [List.mem_cons] at hp
        rcases hp with rfl | rfl | rfl | hp
        · exact Ne.symm (C.s.o1 (I, it) (.head _))
        · exact Ne.symm (C.s.o2 (I, it) (.head _))
        · exact Ne.symm (C.s.o3 (I, it) (.head _))
        · rcases List.mem_append.mp hp with hp | hp
          · exact Ne.symm (xx.1 p hp)
          · exact C.s.xr p hp _ (.head _)
  · rcases List.mem_cons.mp hp with rfl | hp
    · exact List.mem_append.mpr (.inr (List.mem_append.mpr (.inr hI)))
    · rcases List.mem_append.mp hp with hp | hp
      · exact List.mem_append.mpr (.inl hp)
      · rcases List.mem_append.mp hp with hp | hp
        · exact List.mem_append.mpr (.inr (List.mem_append.mpr (.inl hp)))
        · exact List.mem_append.mpr (.inr (List.mem_append.mpr (.inr (sub p hp))))
theorem l2_in (h : Fresh I it (L2P w A S1 S2 rows lk hs X Z) n) : ∃ n', L2P w A S1 S2 rows lk hs ((I, it) :: X) Z n' ∧ ∀ p ∈ n', p ∈ n := by
  obtain ⟨nx, rfl, h, ho⟩ := h
  exact l2_more h ho
theorem l2_drop {e : Addr × Obj} (h : L2P w A S1 S2 rows lk hs (e :: X) Z n) : ∃ n', L2P w A S1 S2 rows lk hs X Z n' ∧ ∀ p ∈ n', p ∈ n := by
  obtain ⟨n', ⟨nx, rfl, h, _⟩, hs⟩ := l2_less h
  exact ⟨nx, h, fun p hp => hs p (.tail _ hp)⟩
theorem l2_x (h : L2P w A S1 S2 rows lk hs X Z n) : ∀ p ∈ X, p ∈ n := by
  obtain ⟨k1, k2, dx1, dx2, t1, t2, rvs, lvs, hvs, c1, c2, c3, R, rfl, C⟩ := h
  exact fun p hp => lb_mem (List.mem_append.mpr (.inl hp))
end
end Mine
end

section
open PySem PySem.W PySem.Spec PySem.Calls PyProof.Rows
set_option Elab.async false
set_option maxRecDepth 100000
set_option maxHeartbeats 4000000
namespace Mine
section
variable {w : World} {A : LA} {S1 S2 : CS} {rows lk : List Row} {hs : List Int} {X : Led} {Z Z' : Led → Prop} {n : Led} {I : Addr} {it : Obj}
theorem rowsAt_snoc {L : Led} {vs : List Value} {rs : List Row} {v : Value} {r : Row} (h : RowsAt L vs rs) (hr : RowAt L v r) : RowsAt L (vs ++ [v]) (rs ++ [r]) := by
  induction h with
  | nil => exact .cons hr .nil
  | cons a _ ih => exact .cons a ih
theorem ints_snoc {vs : List Value} {is : List Int} {i : Int} {t : Tok} (h : IntsAre vs is) : IntsAre (vs ++ [.int i t]) (is ++ [i]) := by
  induction h with
  | nil => exact .cons _ _ .nil
  | cons _ _ _ ih => exact .cons _ _ ih
theorem l2_addR {v : Value} {row : Row} (hr : ∀ R, Z R → RowAt R v row) (hl : rows.length ≤ 900) (h : L2P w A S1 S2 rows lk hs X Z n) : ∃ (vs : List Value) (c : Nat) (g : Obj → Led), UpdF A.ra (listOf vs.toArray c) n g ∧ vs.length ≤ 1000 ∧ L2P w A S1 S2 (rows ++ [row]) lk hs X Z (g (listOf (vs ++ [v]).toArray (c + 1))) := by
  obtain ⟨k1, k2, dx1, dx2, t1, t2, rvs, lvs, hvs, c1, c2, c3, R, rfl, C⟩ := h
  obtain ⟨f12, f1b⟩ := off_app C.f1
  have U := updF_at (d := A.ra) (o := listOf (List.toArray rvs) c1) (post := (A.la, listOf (List.toArray lvs) c2) :: (A.ha, listOf (List.toArray hvs) c3) :: (X ++ R)) (pre := t1 ++ t2) ?_ ?_
  · rw [List.append_assoc] at U
    refine ⟨rvs, c1, _, U, by rw [rowsAt_len C.rr]; omega, k1, k2, dx1, dx2, t1, t2, rvs ++ [v], lvs, hvs, c1 + 1, c2, c3, R, by rw [List.append_assoc], { C with rr := rowsAt_snoc C.rr (hr R C.z), f1 := Off.app f12 (off_list f1b (fun p hp => lb_keys A _ _ _ _ _ _ _ _ _ _ _ _ _ _ p hp)), f2 := off_list C.f2 (fun p hp => lb_keys A _ _ _ _ _ _ _ _ _ _ _ _ _ _ p hp) }⟩
  · intro p hp
    rcases List.mem_cons.mp hp with rfl | hp
    · exact Ne.symm C.s.n1
    · rcases List.mem_cons.mp hp with rfl | hp
      · exact Ne.symm C.s.n2
      · exact C.s.o1 p hp
  · intro p hp
    rcases List.mem_append.mp hp with hp | hp
    · exact Ne.symm (f1b p hp _ (.head _))
    · exact Ne.symm (C.f2 p hp _ (.head _))
theorem l2_addL {v : Value} {row : Row} (hr : ∀ R, Z R → RowAt R v row) (hl : lk.length ≤ 900) (h : L2P w A S1 S2 rows lk hs X Z n) : ∃ (vs : List Value) (c : Nat) (g : Obj → Led), UpdF A.la (listOf vs.toArray c) n g ∧ vs.length ≤ 1000 ∧ L2P w A S1 S2 rows (lk ++ [row]) hs X Z (g (listOf (vs ++ [v]).toArray (c + 1))) := by
  obtain ⟨k1, k2, dx1, dx2, t1, t2, rvs, lvs, hvs, c1, c2, c3, R, rfl, C⟩ := h
  obtain ⟨f12, f1b⟩ := off_app C.f1
  have U := updF_at (d := A.la) (o := listOf (List.toArray lvs) c2) (post := (A.ha, listOf (List.toArray hvs) c3) :: (X ++ R)) (pre := t1 ++ (t2 ++ [(A.ra, listOf (List.toArray rvs) c1)])) ?_ ?_
  · simp only [List.append_assoc, List.cons_append, List.nil_append] at U
    refine ⟨lvs, c2, _, U, by rw [rowsAt_len C.rl]; omega, k1, k2, dx1, dx2, t1, t2, rvs, lvs ++ [v], hvs, c1, c2 + 1, c3, R, rfl, { C with rl := rowsAt_snoc C.rl (hr R C.z), f1 := Off.app f12 (off_list f1b (fun p hp => lb_keys A _ _ _ _ _ _ _ _ _ _ _ _ _ _ p hp)), f2 := off_list C.f2 (fun p hp => lb_keys A _ _ _ _ _ _ _ _ _ _ _ _ _ _ p hp) }⟩
  · intro p hp
    rcases List.mem_cons.mp hp with rfl | hp
    · exact Ne.symm C.s.n3
    · exact C.s.o2 p hp
  · intro p hp
    rcases List.mem_append.mp hp with hp | hp
    · exact Ne.symm (f1b p hp _ (.tail _ (.head _)))
    · rcases List.mem_append.mp hp with hp | hp
      · exact Ne.symm (C.f2 p hp _ (.tail _ (.head _)))
      · rw [List.mem_singleton.mp hp]; exact C.s.n1
theorem l2_addH {i : Int} (hl : hs.length ≤ 900) (h : L2P w A S1 S2 rows lk hs X Z n) : ∃ (vs : List Value) (c : Nat) (g : Obj → Led), UpdF A.ha (listOf vs.toArray c) n g ∧ vs.length ≤ 1000 ∧ ∀ v, (Vl.i i).is v → L2P w A S1 S2 rows lk (hs ++ [i]) X Z (g (listOf (vs ++ [v]).toArray (c + 1))) := by
  obtain ⟨k1, k2, dx1, dx2, t1, t2, rvs, lvs, hvs, c1, c2, c3, R, rfl, C⟩ := h
  obtain ⟨f12, f1b⟩ := off_app C.f1
  have U := updF_at (d := A.ha) (o := listOf (List.toArray hvs) c3) (post := X ++ R) (pre := t1 ++ (t2 ++ [(A.ra, listOf (List.toArray rvs) c1), (A.la, listOf (List.toArray lvs) c2)])) ?_ ?_
  · simp only [List.append_assoc, List.cons_append, List.nil_append] at U
    refine ⟨hvs, c3, _, U, by rw [C.rh.length]; omega, fun v ⟨t, e⟩ => e ▸ ⟨k1, k2, dx1, dx2, t1, t2, rvs, lvs, hvs ++ [.int i t], c1, c2, c3 + 1, R, rfl, { C with rh := ints_snoc C.rh, f1 := Off.app f12 (off_list f1b (fun p hp => lb_keys A _ _ _ _ _ _ _ _ _ _ _ _ _ _ p hp)), f2 := off_list C.f2 (fun p hp => lb_keys A _ _ _ _ _ _ _ _ _ _ _ _ _ _ p hp) }⟩⟩
  · exact C.s.o3
  · intro p hp
    rcases List.mem_append.mp hp with hp | hp
    · exact Ne.symm (f1b p hp _ (.tail _ (.tail _ (.head _))))
    · rcases List.mem_append.mp hp with hp | hp
      · exact Ne.symm (C.f2 p hp _ (.tail _ (.tail _ (.head _))))
      · rcases List.mem_cons.mp hp with rfl | hp
        · exact C.s.n2
        · rw [List.mem_singleton.mp hp]; exact C.s.n3
theorem l2_lists (h : L2P w A S1 S2 rows lk hs X Z n) : ∃ rvs lvs hvs c1 c2 c3, (A.ra, listOf (List.toArray rvs) c1) ∈ n ∧ (A.la, listOf (List.toArray lvs) c2) ∈ n ∧ (A.ha, listOf (List.toArray hvs) c3) ∈ n ∧ RowsAt n rvs rows ∧ RowsAt n lvs lk ∧ IntsAre hvs hs ∧ SymAt w A.sg n ∧ (A.pa, listOf (List.toArray A.pvs) A.pc) ∈ n := by
  obtain ⟨k1, k2, dx1, dx2, t1, t2, rvs, lvs, hvs, c1, c2, c3, R, rfl, C⟩ := h
  have hm : ∀ p ∈ R, p ∈ t1 ++ (t2 ++ LB A rvs lvs hvs c1 c2 c3 X R) := fun p hp => lb_mem (List.mem_append.mpr (.inr hp))
  have hb : ∀ p ∈ LB A rvs lvs hvs c1 c2 c3 X R, p ∈ t1 ++ (t2 ++ LB A rvs lvs hvs c1 c2 c3 X R) := fun p hp => List.mem_append.mpr (.inr (List.mem_append.mpr (.inr hp)))
  exact ⟨rvs, lvs, hvs, c1, c2, c3, hb _ (.head _), hb _ (.tail _ (.head _)), hb _ (.tail _ (.tail _ (.head _))), C.rr.mono hm, C.rl.mono hm, C.rh, C.s.sy.mono hm, hm _ C.s.pm⟩
end
section
variable {w : World} {F : Fn} {Γ : Cx w F} {lc lc' : Lcs} {P P' : Led → Prop} {R : RX} {A : LA} {S1 S2 : CS} {rows lk : List Row} {hs : List Int} {X : Led} {Z Z' : Led → Prop}
theorem Ev.ofEq {e : PX} {x y : Int} (h : x = y) (he : Ev Γ lc P e (Vl.i x).is) : Ev Γ lc P e (Vl.i y).is := h ▸ he
/-- len(rows) -/
theorem Ev.lenRows {x : Str} {np xp pos : Pos} (hx : (x, Vl.r A.ra) ∈ lc) (hl : rows.length ≤ 1000) (hkl : autoParam (Γ.env.kindOf (Str.ofString "len") = some .globalImplicit) rfl9) (hk : autoParam (Γ.env.kindOf x = some .local) rfl9) (hd : autoParam ((x == "__debug__") = false) rfl9)
    (hst : autoParam (starEach [.Name x xp] Γ.env = (false, eval (.Name x xp) Γ.env) :: starEach [] Γ.env) rfl9) (hcall : autoParam (callIs (Str.ofString "len") np pos [.Name x xp] Γ.env) rfl9) : Ev Γ lc (L2P w A S1 S2 rows lk hs X Z) (.Call (.Name (Str.ofString "len") np) [.Name x xp] [] pos) (Vl.i rows.length).is :=
  .at fun n hn => by
    obtain ⟨rvs, lvs, hvs, c1, c2, c3, h1, _, _, hr, _⟩ := l2_lists hn
    rw [← rowsAt_len hr]
    exact .lenL (.name hx hk hd) (fun m e => e ▸ h1) (by rw [rowsAt_len hr]; exact hl) hkl (by kernel_rfl!) hst rfl hcall
/-- the pair at hand: its list, its first row, the others -/
noncomputable def PairZ (a : Addr) (c : Nat) (v0 : Value) (ws : List Value) (r0 : Row) (ls : List Row) : Led → Prop := fun R => (a, listOf (List.toArray (v0 :: ws)) c) ∈ R ∧ RowAt R v0 r0 ∧ RowsAt R ws ls
theorem Ev.pair0 {a : Addr} {c : Nat} {v0 : Value} {ws : List Value} {r0 : Row} {ls : List Row} {x : Str} {xp cp pos : Pos} {kn : Nat} (hx : (x, Vl.r a) ∈ lc) (hk : autoParam (Γ.env.kindOf x = some .local) rfl9) (hd : autoParam ((x == "__debug__") = false) rfl9) :
    Ev Γ lc (L2P w A S1 S2 rows lk hs X (PairZ a c v0 ws r0 ls)) (.Subscript (.Name x xp) (.Constant (.int 0) kn cp) pos) (fun u => u = v0) :=
  .lst (.name hx hk hd) .int (fun n hn => by
    obtain ⟨k1, k2, dx1, dx2, t1, t2, rvs, lvs, hvs, c1, c2, c3, R, rfl, C⟩ := hn
    exact lb_mem (List.mem_append.mpr (.inr C.z.1))) (by decide) (by decide) rfl (fun _ => rfl)
/-- pair[1:] -/
theorem EvT.pair1 {a : Addr} {c : Nat} {v0 : Value} {ws : List Value} {r0 : Row} {ls : List Row} {x : Str} {xp cp sp pos : Pos} {kn : Nat} (hx : (x, Vl.r a) ∈ lc) (hw : ws.length ≤ 900) (hk : autoParam (Γ.env.kindOf x = some .local) rfl9) (hd : autoParam ((x == "__debug__") = false) rfl9)
    (hs9 : autoParam (∀ (t l : Addr), subscripted (.Slice (some (.Constant (.int 1) kn cp)) none none sp) false (.ref l) (.ref t) = operate [.ref t, .ref l] (getItem (.ref l) (.ref t))) irfl9) (hg : autoParam (∀ l r, letTemporaryGo (.Name x xp) (.ref l) r = pure ()) irfl9) :
    EvT Γ lc (L2P w A S1 S2 rows lk hs X (PairZ a c v0 ws r0 ls)) (.Subscript (.Name x xp) (.Slice (some (.Constant (.int 1) kn cp)) none none sp) pos) (fun v P' => ∃ l, v = .ref l ∧ P' = L2P w A S1 S2 rows lk hs ((l, listOf (List.toArray ws) 0) :: X) (PairZ a c v0 ws r0 ls)) := by
  intro s Q E S q
  refine Subscript_ (Ev.name hx hk hd s _ E S fun o h1 t1 x1 S1 => wpAny_Slice (evalPart_some_step (Ev.int _ _ E S1 fun o2 h2 t2 x2 S2 => evalPart_none_step (evalPart_none_step ?_))))
  have x1' : o = .ref a := x1
  obtain ⟨t', x2'⟩ := x2
  subst x1' x2'
  obtain ⟨⟨m, Fm, hm⟩, news, N, hP⟩ := S2
  have hP' := hP
  obtain ⟨k1, k2, dx1, dx2, u1, u2, rvs, lvs, hvs, c1, c2, c3, R, rfl, C⟩ := hP'
  have hL : h2.IsList a (v0 :: ws).toArray := News.isList N (lb_mem (List.mem_append.mpr (.inr C.z.1)))
  refine kms_slice_lit (s := ⟨h2, s.gens, s.drawn, t2, s.os⟩) (zs := ws) Fm N hL (IsPart.int 1 t') .none ?_ (fun D h' F' N' hl => ?_) (hs9 _ _) (hg _) (by simp only [List.size_toArray, List.length_cons, sizeLine_eq]; omega)
  · unfold kms_pick kms_lo kms_hi
    simp
  · obtain ⟨n', q1, q2⟩ := l2_more (o := listOf (List.toArray ws) 0) hP fun p hp => Nat.ne_of_lt (hl p hp)
    exact q (.ref D) _ h' _ ⟨D, rfl, rfl⟩ ⟨⟨m, F', hm⟩, n', News.sub N' q2, q1⟩
end
end Mine
end

section
open PySem PySem.W PySem.Spec PySem.Calls PyProof.Rows
set_option Elab.async false
set_option maxRecDepth 100000
set_option maxHeartbeats 4000000
namespace Mine
section
variable {w : World} {F : Fn} {Γ : Cx w F} {lc lc' : Lcs} {P P' : Led → Prop} {R : RX}
/-- an empty list, on top -/
noncomputable abbrev OnTop (l : Addr) (P : Led → Prop) : Led → Prop := fun n => ∃ n0, n = (l, listOf #[] 0) :: n0 ∧ P n0 ∧ ∀ p ∈ n0, p.1 < l
theorem EvT.list0 {pos : Pos} : EvT Γ lc P (.List [] pos) (fun v P' => ∃ l, v = .ref l ∧ P' = OnTop l P) :=
  .conv (.list .nil (fun vs e => by rw [e]; decide)) fun v P' ⟨l, vs, e1, e2, e3⟩ h n N hn => by
    subst e1 e2 e3
    exact ⟨_, ⟨l, rfl, rfl⟩, n, hn, fun _ h => h⟩
end
theorem l2_start {w : World} {A : LA} {n0 n : Led} {S : CS} {k1 k2 : Nat → Tok} {dx1 dx2 : Addr} (hn0 : ∃ R0, n0 = (A.pa, listOf (List.toArray A.pvs) A.pc) :: R0 ∧ SymAt w A.sg R0 ∧ PairsAt R0 A.pvs A.pss)
    (h1 : ∀ p ∈ n0, p.1 ≠ A.x1) {n1 : Led} (hC1 : Ck w k1 A.sg dx1 S ((A.x1, instObj 358 dx1) :: n0) n1) (h2 : ∀ p ∈ n1, p.1 ≠ A.x2)
    (h : OnTop A.ha (OnTop A.la (OnTop A.ra (Ck w k2 A.sg dx2 S ((A.x2, instObj 358 dx2) :: n1)))) n) : ∃ n', L2P w A S S [] [] [] [] (fun _ => True) n' ∧ ∀ p ∈ n', p ∈ n := by
  obtain ⟨R0, rfl, hsy, hps⟩ := hn0
  obtain ⟨t1, q1, f1, rfl⟩ := hC1.toT
  obtain ⟨na, rfl, ⟨nb, rfl, ⟨nc, rfl, hC2, l3⟩, l2⟩, l1⟩ := h
  obtain ⟨t2, q2, f2, rfl⟩ := hC2.toT
  let R : Led := (A.x1, instObj 358 dx1) :: (A.x2, instObj 358 dx2) :: (A.pa, listOf (List.toArray A.pvs) A.pc) :: R0
  have hR0 : ∀ p ∈ R0, p ∈ R := fun p hp => .tail _ (.tail _ (.tail _ hp))
  have hRn : ∀ p ∈ R, p ∈ t2 ++ (A.x2, instObj 358 dx2) :: (t1 ++ (A.x1, instObj 358 dx1) :: (A.pa, listOf (List.toArray A.pvs) A.pc) :: R0) := fun p hp => by
    simp only [R, List.mem_cons, List.mem_append] at hp ⊢
    rcases hp with h | h | h | h
    · exact .inr (.inr (.inr (.inl h)))
    · exact .inr (.inl h)
    · exact .inr (.inr (.inr (.inr (.inl h))))
    · exact .inr (.inr (.inr (.inr (.inr h))))
  have ht1 : ∀ p ∈ t1, p ∈ t2 ++ (A.x2, instObj 358 dx2) :: (t1 ++ (A.x1, instObj 358 dx1) :: (A.pa, listOf (List.toArray A.pvs) A.pc) :: R0) := fun p hp => List.mem_append.mpr (.inr (.tail _ (List.mem_append.mpr (.inl hp))))
  have ht2 : ∀ p ∈ t2, p ∈ t2 ++ (A.x2, instObj 358 dx2) :: (t1 ++ (A.x1, instObj 358 dx1) :: (A.pa, listOf (List.toArray A.pvs) A.pc) :: R0) := fun p hp => List.mem_append.mpr (.inl hp)
  have lists : ∀ {t : Led}, (∀ p ∈ t, p ∈ t2 ++ (A.x2, instObj 358 dx2) :: (t1 ++ (A.x1, instObj 358 dx1) :: (A.pa, listOf (List.toArray A.pvs) A.pc) :: R0)) → Off t R → Off t (LB A [] [] [] 0 0 0 [] R) := fun ht ho p hp q hq => by
    rcases List.mem_cons.mp hq with rfl | hq
    · exact Nat.ne_of_gt (l3 p (ht p hp))
    · rcases List.mem_cons.mp hq with rfl | hq
      · exact Nat.ne_of_gt (l2 p (.tail _ (ht p hp)))
      · rcases List.mem_cons.mp hq with rfl | hq
        · exact Nat.ne_of_gt (l1 p (.tail _ (.tail _ (ht p hp))))
        · exact ho p hp q hq
  have f2' : Off t2 t1 := fun p hp q hq => f2 p hp q (.tail _ (List.mem_append.mpr (.inl hq)))
  have f2R : Off t2 R := fun p hp q hq => by
    simp only [R, List.mem_cons] at hq
    rcases hq with h | h | h | h
    · exact f2 p hp q (.tail _ (List.mem_append.mpr (.inr (h ▸ .head _))))
    · exact f2 p hp q (h ▸ .head _)
    · exact f2 p hp q (.tail _ (List.mem_append.mpr (.inr (h ▸ .tail _ (.head _)))))
    · exact f2 p hp q (.tail _ (List.mem_append.mpr (.inr (.tail _ (.tail _ h)))))
  have f1R : Off t1 R := fun p hp q hq => by
    simp only [R, List.mem_cons] at hq
    rcases hq with h | h | h | h
    · exact f1 p hp q (h ▸ .head _)
    · subst h; exact Ne.symm (h2 p (List.mem_append.mpr (.inl hp)))
    · exact f1 p hp q (h ▸ .tail _ (.head _))
    · exact f1 p hp q (.tail _ (.tail _ h))
  refine ⟨_, ⟨k1, k2, dx1, dx2, t1, t2, [], [], [], 0, 0, 0, R, rfl, ⟨⟨.head _, .tail _ (.head _), hsy.mono hR0, .tail _ (.tail _ (.head _)), hps.mono hR0, ?_, ?_, ?_, fun p hp => Nat.ne_of_lt (l3 p (hRn p hp)), fun p hp => Nat.ne_of_lt (l2 p (.tail _ (hRn p hp))), fun p hp => Nat.ne_of_lt (l1 p (.tail _ (.tail _ (hRn p hp)))), (fun _ _ _ h => nomatch h), .nil⟩, q1, q2, Off.app f2'.symm (lists ht1 f1R), lists ht2 f2R, .nil, .nil, .nil, trivial⟩⟩, fun p hp => ?_⟩
  · exact Nat.ne_of_lt (l2 _ (.head _))
  · exact Nat.ne_of_lt (l1 _ (.tail _ (.head _)))
  · exact Nat.ne_of_lt (l1 _ (.head _))
  · rcases List.mem_append.mp hp with hp | hp
    · exact .tail _ (.tail _ (.tail _ (ht1 p hp)))
    · rcases List.mem_append.mp hp with hp | hp
      · exact .tail _ (.tail _ (.tail _ (ht2 p hp)))
      · rcases List.mem_cons.mp hp with rfl | hp
        · exact .tail _ (.tail _ (.head _))
        · rcases List.mem_cons.mp hp with rfl | hp
          · exact .tail _ (.head _)
          · rcases List.mem_cons.mp hp with rfl | hp
            · exact .head _
            · exact .tail _ (.tail _ (.tail _ (hRn p hp)))
end Mine
end

section
open PySem PySem.W PySem.Spec PySem.Calls PyProof.Rows
set_option Elab.async false
set_option maxRecDepth 100000
set_option maxHeartbeats 4000000
namespace Mine
theorem take_at {α : Type} {l : List α} {i : Nat} {a : α} (h : l[i]? = some a) : l.take (i + 1) = l.take i ++ [a] := by
  obtain ⟨hl, e⟩ := List.getElem?_eq_some_iff.mp h
  rw [← e]; exact (List.take_append_getElem hl).symm
theorem heads_app (a b : List (List Row)) : heads (a ++ b) = heads a ++ heads b := by unfold heads; exact List.flatMap_append
theorem likes_app (a b : List (List Row)) : likes (a ++ b) = likes a ++ likes b := by unfold likes; exact List.flatMap_append
theorem homes_app : ∀ (a b : List (List Row)) (i : Nat), homes i (a ++ b) = homes i a ++ homes (i + a.length) b
  | [], b, i => by simp [homes]
  | p :: a, b, i => by
    have := homes_app a b (i + 1)
    simp only [List.cons_append, homes, List.append_assoc, List.length_cons]
    rw [this, show i + 1 + a.length = i + (a.length + 1) by omega]
theorem heads_len : ∀ (a : List (List Row)), (∀ p ∈ a, ∃ r l, p = r :: l) → (heads a).length = a.length
  | [], _ => rfl
  | p :: a, h => by
    obtain ⟨r, l, rfl⟩ := h p (.head _)
    have := heads_len a fun p hp => h p (.tail _ hp)
    unfold heads at this ⊢
    simp [this]
theorem heads_succ {ps : List (List Row)} {i : Nat} {r0 : Row} {ls : List Row} (h : ps[i]? = some (r0 :: ls)) : heads (ps.take (i + 1)) = heads (ps.take i) ++ [r0] := by
  rw [take_at h, heads_app]; rfl
theorem likes_succ {ps : List (List Row)} {i : Nat} {r0 : Row} {ls : List Row} (h : ps[i]? = some (r0 :: ls)) : likes (ps.take (i + 1)) = likes (ps.take i) ++ ls := by
  rw [take_at h, likes_app]; simp [likes]
theorem homes_succ {ps : List (List Row)} {i : Nat} {r0 : Row} {ls : List Row} (h : ps[i]? = some (r0 :: ls)) : homes 0 (ps.take (i + 1)) = homes 0 (ps.take i) ++ List.replicate ls.length (i : Int) := by
  have hl := (List.getElem?_eq_some_iff.mp h).1
  rw [take_at h, homes_app, List.length_take, Nat.min_eq_left (Nat.le_of_lt hl)]
  simp [homes]
theorem likes_len : ∀ (a : List (List Row)), (∀ p ∈ a, ∃ r l, p = r :: l ∧ l.length ≤ 3) → (likes a).length ≤ 3 * a.length
  | [], _ => Nat.le_refl _
  | p :: a, h => by
    obtain ⟨r, l, rfl, hl⟩ := h p (.head _)
    have := likes_len a fun p hp => h p (.tail _ hp)
    unfold likes at this ⊢
    simp only [List.flatMap_cons, List.tail_cons, List.length_append, List.length_cons]
    omega
theorem homes_len : ∀ (a : List (List Row)) (i : Nat), (homes i a).length = (likes a).length
  | [], _ => rfl
  | p :: a, i => by
    have := homes_len a (i + 1)
    simp only [homes, likes, List.flatMap_cons, List.length_append, List.length_replicate] at this ⊢
    omega
theorem pairsAt_get {L : Led} {vs : List Value} {ps : List (List Row)} (h : PairsAt L vs ps) : ∀ {i : Nat} {v : Value}, vs[i]? = some v → ∃ rs, ps[i]? = some rs ∧ PairAt L v rs := by
  induction h with
  | nil => intro i v h; simp at h
  | cons a _ ih =>
    intro i v h1
    cases i with
    | zero => cases h1; exact ⟨_, rfl, a⟩
    | succ i => exact ih h1
theorem good_run : ∀ (ls : List Row) (S : CS), S.good → (∀ r ∈ ls, r.rok) → (S.run ls).good
  | [], _, h, _ => h
  | r :: ls, S, h, hr => good_run ls (S.step r) (good_step h (hr r (.head _))) fun q hq => hr q (.tail _ hq)
theorem rowsAt_rok {L : Led} {vs : List Value} {rs : List Row} (h : RowsAt L vs rs) : ∀ r ∈ rs, r.rok := by
  induction h with
  | nil => intro r hr; cases hr
  | cons a _ ih =>
    intro r hr
    rcases List.mem_cons.mp hr with rfl | hr
    · exact a.rok
    · exact ih r hr
theorem pairAt_rok {L : Led} {v : Value} {rs : List Row} (h : PairAt L v rs) : ∀ r ∈ rs, r.rok := by
  obtain ⟨_, _, _, _, _, hr⟩ := h
  exact rowsAt_rok hr
theorem pair_wf {rs : List Row} (h : Pair rs) : ∀ r ∈ rs, r.wf ∧ r.ck := by
  cases h <;> intro r hr <;> simp only [List.mem_cons, List.mem_nil_iff, or_false] at hr
  case famN g n h1 h3 =>
    rcases hr with rfl | hr
    · exact ⟨trivial, Int.natCast_nonneg n⟩
    · rw [(List.mem_replicate.mp hr).2]; exact ⟨trivial, trivial⟩
  case k6 c h0 h3 =>
    rcases hr with rfl | rfl | rfl
    · exact ⟨.inr rfl, by decide, h0⟩
    · exact ⟨.inr rfl, show (0 : Int) ≤ 32 by decide⟩
    · exact ⟨.inl rfl, by decide, h0⟩
  case k8 =>
    rcases hr with rfl | rfl | rfl
    · exact ⟨trivial, trivial⟩
    · exact ⟨trivial, trivial⟩
    · exact ⟨.inl rfl, show (0 : Int) ≤ 21 by decide⟩
  case k11 =>
    rcases hr with rfl | rfl | rfl
    · exact ⟨.inr rfl, show (0 : Int) ≤ 32 by decide⟩
    · exact ⟨.inr rfl, show (0 : Int) ≤ 32 by decide⟩
    · exact ⟨.inl rfl, show (0 : Int) ≤ 21 by decide⟩
  case last =>
    rcases hr with rfl | rfl
    · exact ⟨trivial, trivial⟩
    · exact ⟨.inl rfl, show (0 : Int) ≤ 21 by decide⟩
  all_goals first
    | (rcases hr with rfl | rfl <;> exact ⟨trivial, trivial⟩)
    | (rcases hr with rfl | rfl | rfl <;> exact ⟨trivial, trivial⟩)
section
variable {w : World} {F : Fn} {Γ : Cx w F} {lc lc' : Lcs} {P P' : Led → Prop} {R : RX} {A : LA} {S1 S2 : CS} {rows lk : List Row} {hs : List Int} {X : Led} {Z Z' : Led → Prop} {n : Led}
theorem l2_open {i : Nat} {a : Addr} {r0 : Row} {ls : List Row} (h : L2P w A S1 S2 rows lk hs X Z n) (hv : A.pvs[i]? = some (.ref a)) (hr : A.pss[i]? = some (r0 :: ls)) :
    ∃ c v0 ws, (∀ (j : Nat) (v : Value), ws[j]? = some v → ∃ (b : Addr) (r : Row), v = Value.ref b ∧ ls[j]? = some r) ∧ ws.length = ls.length ∧ L2P w A S1 S2 rows lk hs X (PairZ a c v0 ws r0 ls) n := by
  obtain ⟨R, _, hps, hz⟩ := l2_z h
  obtain ⟨rs, e, hp⟩ := pairsAt_get hps hv
  rw [hr] at e
  cases e
  obtain ⟨b, vs, c, e, hm, hrs⟩ := hp
  injection e with e; subst e
  cases hrs with
  | cons h1 h2 =>
    exact ⟨c, _, _, fun j v hj => by obtain ⟨r, e, hr⟩ := rowsAt_get h2 hj; obtain ⟨b, _, _, e2, _⟩ := hr; exact ⟨b, r, e2, e⟩, rowsAt_len h2, hz _ ⟨hm, h1, h2⟩⟩
theorem l2_out {I : Addr} {it : Obj} (h : L2P w A S1 S2 rows lk hs [(I, it)] Z n) : ∃ n', Fresh I it (L2P w A S1 S2 rows lk hs [] fun _ => True) n' ∧ ∀ p ∈ n', p ∈ n := by
  obtain ⟨n', ⟨nx, e, h, ho⟩, hs⟩ := l2_less h
  obtain ⟨R, _, _, hz⟩ := l2_z h
  exact ⟨n', ⟨nx, e, hz _ trivial, ho⟩, hs⟩
theorem pairZ_at {a : Addr} {c : Nat} {v0 v : Value} {ws : List Value} {r0 r : Row} {ls : List Row} {j : Nat} (hj : ws[j]? = some v) (hr : ls[j]? = some r) : ∀ R, PairZ a c v0 ws r0 ls R → RowAt R v r := fun R h => by
  obtain ⟨r', e, q⟩ := rowsAt_get h.2.2 hj
  rw [hr] at e
  cases e
  exact q
theorem Ec.neB {a b : PX} {pos : Pos} {x y : Bool} (ha : Ev Γ lc P a (Vl.b x).is) (hb : Ev Γ lc P b (Vl.b y).is) : Ec Γ lc P (.Compare a [.NotEq] [b] pos) (x != y) :=
  .cmp ha hb (marks _ _ rfl) fun v1 v2 e1 e2 s _ _ S q => by
    have e1' : v1 = .bool x := e1
    have e2' : v2 = .bool y := e2
    subst e1' e2'
    exact ne_bool (q s.heap s.toks S)
theorem no_split (S1 S2 : CS) (h : (S1.bad = true ∧ S2.bad = true) ∨ S1 = S2) : (((!S1.bad) != (!S2.bad)) || (((!S1.bad) && ((S1.en != S2.en) && true)) || false)) = false := by
  rcases h with ⟨h1, h2⟩ | rfl
  · simp [h1, h2]
  · simp
end
end Mine
end

section
open PySem PySem.W PySem.Spec PySem.Calls PyProof.Rows
set_option Elab.async false
set_option maxRecDepth 100000
set_option maxHeartbeats 4000000
namespace Mine
noncomputable def placeOf (r : Option Nat) : Int := match r with | none => -1 | some n => (n : Int)
section
variable {w : World} {F : Fn} {Γ : Cx w F} {lc lc' : Lcs} {P P' : Led → Prop} {R : RX} {A : LA} {S1 S2 : CS} {rows lk : List Row} {hs : List Int} {X : Led} {Z Z' : Led → Prop} {n : Led}
/-- _law_place(clause_fault(signs, wide, rows)) -/
theorem Ev.place {wide : Int} {l : Addr} {rs : List Row} {s x y : Str} {np cp sp xp yp p1 p2 : Pos} (hw : wide = 0 ∨ wide = 1 ∨ wide = 2) (hP : ∀ n, P n → ∃ vs c, (l, listOf (List.toArray vs) c) ∈ n ∧ RowsAt n vs rs ∧ SymAt w A.sg n) (hwf : ∀ r ∈ rs, r.wf ∧ r.ck) (hl : rs.length ≤ 60)
    (hs : (s, Vl.r A.sg) ∈ lc) (hx : (x, Vl.i wide) ∈ lc) (hy : (y, Vl.r l) ∈ lc) (hroom : Γ.room 40 1600)
    (hkf : autoParam (Γ.env.kindOf (Str.ofString "clause_fault") = some .globalImplicit) rfl9) (hkg : autoParam (Γ.env.kindOf (Str.ofString "_law_place") = some .globalImplicit) rfl9) (hk1 : autoParam (Γ.env.kindOf s = some .local) rfl9) (hk2 : autoParam (Γ.env.kindOf x = some .local) rfl9) (hk3 : autoParam (Γ.env.kindOf y = some .local) rfl9) (hd1 : autoParam ((s == "__debug__") = false) rfl9) (hd2 : autoParam ((x == "__debug__") = false) rfl9) (hd3 : autoParam ((y == "__debug__") = false) rfl9)
    (hst : autoParam (starEach [.Name s sp, .Name x xp, .Name y yp] Γ.env = (false, eval (.Name s sp) Γ.env) :: starEach [.Name x xp, .Name y yp] Γ.env) rfl9) (hcall : autoParam (callIs (Str.ofString "clause_fault") cp p1 [.Name s sp, .Name x xp, .Name y yp] Γ.env) rfl9)
    (hst2 : autoParam (starEach [.Call (.Name (Str.ofString "clause_fault") cp) [.Name s sp, .Name x xp, .Name y yp] [] p1] Γ.env = (false, eval (.Call (.Name (Str.ofString "clause_fault") cp) [.Name s sp, .Name x xp, .Name y yp] [] p1) Γ.env) :: starEach [] Γ.env) rfl9) (hcall2 : autoParam (callIs (Str.ofString "_law_place") np p2 [.Call (.Name (Str.ofString "clause_fault") cp) [.Name s sp, .Name x xp, .Name y yp] [] p1] Γ.env) rfl9) :
    Ev Γ lc P (.Call (.Name (Str.ofString "_law_place") np) [.Call (.Name (Str.ofString "clause_fault") cp) [.Name s sp, .Name x xp, .Name y yp] [] p1] [] p2) (Vl.i (placeOf (cf (CS.init (initXs wide)) 0 rs))).is :=
  .ofT (EvT.call (f := 418) (post := fun v nn => (Vl.i (placeOf (cf (CS.init (initXs wide)) 0 rs))).is v ∧ P nn) (by kernel_rfl!) hkg (by decide +kernel) (by kernel_rfl!)
    (.cons (.ofT (EvT.call (f := 369) (post := fun v nn => (∃ told tt, v = .str told tt ∧ ToldAt told (cf (CS.init (initXs wide)) 0 rs)) ∧ P nn) (by kernel_rfl!) hkf (by decide +kernel) (by kernel_rfl!) (.three (.name hs hk1 hd1) (.name hx hk2 hd2) (.name hy hk3 hd3) hst rfl rfl) hst rfl hcall (fun us hu n hn => by
      obtain ⟨v, v', v'', rfl, e, ⟨t, rfl⟩, e'⟩ := hu
      have e1 : v = .ref A.sg := e
      have e2 : v'' = .ref l := e'
      subst e1 e2
      obtain ⟨vs, c, hm, hr, hsy⟩ := hP n hn
      exact (cf_core w A.sg l c t wide vs rs n hw hsy hm hr hwf (by rw [rowsAt_len hr]; exact hl)).conv (Nat.le_refl _) (Nat.le_refl _) (fun _ h => h) fun v nn ⟨e, h⟩ => ⟨nn, ⟨h, e ▸ hn⟩, fun _ h => h⟩) hroom) fun v P' e n hn => by subst e; exact ⟨hn.1, n, hn.2, fun _ h => h⟩) .nil hst2) hst2 rfl hcall2 (fun us hu n hn => by
      obtain ⟨v, r, rfl, ⟨told, tt, rfl, ht⟩, rfl⟩ := hu
      exact (place_core w told tt _ n (fun m e => by have := cf_le rs _ _ _ e; omega) ht).conv (Nat.le_refl _) (Nat.le_refl _) (fun _ h => h) fun v nn ⟨e, tk, h⟩ => ⟨nn, ⟨⟨tk, h⟩, e ▸ hn⟩, fun _ h => h⟩) (hroom.le (by decide) (by decide)))
    fun v P' e n hn => by subst e; exact ⟨hn.1, n, hn.2, fun _ h => h⟩
/-- homes[there] -/
theorem Ev.home {t : Nat} {v : Int} {x y : Str} {xp yp pos : Pos} (hx : (x, Vl.r A.ha) ∈ lc) (hy : (y, Vl.i (t : Int)) ∈ lc) (ht : hs[t]? = some v) (ht60 : t ≤ 1000) (hk1 : autoParam (Γ.env.kindOf x = some .local) rfl9) (hk2 : autoParam (Γ.env.kindOf y = some .local) rfl9) (hd1 : autoParam ((x == "__debug__") = false) rfl9) (hd2 : autoParam ((y == "__debug__") = false) rfl9) :
    Ev Γ lc (L2P w A S1 S2 rows lk hs X Z) (.Subscript (.Name x xp) (.Name y yp) pos) (Vl.i v).is := .at fun n hn => by
  obtain ⟨rvs, lvs, hvs, c1, c2, c3, _, _, hm, _, _, hi, _⟩ := l2_lists hn
  have hl : t < hvs.length := by rw [hi.length]; exact (List.getElem?_eq_some_iff.mp ht).1
  obtain ⟨m, tk, e1, e2⟩ := ints_at hi (List.getElem?_eq_getElem hl)
  rw [ht] at e1
  cases e1
  exact (Ev.lst (.name hx hk1 hd1) (.name hy hk2 hd2) (fun m e => e ▸ hm) (by omega) (by omega) (by rw [Int.toNat_natCast]; exact List.getElem?_eq_getElem hl) (fun _ => rfl)).is ⟨tk, e2⟩
end
end Mine
end

section
open PySem PySem.W PySem.Spec PySem.Calls PyProof.Rows
set_option Elab.async false
set_option maxRecDepth 100000
set_option maxHeartbeats 8000000
namespace Mine
theorem Dropped.consN {x : Str} {vl : Vl} {lc : Lcs} (h : ∀ p ∈ lc, p.1 ≠ x) : Dropped x vl lc ((x, vl) :: lc) := fun p hp => (List.mem_cons.mp hp).imp id fun hp => ⟨h p hp, hp⟩
theorem ne_cons {x : Str} {q : Str × Vl} {lc : Lcs} (h : (q.1 != x) = true) (hr : ∀ p ∈ lc, p.1 ≠ x) : ∀ p ∈ q :: lc, p.1 ≠ x := fun p hp => (List.mem_cons.mp hp).elim (fun e => e ▸ bne_iff_ne.mp h) (hr p)
theorem sub3 {a b c : Str × Vl} {L l : Lcs} (ha : a ∈ l) (hb : b ∈ l) (hc : c ∈ l) (hL : ∀ q ∈ L, q ∈ l) : ∀ q ∈ a :: b :: c :: L, q ∈ l := fun q hq => by
  rcases List.mem_cons.mp hq with rfl | hq
  · exact ha
  · rcases List.mem_cons.mp hq with rfl | hq
    · exact hb
    · rcases List.mem_cons.mp hq with rfl | hq
      · exact hc
      · exact hL q hq
theorem mem_dropN {x : Str} {vl : Vl} {lc : Lcs} {p : Str × Vl} (h : p ∈ lc) (hn : p.1 ≠ x) : p ∈ (x, vl) :: lc.filter fun p => p.1 != x := mem_drop h (bne_iff_ne.mpr hn)
theorem law_t : PySem.Challenge.rw_sa0151_01.Holds := hd (by
  k_go0
  all_goals try k_fold
  dsimp only
  (rename World => w)
  (rename IntsAre _ _ => hi)
  (rename Heap.IsList _ _ _ => hsc)
  (rename PyData.layable0 _ = true => hlay)
  (rename Below _ _ _ _ => kB)
  (rename Top _ _ _ _ _ _ => kT)
  refine' use_top 60 3000 kB (by assumption) kT rfl (by assumption) (by assumption) ?po hsc rfl ?hd9 ?hu ?fin ?H
  case po => exact PassesOwn.leaving
  case hd9 => decide
  case hu => decide
  case fin =>
    intro h' tk m' n F' N'
    dsimp only
    wrow_close
  case H =>
  intro Γ hroom hsc
  -- figures = _law_figures(script)
  refine .setT (RV := fun v P' => ∃ fa, v = .ref fa ∧ P' = FgT fa (fun r => r = [])) (.conv (EvT.callH (f := 376) hsc (by kernel_rfl!) rfl (by decide +kernel) (by kernel_rfl!) (.cons (.name (.head _) rfl rfl) .nil rfl) rfl rfl rfl (fun u hu n hn => by
    obtain ⟨v, r, rfl, e, rfl⟩ := hu
    have e' : v = .ref _ := e
    subst e' hn
    exact figs_core _ _ _ _ [] hi (by rw [hi.length]; omega) hlay) (hroom.le (by decide) (by decide))) fun v P' e h n N hn => ?_) rfl rfl fun v P' ⟨fa, e1, e2⟩ => ⟨.r fa, [(Str.ofString "figures", .r fa)], e1, fun p hp => .inl (List.mem_singleton.mp hp), ?_⟩
  · subst e
    obtain ⟨fa, o, rfl, hf, rfl, _⟩ := hn
    exact ⟨_, ⟨fa, rfl, rfl⟩, _, ⟨o, [], rfl, hf, rfl, fun _ h => nomatch h⟩, fun _ h => h⟩
  subst e2
  clear e1 hsc hlay hi
  -- signs = Symbols()
  refine .setT (RV := fun v P' => ∃ sg, v = .ref sg ∧ P' = fun n => ∃ four r o, n = four ++ r ∧ (fa, o) ∈ r ∧ Figs o ∧ SymF w sg S2.1 S2.2 four r) (.conv (EvT.call0 (f := 162) (dp := 20) (un := 900) (post := fun r nn => ∃ sg four rest' n, FgT fa (fun r => r = []) n ∧ r = .ref sg ∧ nn = four ++ rest' ∧ (∀ p ∈ n, p ∈ rest') ∧ SymF w sg S2.1 S2.2 four rest') (by kernel_rfl!) rfl (by decide +kernel) (by kernel_rfl!) rfl
    (fun n hn => (syms_core w n).conv (Nat.le_refl _) (Nat.le_refl _) (fun _ h => h) fun r nn ⟨sg, four, rest', h1, h2, h3, h4⟩ => ⟨nn, ⟨sg, four, rest', n, hn, h1, h2, h3, h4⟩, fun _ h => h⟩) (hroom.le (by decide) (by decide))) fun v P' e h n N hn => ?_) rfl rfl fun v P' ⟨sg, e1, e2⟩ => ⟨.r sg, _, e1, Dropped.cons (by kernel_rfl!), ?_⟩
  · subst e
    obtain ⟨sg, four, r, n0, ⟨o, r0, rfl, hf, rfl, _⟩, rfl, rfl, hs, hS⟩ := hn
    exact ⟨_, ⟨sg, rfl, rfl⟩, _, ⟨four, r, o, rfl, hs _ (.head _), hf, hS⟩, fun _ h => h⟩
  subst e2
  clear e1
  -- name = signs.func('p', 2)
  refine .setT (RV := fun v P' => (Vl.i 32).is v ∧ P' = FgT fa (SymAt w sg)) (.convN (EvT.callM (m_func w) (.name (.head _) rfl rfl) ?_ (.two .str .int rfl rfl) rfl rfl ⟨_, rfl⟩ (dp := 9) (un := 500) (post := fun r nn => ∃ r0 e four' o A' i, (fa, o) ∈ r0 ∧ Figs o ∧ (Vl.i 32).is r ∧ nn = four' ++ e :: r0 ∧ SymF w sg A' (S2.2 ++ [[i, 2]]) four' (e :: r0)) (fun vs hv n hn => ?_) (hroom.le (by decide) (by decide))) fun v P' e h n N hn => ?_) rfl rfl fun v P' ⟨e1, e2⟩ => ⟨.i 32, _, e1, Dropped.cons (by kernel_rfl!), ?_⟩
  · intro n hn h₀ L h N
    obtain ⟨four, r, o, rfl, _, _, hS⟩ := hn
    obtain ⟨D, _⟩ := hS
    exact ⟨_, _, _, InstAt.of_news N (List.mem_append.mpr (.inr D.m1)) (List.mem_append.mpr (.inr D.m2)), rfl⟩
  · obtain ⟨v, v', rfl, ⟨t, rfl⟩, ⟨t', rfl⟩⟩ := hv
    obtain ⟨four, r, o, rfl, hm, hf, hS⟩ := hn
    exact (func_core w sg _ t t' 2 _ _ four r hS (by rw [fin32.1]; decide) fin32.2.2.1 fin32.2.1).conv (Nat.le_refl _) (Nat.le_refl _) (fun _ h => h) fun r' nn ⟨e, four', tk, h1, h2, h3, h4⟩ => ⟨nn, ⟨r, e, four', o, _, _, hm, hf, ⟨tk, by rw [h1, e32]⟩, h2, h4⟩, fun _ h => h⟩
  · subst e
    obtain ⟨r0, e, four', o, A', i, hm, hf, hv, rfl, hS⟩ := hn
    have hcl : o.cls = .type "list" := by obtain ⟨_, _, _, rfl, _⟩ := hf; rfl
    obtain ⟨R, N', hs, ho⟩ := law_pack hS N (.tail _ hm) hcl (S3len _) ⟨_, S3at fin32.2.2.2.1⟩ ⟨_, S3at fin32.2.2.2.2⟩ ⟨_, S3last _⟩
    exact ⟨_, ⟨hv, rfl⟩, _, ⟨o, R, rfl, hf, hs, ho⟩, N'⟩
  subst e2
  clear e1
  -- wide = [2, 1, 0][_law_draw(figures, 3)]
  refine .setT (Ev.toT (.menu (.ints (.ints (.ints .ints0))) (.tail _ (.tail _ (.head _))) (hroom.le (by decide) (by decide)))) rfl rfl fun v P' ⟨⟨wide, t, e1, hw⟩, e2⟩ => ⟨.i wide, _, ⟨t, e1⟩, Dropped.cons (by kernel_rfl!), ?_⟩
  subst e2
  clear e1 t
  -- pairs = []; left = 0; family = ''
  refine .setT (RV := fun v P' => ∃ pa, v = .ref pa ∧ P' = FgT fa (L1B w sg pa [] [] fun _ => True)) (.conv (.list (.nil) (fun vs e => by rw [e]; decide)) fun v P' e h n N hn => ?_) rfl rfl fun v P' ⟨pa, e1, e2⟩ => ⟨.r pa, _, e1, Dropped.cons (by kernel_rfl!), ?_⟩
  · obtain ⟨l, vs, rfl, rfl, rfl⟩ := e
    obtain ⟨n0, rfl, ⟨o, r, rfl, hf, hs, ho⟩, hlt⟩ := hn
    refine ⟨_, ⟨l, rfl, rfl⟩, _, ⟨o, _, rfl, hf, ⟨[], 0, r, rfl, hs, .nil, trivial, fun p hp => Nat.ne_of_lt (hlt p (.tail _ hp)), fun _ _ _ h => nomatch h⟩, fun p hp => ?_⟩, fun p hp => ?_⟩
    · rcases List.mem_cons.mp hp with rfl | hp
      · exact Nat.ne_of_gt (hlt _ (.head _))
      · exact ho p hp
    · simp only [List.mem_cons, List.nil_append] at hp ⊢
      rcases hp with h | h | h
      · exact .inr (.inl h)
      · exact .inl h
      · exact .inr (.inr h)
  subst e2
  clear e1
  refine .set (vl := .i 0) .int (nm_ok (by kernel_rfl!)) rfl rfl (.set (vl := .s (Str.ofString "")) .str (nm_ok (by kernel_rfl!)) rfl rfl ?_)
  -- the first loop
  generalize hL : [(Str.ofString "pairs", Vl.r pa), (Str.ofString "wide", Vl.i wide), (Str.ofString "name", Vl.i 32), (Str.ofString "signs", Vl.r sg), (Str.ofString "figures", Vl.r fa)] = L
  have mp : (Str.ofString "pairs", Vl.r pa) ∈ L := hL ▸ .head _
  have mw : (Str.ofString "wide", Vl.i wide) ∈ L := hL ▸ .tail _ (.head _)
  have mn : (Str.ofString "name", Vl.i 32) ∈ L := hL ▸ .tail _ (.tail _ (.head _))
  have ms : (Str.ofString "signs", Vl.r sg) ∈ L := hL ▸ .tail _ (.tail _ (.tail _ (.head _)))
  have mf : (Str.ofString "figures", Vl.r fa) ∈ L := hL ▸ .tail _ (.tail _ (.tail _ (.tail _ (.head _))))
  have nl : ∀ p ∈ L, p.1 ≠ Str.ofString "left" := hL ▸ nm_ok (by kernel_rfl!)
  have nf : ∀ p ∈ L, p.1 ≠ Str.ofString "family" := hL ▸ nm_ok (by kernel_rfl!)
  have nt : ∀ p ∈ L, p.1 ≠ Str.ofString "turn" := hL ▸ nm_ok (by kernel_rfl!)
  have np : ∀ p ∈ L, p.1 ≠ Str.ofString "pair" := hL ▸ nm_ok (by kernel_rfl!)
  clear hL
  refine .forRangeX (φ := fun b => b ∈ [6, 3, 9, 12, 16, 0]) (EvR.oneX (.menu (.ints (.ints (.ints (.ints (.ints (.ints .ints0)))))) (.tail _ (.tail _ mf)) (hroom.le (by decide) (by decide))) rfl (by kernel_rfl!) rfl rfl rfl) rfl rfl (fun _ => rfl) fun b hb => ?_
  have hb16 : 0 ≤ b ∧ b ≤ 16 := by
    simp only [List.mem_cons, List.mem_nil_iff, or_false] at hb
    omega
  refine ⟨b.toNat, fun i l p => ∃ pss left fam, l = (Str.ofString "family", .s fam) :: (Str.ofString "left", .i left) :: L ∧ p = FgT fa (L1B w sg pa pss [] fun _ => True) ∧ pss.length = i ∧ (∀ q ∈ pss, Pair q) ∧ left ≤ 2 ∧ FamIs left fam, small_one (by omega) (by omega) (by omega) (by omega), by rw [PyProof.Rows.rangeSize_nat, Int.sub_zero], ⟨[], 0, _, rfl, rfl, rfl, (fun _ h => nomatch h), by decide, fun h => absurd h (by decide)⟩, ?_, ?_⟩
  · rintro i l p I it hi ⟨pss, left, fam, rfl, rfl, hpl, hps, hl2, hfam⟩
    refine ⟨_, .consN (ne_cons (by kernel_rfl!) (ne_cons (by kernel_rfl!) nt)), .weak (fun _ h => h) (fun n h => l1_in h) ?_⟩
    have np4 : ∀ z, ∀ p ∈ (Str.ofString "turn", Vl.i z) :: (Str.ofString "family", Vl.s fam) :: (Str.ofString "left", Vl.i left) :: L, p.1 ≠ Str.ofString "pair" := fun z => ne_cons (by kernel_rfl!) (ne_cons (by kernel_rfl!) (ne_cons (by kernel_rfl!) np))
    generalize hR : Turn Γ I it _ _ _ = R9
    refine .ifXJ (fun l p => ∃ a rs left' fam', (∀ q ∈ (Str.ofString "pair", Vl.r a) :: (Str.ofString "family", .s fam') :: (Str.ofString "left", .i left') :: L, q ∈ l) ∧ p = FgT fa (L1B w sg pa pss [(I, it)] fun R => PairAt R (.ref a) rs) ∧ Pair rs ∧ left' ≤ 2 ∧ FamIs left' fam')
      (.and2 (.gt (.name (.tail _ (.tail _ (.head _))) rfl rfl) .int) (.draw (.tail _ (.tail _ (.tail _ mf))) (hroom.le (by decide) (by decide))) .int) (fun h => ?_) (fun _ => ?_) ?_
    · -- within
      have hpos : 0 < left := of_decide_eq_true (h rfl)
      obtain ⟨g, rfl⟩ := hfam hpos
      refine .setT (.within (g := g) (left := left) (.tail _ (.tail _ (.tail _ mf))) (.tail _ (.head _)) (.tail _ (.tail _ (.head _))) (by omega) hl2 (hroom.le (by decide) (by decide))) rfl rfl fun v P' ⟨a, rs, e1, hw, e2⟩ => ⟨.r a, _, e1, Dropped.consN (np4 _), ?_⟩
      subst e2
      obtain ⟨r0, ls, rfl, hls⟩ := hw.cons
      refine .augSub (V := fun v => ∃ j t, v = .int j t ∧ 0 ≤ j) (.tail _ (.tail _ (.tail _ (.head _)))) (.ifE (.plain (.ends (.pairName (fun n hn => l1_pair hn) (.head _)) .str rfl rfl ⟨_, rfl⟩) rfl) (fun _ => (Ev.sub (.pairLen (fun n hn => l1_pair hn) (by simp only [List.length_cons]; omega) (.head _)) .int).mono fun v ⟨t, e⟩ => ⟨_, t, e, by simp only [List.length_cons]; omega⟩) (fun _ => Ev.int.mono fun v ⟨t, e⟩ => ⟨_, t, e, by decide⟩)) rfl fun v ⟨j, t, e, hj⟩ => ⟨j, t, _, e, .drop _ _ _, ?_⟩
      exact .nil ⟨rfl, a, _, left - j, _, sub3 (mem_drop (.head _) (by kernel_rfl!)) (mem_drop (.tail _ (.tail _ (.head _))) (by kernel_rfl!)) (.head _) (fun q hq => mem_dropN (.tail _ (.tail _ (.tail _ (.tail _ hq)))) (nl q hq)), rfl, hw.pair, by omega, fun _ => ⟨g, rfl⟩⟩
    · -- alike
      refine .setT (.alike (.tail _ (.tail _ (.tail _ mf))) (.tail _ (.tail _ (.tail _ mn))) (hroom.le (by decide) (by decide))) rfl rfl fun v P' ⟨a, rs, e1, hw, e2⟩ => ⟨.r a, _, e1, Dropped.consN (np4 _), ?_⟩
      subst e2
      obtain ⟨r0, ls, rfl, hls⟩ := hw.cons
      refine .ifC (.in2 (.pairName (fun n hn => l1_pair hn) (.head _)) rfl rfl) (fun h => ?_) (fun h => ?_)
      · refine .setT (Ev.toT .int) rfl rfl fun v P' ⟨e1, e2⟩ => ⟨.i 2, _, e1, Dropped.drop _ _ _, ?_⟩
        subst e2
        refine .setT (Ev.toT (V := fun v => ∃ g, (Vl.s (Str.ofString (famPre g))).is v) (.ifE (.eqS (.pairName (fun n hn => l1_pair hn) (mem_drop (.head _) (by kernel_rfl!))) .str) (fun _ => Ev.str.mono fun v hv => ⟨true, hv⟩) (fun _ => Ev.str.mono fun v hv => ⟨false, hv⟩))) rfl rfl fun v P' ⟨⟨g, e1⟩, e2⟩ => ⟨.s (Str.ofString (famPre g)), _, e1, Dropped.drop _ _ _, ?_⟩
        subst e2
        refine .nilT (.nil ⟨rfl, a, _, 2, _, sub3 (mem_drop (mem_drop (.head _) (by kernel_rfl!)) (by kernel_rfl!)) (.head _) (mem_drop (.head _) (by kernel_rfl!)) (fun q hq => mem_dropN (mem_dropN (.tail _ (.tail _ (.tail _ (.tail _ hq)))) (nl q hq)) (nf q hq)), rfl, hw, by decide, fun _ => ⟨g, rfl⟩⟩)
      · exact .nilT (.nil ⟨rfl, a, _, left, fam, sub3 (.head _) (.tail _ (.tail _ (.head _))) (.tail _ (.tail _ (.tail _ (.head _)))) (fun q hq => .tail _ (.tail _ (.tail _ (.tail _ hq)))), rfl, hw, hl2, hfam⟩)
    · rintro l p ⟨a, rs, left', fam', hsub, rfl, hrs, hl2', hfam'⟩
      refine .weak hsub (fun n hn => ⟨n, hn, fun _ h => h⟩) (.append (.tail _ (.tail _ (.tail _ mp))) (.name (.head _) rfl rfl) (fun n hn => l1_append (by omega) hn) rfl rfl rfl ⟨_, rfl⟩ rfl rfl (.nil (hR ▸ ⟨_, _, ⟨pss ++ [rs], left', fam', rfl, rfl, by simp [hpl], ?_, hl2', hfam'⟩, fun p hp => .tail _ hp, fun n hn => l1_out hn⟩)))
      intro q hq
      rcases List.mem_append.mp hq with hq | hq
      · exact hps q hq
      · rw [List.mem_singleton.mp hq]; exact hrs
  · rintro l p ⟨pss, left, fam, rfl, rfl, hpl, hps, hl2, hfam⟩
    refine .appendT (.tail _ (.tail _ mp)) (fun n hn => ?_) (.last (hv := by rfl)) (fun v P1 ⟨a, e1, e2⟩ => ⟨FgT fa (L1B w sg pa (pss ++ [[.proceed, .execute 21]]) [] fun _ => True), fun n hn => ?_, ?_⟩) rfl rfl rfl ⟨_, rfl⟩ rfl rfl
    · obtain ⟨o, r, rfl, _, ⟨pvs, c, R, rfl, _⟩, _⟩ := hn
      exact ⟨pvs, c, .tail _ (.head _)⟩
    · subst e1 e2
      obtain ⟨vs, c, g, U, hz, hg⟩ := l1_append (by omega) hn
      exact ⟨vs, c, g, U, hz, hg _ rfl⟩
    clear e1 e2
    have hps' : ∀ q ∈ pss ++ [[Row.proceed, .execute 21]], Pair q := by
      intro q hq
      rcases List.mem_append.mp hq with hq | hq
      · exact hps q hq
      · rw [List.mem_singleton.mp hq]; exact .last
    have hpl' : (pss ++ [[Row.proceed, .execute 21]]).length ≤ 17 := by rw [List.length_append]; simp; omega
    generalize pss ++ [[Row.proceed, .execute 21]] = ps at *
    clear hps hpl hfam hl2
    have hwide : wide = 0 ∨ wide = 1 ∨ wide = 2 := by
      simp only [List.mem_cons, List.mem_nil_iff, or_false] at hw
      omega
    refine .at fun n hn => ?_
    obtain ⟨o, r, rfl, _, ⟨pvs, pc, R0, rfl, hsy, hpa, _⟩, _⟩ := hn
    refine ⟨fun n => n = (pa, listOf (List.toArray pvs) pc) :: R0, ⟨_, rfl, fun p hp => .tail _ hp⟩, ?_⟩
    refine .weak (lc' := [(Str.ofString "pairs", .r pa), (Str.ofString "wide", .i wide), (Str.ofString "signs", .r sg)]) (SubL.all (a := [(Str.ofString "pairs", .r pa), (Str.ofString "wide", .i wide), (Str.ofString "signs", .r sg)]) ⟨.tail _ (.tail _ mp), .tail _ (.tail _ mw), .tail _ (.tail _ ms), trivial⟩) (fun n hn => ⟨n, hn, fun _ h => h⟩) ?_
    clear mp mw mn ms mf nl nf nt np
    refine .setT (.make hwide (.tail _ (.tail _ (.head _))) (.tail _ (.head _)) (hroom.le (by decide) (by decide))) rfl rfl fun v P' ⟨x1, dx1, n0, k1, e1, hn0, ho1, e2⟩ => ⟨.r x1, _, e1, Dropped.cons (by kernel_rfl!), ?_⟩
    subst e2
    refine .setT (.make hwide (.tail _ (.tail _ (.tail _ (.head _)))) (.tail _ (.tail _ (.head _))) (hroom.le (by decide) (by decide))) rfl rfl fun v P' ⟨x2, dx2, n1, k2, e1, hC1, ho2, e2⟩ => ⟨.r x2, _, e1, Dropped.cons (by kernel_rfl!), ?_⟩
    subst e2
    refine .setT .list0 rfl rfl fun v P' ⟨ra, e1, e2⟩ => ⟨.r ra, _, e1, Dropped.cons (by kernel_rfl!), ?_⟩
    subst e2
    refine .setT .list0 rfl rfl fun v P' ⟨la, e1, e2⟩ => ⟨.r la, _, e1, Dropped.cons (by kernel_rfl!), ?_⟩
    subst e2
    refine .setT .list0 rfl rfl fun v P' ⟨ha, e1, e2⟩ => ⟨.r ha, _, e1, Dropped.cons (by kernel_rfl!), ?_⟩
    subst e2
    let A : LA := ⟨sg, x1, x2, ra, la, ha, pa, pvs, pc, ps⟩
    refine .weak (P' := L2P w A (CS.init (initXs wide)) (CS.init (initXs wide)) [] [] [] [] fun _ => True) (fun _ h => h) (fun n hn => l2_start (A := A) ⟨R0, hn0, hsy, hpa⟩ ho1 hC1 ho2 hn) ?_
    have hgood : (CS.init (initXs wide)).good := good_init (by rcases hwide with rfl | rfl | rfl <;> simp [initXs])
    have hcons : ∀ p ∈ ps, ∃ r l, p = r :: l := fun p hp => by obtain ⟨r, l, e, _⟩ := (hps' p hp).cons; exact ⟨r, l, e⟩
    -- the second loop
    generalize hL : [(Str.ofString "homes", Vl.r ha), (Str.ofString "likes", Vl.r la), (Str.ofString "rows", Vl.r ra), (Str.ofString "other", Vl.r x2), (Str.ofString "one", Vl.r x1), (Str.ofString "pairs", Vl.r pa), (Str.ofString "wide", Vl.i wide), (Str.ofString "signs", Vl.r sg)] = L8
    have mh : (Str.ofString "homes", Vl.r ha) ∈ L8 := hL ▸ .head _
    have ml : (Str.ofString "likes", Vl.r la) ∈ L8 := hL ▸ .tail _ (.head _)
    have mr : (Str.ofString "rows", Vl.r ra) ∈ L8 := hL ▸ .tail _ (.tail _ (.head _))
    have mo : (Str.ofString "other", Vl.r x2) ∈ L8 := hL ▸ .tail _ (.tail _ (.tail _ (.head _)))
    have m1 : (Str.ofString "one", Vl.r x1) ∈ L8 := hL ▸ .tail _ (.tail _ (.tail _ (.tail _ (.head _))))
    have mp : (Str.ofString "pairs", Vl.r pa) ∈ L8 := hL ▸ .tail _ (.tail _ (.tail _ (.tail _ (.tail _ (.head _)))))
    have mw : (Str.ofString "wide", Vl.i wide) ∈ L8 := hL ▸ .tail _ (.tail _ (.tail _ (.tail _ (.tail _ (.tail _ (.head _))))))
    have ms : (Str.ofString "signs", Vl.r sg) ∈ L8 := hL ▸ .tail _ (.tail _ (.tail _ (.tail _ (.tail _ (.tail _ (.tail _ (.head _)))))))
    have np : ∀ p ∈ L8, p.1 ≠ Str.ofString "pair" := hL ▸ nm_ok (by kernel_rfl!)
    have nq : ∀ a, ∀ p ∈ (Str.ofString "pair", Vl.r a) :: L8, p.1 ≠ Str.ofString "part" := fun a => hL ▸ nm_ok (by kernel_rfl!)
    have n1 : ∀ p ∈ L8, p.1 ≠ Str.ofString "place" := hL ▸ nm_ok (by kernel_rfl!)
    have n2 : ∀ z, ∀ p ∈ (Str.ofString "place", Vl.i z) :: L8, p.1 ≠ Str.ofString "there" := fun z => hL ▸ nm_ok (by kernel_rfl!)
    clear hL
    refine .forList (l := pa) (vs := pvs) (c := pc) (fun i l p => l = L8 ∧ ∃ S1 S2, p = L2P w A S1 S2 (heads (ps.take i)) (likes (ps.take i)) (homes 0 (ps.take i)) [] (fun _ => True) ∧ ((S1.bad = true ∧ S2.bad = true) ∨ S1 = S2) ∧ S1.good ∧ S2.good)
      (.name mp rfl rfl) ?_ rfl rfl (fun _ => rfl) ⟨rfl, _, _, rfl, .inr rfl, hgood, hgood⟩ ?_ ?_
    · rintro i l p ⟨_, S1, S2, rfl, _⟩ n hn
      obtain ⟨_, _, _, _, _, _, _, _, _, _, _, _, _, hm⟩ := l2_lists hn
      exact hm
    · rintro i v l p I it hv _ ⟨e9, S1, S2, rfl, hS, hg1, hg2⟩
      rw [e9]
      clear e9 l
      obtain ⟨rs, hrs, hpair⟩ := pairsAt_get hpa hv
      obtain ⟨a, rfl⟩ := pairAt_ref hpair
      have hmem : rs ∈ ps := List.mem_of_getElem? hrs
      obtain ⟨r0, ls, rfl, hls⟩ := (hps' rs hmem).cons
      have hpr := hps' _ hmem
      have hil : i < ps.length := (List.getElem?_eq_some_iff.mp hrs).1
      have hhl : (heads (ps.take i)).length = i := by
        rw [heads_len _ fun p hp => hcons p (List.mem_of_mem_take hp), List.length_take]; omega
      have hlk : (likes (ps.take i)).length ≤ 100 := by
        have := likes_len (ps.take i) fun p hp => (hps' p (List.mem_of_mem_take hp)).cons
        rw [List.length_take] at this; omega
      have hhm : (homes 0 (ps.take i)).length ≤ 100 := by rw [homes_len]; exact hlk
      refine ⟨.r a, _, rfl, .consN np, .weak (fun _ h => h) (fun n h => l2_in h) ?_⟩
      generalize hR : Turn Γ I it _ _ _ = R9
      refine .at fun n hn => ?_
      obtain ⟨c, v0, ws, hws, hwl, hn'⟩ := l2_open (a := a) (r0 := r0) (ls := ls) hn hv hrs
      refine ⟨_, ⟨n, hn', fun _ h => h⟩, ?_⟩
      clear hn hn'
      have hz0 : ∀ R, PairZ a c v0 ws r0 ls R → RowAt R v0 r0 := fun R h => h.2.1
      -- rows.append(pair[0])
      refine .append (.tail _ mr) (.pair0 (.head _)) (fun n hn => ?_) rfl rfl rfl ⟨_, rfl⟩ rfl rfl (P' := L2P w A S1 S2 (heads (ps.take i) ++ [r0]) (likes (ps.take i)) (homes 0 (ps.take i)) [(I, it)] (PairZ a c v0 ws r0 ls)) ?_
      · obtain ⟨vs, c', g, U, h1, h2⟩ := l2_addR hz0 (by omega) hn
        exact ⟨vs, c', g, U, h1, fun v e => e ▸ h2⟩
      -- for part in pair[1:]: likes.append(part); homes.append(len(rows) - 1)
      refine .forListT (.pair1 (.head _) (by omega)) rfl rfl (fun _ => rfl) ?_
      rintro v P' ⟨l, rfl, rfl⟩
      refine ⟨l, ws, 0, fun j l' p => l' = (Str.ofString "pair", .r a) :: L8 ∧ p = L2P w A S1 S2 (heads (ps.take i) ++ [r0]) (likes (ps.take i) ++ ls.take j) (homes 0 (ps.take i) ++ List.replicate j (i : Int)) [(l, listOf (List.toArray ws) 0), (I, it)] (PairZ a c v0 ws r0 ls), rfl, ?_, ⟨rfl, by simp⟩, ?_, ?_⟩
      · rintro j l' p ⟨rfl, rfl⟩ n hn
        exact l2_x hn _ (.head _)
      · rintro j v l' p I2 it2 hj _ ⟨rfl, rfl⟩
        obtain ⟨b, r, rfl, hr⟩ := hws j v hj
        have hjl : j < ls.length := (List.getElem?_eq_some_iff.mp hr).1
        refine ⟨.r b, _, rfl, .consN (nq a), .weak (fun _ h => h) (fun n h => l2_in h) ?_⟩
        refine .append (.tail _ (.tail _ ml)) (.name (.head _) rfl rfl) (fun n hn => ?_) rfl rfl rfl ⟨_, rfl⟩ rfl rfl (P' := L2P w A S1 S2 (heads (ps.take i) ++ [r0]) (likes (ps.take i) ++ ls.take (j + 1)) (homes 0 (ps.take i) ++ List.replicate j (i : Int)) [(I2, it2), (l, listOf (List.toArray ws) 0), (I, it)] (PairZ a c v0 ws r0 ls)) ?_
        · obtain ⟨vs, c', g, U, h1, h2⟩ := l2_addL (pairZ_at hj hr) (by rw [List.length_append, List.length_take]; omega) hn
          rw [List.append_assoc, ← take_at hr] at h2
          refine ⟨vs, c', g, U, h1, fun v e => ?_⟩
          have e' : v = .ref b := e
          subst e'
          exact h2
        have e1 : (((heads (ps.take i) ++ [r0]).length : Nat) : Int) - 1 = (i : Int) := by rw [List.length_append, hhl]; simp
        refine .append (.tail _ (.tail _ mh)) (.ofEq e1 (.sub (.lenRows (.tail _ (.tail _ mr)) (by rw [List.length_append, hhl, List.length_singleton]; omega)) .int)) (fun n hn => ?_) rfl rfl rfl ⟨_, rfl⟩ rfl rfl (P' := L2P w A S1 S2 (heads (ps.take i) ++ [r0]) (likes (ps.take i) ++ ls.take (j + 1)) (homes 0 (ps.take i) ++ List.replicate (j + 1) (i : Int)) [(I2, it2), (l, listOf (List.toArray ws) 0), (I, it)] (PairZ a c v0 ws r0 ls)) ?_
        · obtain ⟨vs, c', g, U, h1, h2⟩ := l2_addH (i := (i : Int)) (by rw [List.length_append, List.length_replicate]; omega) hn
          simp only [List.append_assoc, ← List.replicate_succ'] at h2
          exact ⟨vs, c', g, U, h1, h2⟩
        exact .nil ⟨_, _, ⟨rfl, rfl⟩, fun p hp => .tail _ hp, fun n hn => l2_less hn⟩
      · rintro l' p ⟨rfl, rfl⟩
        rw [hwl, List.take_length, ← heads_succ hrs, ← likes_succ hrs, ← homes_succ hrs]
        refine .weak (fun _ h => h) (fun n hn => l2_drop hn) ?_
        have hwf : ∀ r ∈ r0 :: ls, r.wf ∧ r.rok := fun r hr => ⟨(pair_wf hpr r hr).1, pairAt_rok hpair r hr⟩
        -- if one.fault == '' and (not one.ended)
        refine .ifJ (fun l p => l = (Str.ofString "pair", .r a) :: L8 ∧ ∃ S1 S2, p = L2P w A S1 S2 (heads (ps.take (i + 1))) (likes (ps.take (i + 1))) (homes 0 (ps.take (i + 1))) [(I, it)] (PairZ a c v0 ws r0 ls) ∧ ((S1.bad = true ∧ S2.bad = true) ∨ S1 = S2) ∧ S1.good ∧ S2.good)
          (.row (.and (.faultP (.tail _ m1) l2_ck1 rfl rfl) fun _ => .and (.not (.plain (.endedP (.tail _ m1) l2_ck1 rfl rfl) rfl)) fun _ => .and0)) (fun h => ?_) (fun h => ?_) ?_
        · have hb : S1.bad = false := by cases hb : S1.bad <;> simp_all
          have hS' : S1 = S2 := hS.resolve_left fun h => by rw [hb] at h; exact absurd h.1 (by decide)
          subst hS'
          refine .exprT (.callM (m_step w) (.name (.tail _ m1) rfl rfl) (inst_of l2_ck1 (by intros; rfl)) (.cons (.pair0 (.head _)) .nil rfl) rfl rfl ⟨_, rfl⟩ (fun vs hv n hn => by
            obtain ⟨v, r, rfl, rfl, rfl⟩ := hv
            exact step1_l2 hz0 (hwf _ (.head _)).1 hg1 n hn) (hroom.le (by decide) (by decide))) rfl rfl fun v P' e => ?_
          subst e
          refine .forListT (.pair1 (.head _) (by omega)) rfl rfl (fun _ => rfl) ?_
          rintro v P' ⟨l, rfl, rfl⟩
          have hrun : ∀ j, (S1.run (ls.take j)).good := fun j => good_run _ _ hg1 fun r hr => (hwf r (.tail _ (List.mem_of_mem_take hr))).2
          refine ⟨l, ws, 0, fun j l' p => l' = (Str.ofString "pair", .r a) :: L8 ∧ p = L2P w A (S1.step r0) (S1.run (ls.take j)) (heads (ps.take (i + 1))) (likes (ps.take (i + 1))) (homes 0 (ps.take (i + 1))) [(l, listOf (List.toArray ws) 0), (I, it)] (PairZ a c v0 ws r0 ls), rfl, ?_, ⟨rfl, rfl⟩, ?_, ?_⟩
          · rintro j l' p ⟨rfl, rfl⟩ n hn
            exact l2_x hn _ (.head _)
          · rintro j v l' p I2 it2 hj _ ⟨rfl, rfl⟩
            obtain ⟨b, r, rfl, hr⟩ := hws j v hj
            have hrm : r ∈ r0 :: ls := .tail _ (List.mem_of_getElem? hr)
            refine ⟨.r b, _, rfl, .consN (nq a), .weak (fun _ h => h) (fun n h => l2_in h) ?_⟩
            refine .exprT (.callM (m_step w) (.name (.tail _ (.tail _ mo)) rfl rfl) (inst_of l2_ck2 (by intros; rfl)) (.cons (.name (.head _) rfl rfl) .nil rfl) rfl rfl ⟨_, rfl⟩ (fun vs hv n hn => by
              obtain ⟨v, r', rfl, e, rfl⟩ := hv
              have e' : v = .ref b := e
              subst e'
              exact step2_l2 (pairZ_at hj hr) (hwf r hrm).1 (hrun j) n hn) (hroom.le (by decide) (by decide))) rfl rfl fun v P' e => ?_
            subst e
            have e2 : (S1.run (ls.take j)).step r = S1.run (ls.take (j + 1)) := by
              unfold CS.run; rw [take_at hr, List.foldl_append]; rfl
            rw [e2]
            exact .nil ⟨_, _, ⟨rfl, rfl⟩, fun p hp => .tail _ hp, fun n hn => l2_less hn⟩
          · rintro l' p ⟨rfl, rfl⟩
            rw [hwl, List.take_length]
            refine .weak (fun _ h => h) (fun n hn => l2_drop hn) (.nil ⟨rfl, rfl, _, _, rfl, pair_same hpr S1, good_step hg1 (hwf _ (.head _)).2, ?_⟩)
            have := hrun ls.length
            rw [List.take_length] at this; exact this
        · exact .nil ⟨rfl, rfl, _, _, rfl, hS, hg1, hg2⟩
        rintro l p ⟨rfl, S1', S2', rfl, hS', hg1', hg2'⟩
        refine .ifF (.row (.or (.neB (.faultP (.tail _ m1) l2_ck1 rfl rfl) (.faultP (.tail _ mo) l2_ck2 rfl rfl)) fun _ => .or (.row (.and (.faultP (.tail _ m1) l2_ck1 rfl rfl) fun _ => .and (.neB (.endedP (.tail _ m1) l2_ck1 rfl rfl) (.endedP (.tail _ mo) l2_ck2 rfl rfl)) fun _ => .and0)) fun _ => .or0)) (no_split S1' S2' hS') ?_
        refine .nilT (.nil (hR ▸ ⟨_, _, ⟨rfl, S1', S2', rfl, hS', hg1', hg2'⟩, fun p hp => .tail _ hp, fun n hn => l2_out hn⟩))
    · rintro l p ⟨e9, S1, S2, rfl, _⟩
      rw [e9]
      clear e9 l
      have hpl : ps.take pvs.length = ps := by rw [pairsAt_len hpa, List.take_length]
      rw [hpl]
      have hhl : (heads ps).length = ps.length := heads_len ps hcons
      have hlk : (likes ps).length ≤ 51 := by
        have := likes_len ps fun p hp => (hps' p hp).cons
        omega
      have hwf : ∀ p ∈ ps, ∀ r ∈ p, r.wf ∧ r.ck := fun p hp => pair_wf (hps' p hp)
      have hwf1 : ∀ r ∈ heads ps, r.wf ∧ r.ck := fun r hr => by
        obtain ⟨p, hp, h⟩ := List.mem_flatMap.mp hr
        obtain ⟨r0, l, rfl⟩ := hcons p hp
        simp only [List.head?_cons, Option.toList_some, List.mem_singleton] at h
        subst h
        exact hwf _ hp _ (.head _)
      have hwf2 : ∀ r ∈ likes ps, r.wf ∧ r.ck := fun r hr => by
        obtain ⟨p, hp, h⟩ := List.mem_flatMap.mp hr
        exact hwf _ hp _ (List.mem_of_mem_tail h)
      -- homes.append(len(rows))
      refine .append mh (.lenRows mr (by omega)) (fun n hn => ?_) rfl rfl rfl ⟨_, rfl⟩ rfl rfl (P' := L2P w A S1 S2 (heads ps) (likes ps) (homes 0 ps ++ [((heads ps).length : Int)]) [] fun _ => True) ?_
      · exact l2_addH (by rw [homes_len]; omega) hn
      -- place, there
      refine .set (vl := .i (placeOf (cf (CS.init (initXs wide)) 0 (heads ps)))) (.place (A := A) hwide (fun n hn => ?_) hwf1 (by omega) ms mw mr (hroom.le (by decide) (by decide))) n1 rfl rfl ?_
      · obtain ⟨rvs, lvs, hvs, c1, c2, c3, h1, _, _, h2, _, _, h3, _⟩ := l2_lists hn
        exact ⟨rvs, c1, h1, h2, h3⟩
      refine .set (vl := .i (placeOf (cf (CS.init (initXs wide)) 0 (likes ps)))) (.place (A := A) hwide (fun n hn => ?_) hwf2 (by omega) (.tail _ ms) (.tail _ mw) (.tail _ ml) (hroom.le (by decide) (by decide))) (n2 _) rfl rfl ?_
      · obtain ⟨rvs, lvs, hvs, c1, c2, c3, _, h1, _, _, h2, _, h3, _⟩ := l2_lists hn
        exact ⟨lvs, c2, h1, h2, h3⟩
      rcases cf_pairs ps hps' (CS.init (initXs wide)) rfl 0 0 with ⟨e1, e2⟩ | ⟨p, t, e1, e2, e3⟩
      · rw [e1, e2]
        exact .ifT (.row (.or (.lt (.name (.tail _ (.head _)) rfl rfl) .int) fun _ => .or (.lt (.name (.head _) rfl rfl) .int) fun _ => .or0)) (by decide) (.ret (.eqI (.name (.tail _ (.head _)) rfl rfl) (.name (.head _) rfl rfl)) fun v hv => by
          have hv' : v = .bool ((-1 : Int) == -1) := hv
          rw [hv']; rfl)
      · rw [e1, e2]
        have ht : t ≤ 60 := by have := cf_le _ _ _ _ e2; omega
        rw [Nat.zero_add] at e2 e3
        rw [Nat.zero_add]
        refine .ifF (.row (.or (.lt (.name (.tail _ (.head _)) rfl rfl) .int) fun _ => .or (.lt (.name (.head _) rfl rfl) .int) fun _ => .or0)) ?_ (.nilT (.ret (.eqI (.home (A := A) (t := t) (v := (p : Int)) (.tail _ (.tail _ mh)) (.head _) (by rw [hhl]; exact e3) (by omega)) (.name (.tail _ (.head _)) rfl rfl)) fun v hv => ?_))
        · have h1 : decide (placeOf (some p) < 0) = false := decide_eq_false (show ¬ ((p : Int) < 0) by omega)
          have h2 : decide (placeOf (some t) < 0) = false := decide_eq_false (show ¬ ((t : Int) < 0) by omega)
          rw [h1, h2]; rfl
        · have hv' : v = .bool ((p : Int) == (p : Int)) := hv
          rw [hv', beq_self_eq_true])
end Mine
end

theorem PySem.Challenge.cw_sa0151_01_holds : PySem.Challenge.rw_sa0151_01.Holds :=
  Mine.law_t
