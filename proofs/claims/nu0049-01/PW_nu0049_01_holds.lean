import PyProof.Rows.All
import Wide.All
import OpenK.AllK
import Wide.FinOn
import PySem.Challenge.RW_nu0049_01
open PySem PySem.W PyProof.Rows
set_option Elab.async false
set_option maxRecDepth 100000
set_option maxHeartbeats 2000000
set_option compiler.extract_closed false
namespace Mine
open PySem.Calls
open_top hd for PySem.Challenge.rw_nu0049_01

noncomputable abbrev MM (w : World) : Model := model PySem.Challenge.rw_nu0049_01.row.prog w
abbrev Kp (h h' : Heap) : Prop := ∀ b o, h.get? b = some o → h'.get? b = some o

/-- what stands at the top, in a heap -/
structure Amb (w : World) (h : Heap) : Prop where
  X : (Mine.hd.heap_39 w.params).In h
  T : ∃ mg mb, TopRead Mine.hd.view_39 (looseW Mine.hd.view_39 []) mg mb h
theorem Amb.keeps {w h h'} (a : Amb w h) (k : Kp h h') : Amb w h' := ⟨a.X.keeps k, let ⟨mg, mb, T⟩ := a.T; ⟨mg, mb, T.keeps k⟩⟩

/-- room for n calls more -/
structure Ok (A : Around) (n : Nat) : Prop where
  h : A.handled = none
  d : A.depth + n < recursionLimit
  u : A.units + 64 + 8 * n < cLine
theorem Ok.deeper {A n} (a : Ok A (n + 1)) (env : Env) : Ok (A.deeper env) n := ⟨a.h, by have := a.d; simp only [depth_deeper]; omega, by have := a.u; simp only [Around.deeper_units]; omega⟩
theorem Ok.in1 {A n} (a : Ok A (n + 1)) : Ok A.in1 n := ⟨a.h, by have := a.d; simp only [Around.in1_depth]; omega, by have := a.u; simp only [Around.in1_units]; omega⟩
theorem Ok.le {A n k} (a : Ok A n) (h : k ≤ n) : Ok A k := ⟨a.h, by have := a.d; omega, by have := a.u; omega⟩
theorem Ok.room {A n} (a : Ok A n) : A.depth < recursionLimit := by have := a.d; omega
theorem Ok.units {A n} (a : Ok A n) : A.units + 64 < cLine := by have := a.u; omega

/-- what a call gives back: a value and a heap that keeps all -/
abbrev Rets (R : Result → Shared → Prop) (s : Shared) (P : Value → Heap → Prop) : Prop :=
  ∀ v h' t', Kp s.heap h' → P v h' → R (.ok (.ret v)) ⟨h', s.gens, s.drawn, t', s.os⟩

theorem enter {w : World} {A : Around} {s : Shared} {K : Frag} {p : Program} {loose : List Str} {mg mb : Str → Option Value}
    {R : Result → Shared → Prop} {name qual : Str} {params : Arguments} {body : List Stmt} {scope : Scope} {dV kV doc pm cdv ct oc : Value} {an od : Option Addr} {osl : Array (Option Value)} {f : Addr} {args : Args} {binds : List (Str × Value)}
    (X : K.In s.heap) (T : TopRead p loose mg mb s.heap) {n : Nat} (ok : Ok A (n + 1))
    (ho : K.lookup f = some ⟨oc, od, .func (fnOf name qual params body scope dV kV doc pm an cdv ct), osl⟩) (hcd : codeIn K cdv qual = true)
    (hbind : BindsTo s (fnOf name qual params body scope dV kV doc pm an cdv ct) args binds) (hloc : ∀ y ∈ binds, scope.names.lookup y.1 = some .local)
    (h : ∀ L h₁ t₁ (Q : Flow → Shared → Prop), Ok (A.deeper (envOf qual scope L f cdv)) n → Fr s.heap L h₁ (fun y => binds.reverse.lookup y) → News s.heap L h₁ [] →
      (∀ v s', R (.ok (.ret v)) s' → Q (.ret v) s') → (∀ s', R (.ok (.ret .none)) s' → Q .next s') →
      wpAny (MM w) (A.deeper (envOf qual scope L f cdv)) (execs body (envOf qual scope L f cdv)) Q (fun _ _ => False)
        ⟨h₁, s.gens, s.drawn, t₁, s.os⟩)
    (hcell : ∀ x ∈ scope.names, x.2 ≠ .cell)
    (hco : scope.isCoroutine = false) (hgen : scope.isGenerator = false) (hk : scope.kind = .function) : codeAny (MM w) A (.call (.ref f) args) R s := by
  refine codeAny_call_def (fd := fnOf name qual params body scope dV kV doc pm an cdv ct) (body := body) (binds := binds) ok.room (X _ _ ho) rfl T.nolimit (codeRec_of X hcd) rfl hbind hcell hloc (fun h₁ hns hk₁ => ?_) hco hgen hk
  exact wpAny_mono (h _ h₁ _ (fun fl s' => R (.ok (.ret (match fl with | .ret v => v | _ => .none))) s') (ok.deeper _) ⟨hns, hk₁, Nat.le_refl _⟩ News.nil (fun _ _ x => x) (fun _ x => x)) (fun _ _ x => x) (fun _ _ x => x.elim)

/-- a call by its contract -/
theorem callP {w : World} {A : Around} {s : Shared} {f : Addr} {args : List Value} {h₀ : Heap} {L : Addr} {m : Str → Option Value} {news : List (Addr × Obj)} {P : Value → Heap → Prop} {Q : Value → Shared → Prop} {E : Value → Shared → Prop}
    (F : Fr h₀ L s.heap m) (N : News h₀ L s.heap news)
    (C : ∀ R, Rets R s P → codeAny (MM w) A (.call (.ref f) ⟨args, []⟩) R s)
    (h : ∀ v h' t', Kp s.heap h' → P v h' → Fr h₀ L h' m → News h₀ L h' news → Q v ⟨h', s.gens, s.drawn, t', s.os⟩) :
    wpAny (MM w) A (PySem.call (.ref f) args) Q E s :=
  wpAny_call (C _ fun v h' t' k p => h v h' t' k p (F.keeps k) (N.grown k))

theorem look_ne {z x : Str} {a b r : Option Value} (h : z ≠ x) (h2 : b = r) : (if z = x then a else b) = r := by rw [if_neg h]; exact h2
theorem look_eq {z x : Str} {a b : Option Value} (h : z = x) : (if z = x then a else b) = a := by rw [if_pos h]

--MACROS
local macro_rules | `(tactic| walk_at "FN") => `(tactic| ((case F => with_reducible assumption); (case N => with_reducible assumption)))
local macro_rules | `(tactic| walk_at "KFN") => `(tactic| ((case F => k_asm); (case N => k_asm)))
local macro_rules | `(tactic| walk_at "LOOK") => `(tactic| first | with_reducible assumption | (refine look_eq ?_; with_reducible rfl) | (refine look_ne (by decide +kernel) ?_; (try dsimp only); walk_at "LOOK") | exact rfl)
theorem fillXX (w : World) (h : Heap) : (Mine.hd.heap_39 w.params).In h → PySem.Challenge.rw_nu0049_01 = PySem.Challenge.rw_nu0049_01 := by
  k_fill
  intro _; rfl
local macro_rules | `(tactic| walk_at "ENTER") => `(tactic| (
  (case k6 => k_is)
  (case k7 => k_is)
  (case c6 => exact rfl)
  (case c7 => exact rfl)
  (case c8 => exact rfl)
  (case k9 => exact BindsTo.of_eq rfl)
  (case kB => exact locs rfl)
  (case c5 => decide)))
local macro_rules | `(tactic| walk_at "GUARD") => `(tactic| ((fail_if_success (with_reducible show wpAny _ _ (pyIter _) _ _ _)); (fail_if_success (with_reducible show wpAny _ _ (exec (Stmt.While _ _ _ _) _) _ _ _)); (fail_if_success (with_reducible show wpAny _ _ (eval (PySem.Expr.ListComp _ _ _ _) _) _ _ _)); (fail_if_success (with_reducible show wpAny _ _ (exec (Stmt.Assign _ (PySem.Expr.ListComp _ _ _ _) _) _) _ _ _))))
local macro_rules | `(tactic| walk_at "STEP") => `(tactic| (walk_at "GUARD"; walk1))
local macro_rules | `(tactic| walk_at "GO") => `(tactic| repeat' (first | walk_at "STEP" | (dsimp only; walk_at "STEP") | fail "no step"))
local macro_rules | `(tactic| walk_at "STEPA") => `(tactic| ((fail_if_success (with_reducible show wpAny _ _ (PySem.call (Value.builtin "list.append") _) _ _ _)); (fail_if_success (with_reducible show wpAny _ _ (newList _) _ _ _)); walk_at "GUARD"; walk1))
local macro_rules | `(tactic| walk_at "GOA") => `(tactic| repeat' (first | walk_at "STEPA" | (dsimp only; walk_at "STEPA") | fail "no step"))
local macro_rules | `(tactic| walk_at "OK") => `(tactic| first | assumption | (refine Ok.le (n := ?n) ?h ?le; (case h => assumption); (case le => decide)) | (refine Ok.le (n := ?n) (Ok.in1 (n := ?n) ?h) ?le; (case h => assumption); (case le => decide)))
local macro_rules | `(tactic| walk_at "AMB") => `(tactic| exact Amb.keeps ‹_› (Fr.keep (by with_reducible assumption)))
--END

def sgn (a b : Int) : Int := if a < b then -1 else if b < a then 1 else 0
def sgnL (a b : List Nat) : Int := if a < b then -1 else if b < a then 1 else 0

theorem sign_of_ints {w : World} {A : Around} {R : Result → Shared → Prop} {s : Shared} {a b : Int} {ta tb : Tok}
   (a0 : Amb w s.heap) (ok : Ok A 1)
   (hret : Rets R s fun v _ => ∃ u, v = .int (sgn a b) u) :
   codeAny (MM w) A (.call (.ref 43) ⟨[.int a ta, .int b tb], []⟩) R s := by
  have X := a0.X
  obtain ⟨mg, mb, T⟩ := a0.T
  w_on
  refine' enter (binds := [("one", .int a ta), ("other", .int b tb)]) X T ok ?k6 ?k7 ?k9 ?kB ?_ ?c5 ?c6 ?c7 ?c8
  walk_at "ENTER"
  intro L h' t₁ Q okd F N hQ hQn
  walk_at "GO"
  all_goals (refine hQ _ _ (hret _ _ _ F.keep ?_); refine ⟨_, congrArg (Value.int · _) ?_⟩; unfold sgn; simp only [*, if_true, if_false])

theorem sign_of_strs {w : World} {A : Around} {R : Result → Shared → Prop} {s : Shared} {a b : Str} {ta tb : Tok}
   (a0 : Amb w s.heap) (ok : Ok A 1)
   (hret : Rets R s fun v _ => ∃ u, v = .int (sgnL a.cps.toList b.cps.toList) u) :
   codeAny (MM w) A (.call (.ref 43) ⟨[.str a ta, .str b tb], []⟩) R s := by
  have X := a0.X
  obtain ⟨mg, mb, T⟩ := a0.T
  w_on
  refine' enter (binds := [("one", .str a ta), ("other", .str b tb)]) X T ok ?k6 ?k7 ?k9 ?kB ?_ ?c5 ?c6 ?c7 ?c8
  walk_at "ENTER"
  intro L h' t₁ Q okd F N hQ hQn
  walk_at "GO"
  all_goals (refine hQ _ _ (hret _ _ _ F.keep ?_); refine ⟨_, congrArg (Value.int · _) ?_⟩; unfold sgnL; simp only [*, if_true, if_false])

--MACROS
local macro_rules | `(tactic| walk_at "CPT") => `(tactic| (rintro v2 h2 t2 k2 ⟨u2, e2⟩ F2 N2; subst e2; (try k_sweep)))
local macro_rules | `(tactic| walk_at "call ref") => `(tactic| k_dflt ((refine callP (by with_reducible assumption) (by with_reducible assumption) (fun R hr => sign_of_ints (by walk_at "AMB") (by walk_at "OK") hr) ?_); walk_at "CPT"))
local macro_rules | `(tactic| walk_at "call ref") => `(tactic| k_dflt ((refine callP (by with_reducible assumption) (by with_reducible assumption) (fun R hr => sign_of_strs (by walk_at "AMB") (by walk_at "OK") hr) ?_); walk_at "CPT"))
--END

--MACROS
local macro_rules | `(tactic| walk_at "compareOp Eq ref ref") => `(tactic| k_dflt (refine eq_dataH (by ke_read) (by ke_read) (by ke_shaped) (by ke_shaped) (Ok.units ‹_›) ?_))
local macro_rules | `(tactic| walk_at "compareOp NotEq ref ref") => `(tactic| k_dflt (refine ne_dataH (by ke_read) (by ke_read) (by ke_shaped) (by ke_shaped) (Ok.units ‹_›) ?_))
local macro_rules | `(tactic| walk_at "binaryOp Mult int int") => `(tactic| k_dflt (refine PyProof.Rows.mul_int ?_ (IntMulOk.of_left (intBits_le_64 (by omega) (by omega)))))
local macro_rules | `(tactic| walk_at "subscriptTail Name Constant ref int") => `(tactic| k_dflt (refine' item_tupleT (Fr.tup (by with_reducible assumption) ?t) ?a ?b ?c ?d ?_ ?e; (case t => assumption); (case a => decide); (case b => decide); (case c => rfl); (case d => rfl); (case e => with_unfolding_all rfl); k_whole))
--END
def b2i (p : Prop) [Decidable p] : Int := if p then 1 else 0
def cmpN (x y x' y' : Int) : Int :=
  if (x = 0 ∧ y = 0) ∨ (x' = 0 ∧ y' = 0) then sgn (b2i (¬ (x = 0 ∧ y = 0))) (b2i (¬ (x' = 0 ∧ y' = 0)))
  else if y = 0 ∧ y' = 0 then sgn x x' else sgn (x * y') (x' * y)

theorem eqv_pair (x y x' y' : Int) : PyData.eqv (.tuple [.int x, .int y]) (.tuple [.int x', .int y']) = decide (x = x' ∧ y = y') := by
  simp only [PyData.eqv, PyData.eqvAll, Bool.and_true, Bool.decide_and]; rfl

theorem nums_cmp {w : World} {A : Around} {R : Result → Shared → Prop} {s : Shared} {a b : Addr} {x y x' y' : Int} {tx ty tx' ty' : Tok}
   (a0 : Amb w s.heap) (ok : Ok A 2) (ra : Reads s.heap (.ref a) (.tuple [.int x, .int y]) []) (rb : Reads s.heap (.ref b) (.tuple [.int x', .int y']) [])
   (ta : IsTup s.heap a [.int x tx, .int y ty].toArray) (tb : IsTup s.heap b [.int x' tx', .int y' ty'].toArray)
   (hx : -100 ≤ x) (hx2 : x ≤ 100) (hy : -100 ≤ x') (hy2 : x' ≤ 100)
   (hret : Rets R s fun v _ => ∃ u, v = .int (cmpN x y x' y') u) :
   codeAny (MM w) A (.call (.ref 50) ⟨[.ref a, .ref b], []⟩) R s := by
  have X := a0.X
  obtain ⟨mg, mb, T⟩ := a0.T
  w_on
  refine' enter (binds := [("one", .ref a), ("other", .ref b)]) X T ok ?k6 ?k7 ?k9 ?kB ?_ ?c5 ?c6 ?c7 ?c8
  walk_at "ENTER"
  intro L h' t₁ Q okd F N hQ hQn
  walk_at "GO"
  all_goals (refine hQ _ _ (hret _ _ _ (Fr.keep (by assumption)) ⟨_, congrArg (Value.int · _) ?_⟩))
  all_goals (clear hret hQ hQn X T okd ra rb ta tb; simp only [eqv_pair, decide_eq_true_eq, decide_eq_false_iff_not, beq_iff_eq, beq_eq_false_iff_ne, ne_eq] at *; unfold cmpN)
  all_goals (by_cases p : x = 0 ∧ y = 0 <;> by_cases q : x' = 0 ∧ y' = 0 <;> by_cases r : y = 0 ∧ y' = 0 <;> simp_all [b2i])

def ufV : Option Bool → Value
  | none => .none
  | some b => .bool b

noncomputable def cmpT (uf : Option Bool) (a b : Str) : Int := match uf with
  | none => sgnL a.cps.toList b.cps.toList
  | some up => if sgnL (Txt.lower a).cps.toList (Txt.lower b).cps.toList ≠ 0 ∨ a = b then sgnL (Txt.lower a).cps.toList (Txt.lower b).cps.toList
    else if up = true then sgnL a.cps.toList b.cps.toList else sgnL b.cps.toList a.cps.toList

theorem texts_cmp {w : World} {A : Around} {R : Result → Shared → Prop} {s : Shared} {a b : Str} {ta tb : Tok} {uf : Option Bool}
   (a0 : Amb w s.heap) (ok : Ok A 3) (ha : a.length ≤ 100) (hb : b.length ≤ 100)
   (hret : Rets R s fun v _ => ∃ u, v = .int (cmpT uf a b) u) :
   codeAny (MM w) A (.call (.ref 57) ⟨[.str a ta, .str b tb, ufV uf], []⟩) R s := by
  have X := a0.X
  obtain ⟨mg, mb, T⟩ := a0.T
  w_on
  refine' enter (binds := [("one", .str a ta), ("other", .str b tb), ("upper_first", ufV uf)]) X T ok ?k6 ?k7 ?k9 ?kB ?_ ?c5 ?c6 ?c7 ?c8
  walk_at "ENTER"
  intro L h' t₁ Q okd F N hQ hQn
  rcases uf with _ | _ | _ <;> dsimp only [ufV] at F
  all_goals (walk_at "GO")
  all_goals (try dsimp only)
  all_goals (refine hQ _ _ (hret _ _ _ (Fr.keep (by assumption)) ⟨_, congrArg (Value.int · _) ?_⟩))
  all_goals (clear hret hQ hQn X T okd; unfold cmpT; simp_all)

inductive Val where
  | num (x y : Int)
  | txt (s : Str)
structure Ord where
  num : Bool
  down : Bool
  up : Option Bool

def texts : List Str := ["", "a", "A", "ab", "aB", "AB", "b", "Ba"]
/-- the fractions that the law draws (or a few more) -/
def NumOk (x y : Int) : Prop := -7 ≤ x ∧ x ≤ 7 ∧ 0 ≤ y ∧ y ≤ 3 ∧ (y = 0 → -1 ≤ x ∧ x ≤ 1)
def ValOk (isNum : Bool) : Val → Prop
  | .num x y => isNum = true ∧ NumOk x y
  | .txt s => isNum = false ∧ s ∈ texts
def ValAt (h : Heap) (v : Value) : Val → Prop
  | .num x y => ∃ a tx ty, v = .ref a ∧ IsTup h a [.int x tx, .int y ty].toArray
  | .txt s => ∃ t, v = .str s t
theorem ValAt.keeps {h h' : Heap} {v : Value} {d : Val} (x : ValAt h v d) (k : Kp h h') : ValAt h' v d := by
  cases d with
  | num x y => obtain ⟨a, tx, ty, e, t⟩ := x; exact ⟨a, tx, ty, e, t.keeps k⟩
  | txt s => exact x
theorem reads_pair {h : Heap} {a : Addr} {x y : Int} {tx ty : Tok} (t : IsTup h a [.int x tx, .int y ty].toArray) : Reads h (.ref a) (.tuple [.int x, .int y]) [] := by
  obtain ⟨o, ho, hc, n, hd⟩ := t
  exact .tuple ho hc hd (readsAll_cons_val (.int _ _) (readsAll_cons_val (.int _ _) .nil))
theorem texts_len {s : Str} (h : s ∈ texts) : s.length ≤ 100 := by
  have : texts.all (fun s => decide (s.length ≤ 100)) = true := by decide +kernel
  exact of_decide_eq_true (List.all_eq_true.mp this s h)

/-- an object of the class Order -/
def OrdAt (h : Heap) (a : Addr) (o : Ord) : Prop :=
  ∃ dx n h1 h2 h3 t1 t2 t3, h.get? a = some (instObj 32 dx) ∧ h.get? dx = some (dictOf [⟨h1, .str "is_number" t1, .bool o.num⟩, ⟨h2, .str "is_descending" t2, .bool o.down⟩, ⟨h3, .str "upper_first" t3, ufV o.up⟩] n)
theorem OrdAt.keeps {h h' : Heap} {a : Addr} {o : Ord} (x : OrdAt h a o) (k : Kp h h') : OrdAt h' a o := by
  obtain ⟨dx, n, h1, h2, h3, t1, t2, t3, e1, e2⟩ := x
  exact ⟨dx, n, h1, h2, h3, t1, t2, t3, k _ _ e1, k _ _ e2⟩
theorem InstAt.keepsM {h h' : Heap} {x C : Addr} {ox : Obj} {od : Option Obj} (i : InstAt h x ox C od) (k : Kp h h') : InstAt h' x ox C od := by
  refine ⟨k _ _ i.at_, i.cls, i.no, ?_⟩
  have := i.dict
  cases hd : ox.dict <;> cases od <;> simp_all

noncomputable def cmpV (o : Ord) : Val → Val → Int
  | .num x y, .num x' y' => if o.down = true then - cmpN x y x' y' else cmpN x y x' y'
  | .txt a, .txt b => if o.down = true then - cmpT o.up a b else cmpT o.up a b
  | _, _ => 0

theorem handed_uf (u : Option Bool) : handedIn (ufV u) = true := by rcases u with _ | _ <;> rfl
--MACROS
local macro_rules | `(tactic| k_inst) => `(tactic| exact InstAt.keepsM ‹_› (Fr.keep (by with_reducible assumption)))
local macro_rules | `(tactic| k_handed) => `(tactic| exact handed_uf _)
local macro_rules | `(tactic| walk_at "call ref") => `(tactic| k_dflt ((refine callP (by with_reducible assumption) (by with_reducible assumption) (fun R hr => nums_cmp (by walk_at "AMB") (by walk_at "OK") (by exact Reads.keeps (Fr.keep ‹_›) ‹_›) (by exact Reads.keeps (Fr.keep ‹_›) ‹_›) (by exact IsTup.keeps ‹_› (Fr.keep ‹_›)) (by exact IsTup.keeps ‹_› (Fr.keep ‹_›)) ‹_› ‹_› ‹_› ‹_› hr) ?_); walk_at "CPT"))
local macro_rules | `(tactic| walk_at "call ref") => `(tactic| k_dflt ((refine callP (by with_reducible assumption) (by with_reducible assumption) (fun R hr => texts_cmp (by walk_at "AMB") (by walk_at "OK") ‹_› ‹_› hr) ?_); walk_at "CPT"))
--END

theorem compared_ok {w : World} {A : Around} {R : Result → Shared → Prop} {s : Shared} {oa : Addr} {o : Ord} {v v' : Value} {d d' : Val}
   (a0 : Amb w s.heap) (ok : Ok A 4) (ho : OrdAt s.heap oa o) (hv : ValAt s.heap v d) (hv' : ValAt s.heap v' d') (hd : ValOk o.num d) (hd' : ValOk o.num d')
   (hret : Rets R s fun v _ => ∃ u, v = .int (cmpV o d d') u) :
   codeAny (MM w) A (.call (.ref 64) ⟨[.ref oa, v, v'], []⟩) R s := by
  have X := a0.X
  obtain ⟨mg, mb, T⟩ := a0.T
  obtain ⟨dx, n, h1, h2, h3, t1, t2, t3, e1, e2⟩ := ho
  have I : InstAt s.heap oa (instObj 32 dx) 32 (some (dictOf _ n)) := ⟨e1, rfl, rfl, e2⟩
  clear e1 e2
  obtain ⟨on, od, ou⟩ := o
  cases d with
  | num x y =>
    cases d' with
    | txt _ => obtain ⟨q, _⟩ := hd; obtain ⟨q', _⟩ := hd'; rw [q] at q'; cases q'
    | num x' y' =>
      obtain ⟨a, tx, ty, ev, ta⟩ := hv
      obtain ⟨a', tx', ty', ev', ta'⟩ := hv'
      subst ev ev'
      obtain ⟨q, b1, b2, -⟩ := hd
      obtain ⟨-, b1', b2', -⟩ := hd'
      dsimp only at q; subst q
      have ra := reads_pair ta
      have ra' := reads_pair ta'
      have c1 : -100 ≤ x := by omega
      have c2 : x ≤ 100 := by omega
      have c3 : -100 ≤ x' := by omega
      have c4 : x' ≤ 100 := by omega
      clear b1 b2 b1' b2'
      w_on
      refine' enter (binds := [("order", .ref oa), ("one", .ref a), ("other", .ref a')]) X T ok ?k6 ?k7 ?k9 ?kB ?_ ?c5 ?c6 ?c7 ?c8
      walk_at "ENTER"
      intro L h' t₁ Q okd F N hQ hQn
      walk_at "GO"
      all_goals (try dsimp only)
      all_goals (refine hQ _ _ (hret _ _ _ (Fr.keep (by assumption)) ⟨_, congrArg (Value.int · _) ?_⟩))
      all_goals (clear hret hQ hQn X T okd; unfold cmpV; simp_all)
  | txt x =>
    cases d' with
    | num _ _ => obtain ⟨q, _⟩ := hd; obtain ⟨q', _⟩ := hd'; rw [q] at q'; cases q'
    | txt x' =>
      obtain ⟨tx, ev⟩ := hv
      obtain ⟨tx', ev'⟩ := hv'
      subst ev ev'
      obtain ⟨q, b⟩ := hd
      obtain ⟨-, b'⟩ := hd'
      dsimp only at q; subst q
      have l1 := texts_len b
      have l2 := texts_len b'
      w_on
      refine' enter (binds := [("order", .ref oa), ("one", .str x tx), ("other", .str x' tx')]) X T ok ?k6 ?k7 ?k9 ?kB ?_ ?c5 ?c6 ?c7 ?c8
      walk_at "ENTER"
      intro L h' t₁ Q okd F N hQ hQn
      walk_at "GO"
      all_goals (try dsimp only)
      all_goals (refine hQ _ _ (hret _ _ _ (Fr.keep (by assumption)) ⟨_, congrArg (Value.int · _) ?_⟩))
      all_goals (clear hret hQ hQn X T okd; unfold cmpV; simp_all)

inductive All2 {α β : Type} (P : α → β → Prop) : List α → List β → Prop where
  | nil : All2 P [] []
  | cons {a b as bs} : P a b → All2 P as bs → All2 P (a :: as) (b :: bs)
namespace All2
variable {α β : Type} {P Q : α → β → Prop}
theorem length {as : List α} {bs : List β} (h : All2 P as bs) : as.length = bs.length := by
  induction h with
  | nil => rfl
  | cons _ _ ih => simp [ih]
theorem imp {as : List α} {bs : List β} (h : All2 P as bs) (f : ∀ a b, P a b → Q a b) : All2 Q as bs := by
  induction h with
  | nil => exact .nil
  | cons p _ ih => exact .cons (f _ _ p) ih
theorem append {as as' : List α} {bs bs' : List β} (h : All2 P as bs) (h' : All2 P as' bs') : All2 P (as ++ as') (bs ++ bs') := by
  induction h with
  | nil => exact h'
  | cons p _ ih => exact .cons p ih
theorem take {as : List α} {bs : List β} (h : All2 P as bs) : ∀ n, All2 P (as.take n) (bs.take n) := by
  induction h with
  | nil => intro n; simp; exact .nil
  | cons p _ ih => intro n; cases n with
    | zero => simp; exact .nil
    | succ n => simp; exact .cons p (ih n)
theorem drop {as : List α} {bs : List β} (h : All2 P as bs) : ∀ n, All2 P (as.drop n) (bs.drop n) := by
  induction h with
  | nil => intro n; simp; exact .nil
  | cons p r ih => intro n; cases n with
    | zero => exact .cons p r
    | succ n => simp; exact ih n
theorem reverse {as : List α} {bs : List β} (h : All2 P as bs) : All2 P as.reverse bs.reverse := by
  induction h with
  | nil => exact .nil
  | cons p _ ih => simp only [List.reverse_cons]; exact ih.append (.cons p .nil)
theorem get {as : List α} {bs : List β} (h : All2 P as bs) : ∀ (i : Nat) (b : β), bs[i]? = some b → ∃ a, as[i]? = some a ∧ P a b := by
  induction h with
  | nil => intro i b e; simp at e
  | cons p _ ih => intro i b e; cases i with
    | zero => simp at e; subst e; exact ⟨_, by simp, p⟩
    | succ i => simp at e; obtain ⟨a, h1, h2⟩ := ih i b e; exact ⟨a, by simpa using h1, h2⟩
theorem one {a : α} {b : β} (p : P a b) : All2 P [a] [b] := .cons p .nil
end All2

/-- the end of a turn: it leaves the def, or what holds between the turns holds again -/
def TPost (h₀ : Heap) (L : Addr) (s₁ : Shared) (I : Addr) (it : Obj) (rest : (Str → Option Value) → List (Addr × Obj) → Prop) (Q : Flow → Shared → Prop) (f : Flow) (s₂ : Shared) : Prop := UnrPost h₀ L s₁ I it rest Q f s₂
theorem TPost.ret {h₀ L s₁ I it rest Q v s₂} (h : Q (.ret v) s₂) : TPost h₀ L s₁ I it rest Q (.ret v) s₂ := h
theorem TPost.next {h₀ : Heap} {L I : Addr} {it : Obj} {rest : (Str → Option Value) → List (Addr × Obj) → Prop} {Q : Flow → Shared → Prop} {s₁ : Shared} {h' : Heap} {tk : Nat} {m' : Str → Option Value} {all : List (Addr × Obj)} (F : Fr h₀ L h' m') (N : News h₀ L h' all) (news' : List (Addr × Obj))
    (sub : ∀ p ∈ (I, it) :: news', p ∈ all) (off : ∀ p ∈ news', p.1 ≠ I) (r : rest m' news') : TPost h₀ L s₁ I it rest Q .next ⟨h', s₁.gens, s₁.drawn, tk, s₁.os⟩ := UnrEnd.intro F N news' sub off r

section
variable {prog : Program} {w : World} {A : Around} {E : Value → Shared → Prop} {s : Shared} {env : Env} {h₀ : Heap} {x : Str} {body : List Stmt} {Q : Flow → Shared → Prop}

theorem walk_loop {I : Addr} {fp : List Addr} {n : Nat} {P : Nat → Value → Prop} {St : Nat → Heap → Prop} {m₀ : Str → Option Value} {news : List (Addr × Obj)}
    (J : Nat → (Str → Option Value) → List (Addr × Obj) → Prop)
    (W : Walks prog w A I fp [I] n P St) (hIfp : I ∈ fp) (hfp : ∀ b ∈ fp, b = I ∨ ∃ o, h₀.get? b = some o) (hI : h₀.get? I = none) (hL : env.locals ∉ fp)
    (hobj : ∀ i h, St i h → ∃ o, h.get? I = some o) (hst : St 0 s.heap) (F : Fr h₀ env.locals s.heap m₀) (N : News h₀ env.locals s.heap news) (hnI : ∀ p ∈ news, p.1 ≠ I)
    (h0 : J 0 m₀ news)
    (turn : ∀ i v o m₁ news₁ h tk, i < n → P i v → (∀ p ∈ news₁, p.1 ≠ I) → J i m₁ news₁ → Fr h₀ env.locals h (fun y => if y = x then some v else m₁ y) → News h₀ env.locals h ((I, o) :: news₁) →
      wpAny (model prog w) A (execs body env) (TPost h₀ env.locals ⟨h, s.gens, s.drawn, tk, s.os⟩ I o (J (i + 1)) Q) E ⟨h, s.gens, s.drawn, tk, s.os⟩)
    (done : ∀ m₁ news₁ h tk, J n m₁ news₁ → Fr h₀ env.locals h m₁ → News h₀ env.locals h news₁ → Q .next ⟨h, s.gens, s.drawn, tk, s.os⟩) :
    LoopAtV prog w A h₀ env x body Q E (.ref I) s := by
  refine ⟨I, fp, [I], n, P, St, m₀, news, J, rfl, W, hL, ?_, ?_, hst, F, N, h0, ?_, ?_⟩
  · intro b hb; rw [List.mem_singleton.mp hb]; exact hI
  · intro p hp hb; exact hnI p hp (List.mem_singleton.mp hb)
  · rintro i v m₁ news₁ s₁ own ⟨h, tk, rfl⟩ hi hP hJ hoff hown hget hall hst' F₁ N₁
    obtain ⟨o, ho⟩ := hobj _ _ hst'
    have hmem := hall I hIfp hI _ ho
    have hoff' : ∀ p ∈ news₁, p.1 ≠ I := fun p hp e => hoff p hp (List.mem_singleton.mpr e)
    have N₂ : News h₀ env.locals h ((I, o) :: news₁) := fun p hp => by
      rcases List.mem_cons.mp hp with rfl | hp
      · exact N₁ _ (List.mem_append_left _ hmem)
      · exact N₁ _ (List.mem_append_right _ hp)
    have hownI : ∀ p ∈ own, p = (I, o) := fun p hp => by
      have h1 : p.1 = I := by
        rcases hfp _ (hown p hp) with e | ⟨o', e⟩
        · exact e
        · have := (N₁ p (List.mem_append_left _ hp)).2.2; rw [e] at this; cases this
      have h2 := hget p hp
      rw [h1, ho] at h2
      exact Prod.ext h1 (Option.some.inj h2).symm
    refine wpAny_mono (turn i v o m₁ news₁ h tk hi hP hoff' hJ F₁ N₂) (fun f s₂ p => ?_) fun _ _ e => e
    have fin : UnrEnd h₀ env.locals ⟨h, s.gens, s.drawn, tk, s.os⟩ I o (J (i + 1)) s₂ → LoopStepU h₀ env.locals [I] own (J (i + 1)) ⟨h, s.gens, s.drawn, tk, s.os⟩ .next s₂ := by
      rintro ⟨h', tk', m', news', e, F', N', ho', r⟩
      refine ⟨rfl, h', tk', m', news', e, F', fun p hp => ?_, fun p hp hb => ho' p hp (List.mem_singleton.mp hb), r⟩
      rcases List.mem_append.mp hp with hp | hp
      · rw [hownI p hp]; exact N' _ (List.mem_cons_self ..)
      · exact N' _ (List.mem_cons_of_mem _ hp)
    cases f with
    | ret v => exact .ret p
    | brk => exact .brk p
    | next => exact .next (fin p)
    | cont => exact .cont (fin p)
  · intro h' tk m' news' F' N' _ hJ
    exact done m' news' h' tk hJ F' N'

theorem range_loop {r : Addr} {a b c : Int} {t u v : Tok} {n : Nat} {m₀ : Str → Option Value} {news : List (Addr × Obj)}
    {L : Addr} (hL : env.locals = L) (J : Nat → (Str → Option Value) → List (Addr × Obj) → Prop)
    (hh : A.handled = none) (hr : IsRange s.heap r a b c t u v) (hsmall : Builtin.Range.small a b c = true) (hn : Builtin.Range.rangeSize a b c = (n : Int))
    (F : Fr h₀ L s.heap m₀) (N : News h₀ L s.heap news) (h0 : J 0 m₀ news)
    (turn : ∀ i I o k t m₁ news₁ h tk, i < n → k = a + (i : Int) * c → (∀ p ∈ news₁, p.1 ≠ I) → J i m₁ news₁ → Fr h₀ L h (fun y => if y = x then some (.int k t) else m₁ y) → News h₀ L h ((I, o) :: news₁) →
      wpAny (model prog w) A (execs body env) (TPost h₀ L ⟨h, s.gens, s.drawn, tk, s.os⟩ I o (J (i + 1)) Q) E ⟨h, s.gens, s.drawn, tk, s.os⟩)
    (done : ∀ m₁ news₁ h tk, J n m₁ news₁ → Fr h₀ L h m₁ → News h₀ L h news₁ → Q .next ⟨h, s.gens, s.drawn, tk, s.os⟩) :
    wpAny (model prog w) A (pyIter (.ref r)) (fun it s₂ => LoopAtV prog w A h₀ env x body Q E it s₂) E s := by
  subst hL
  refine wpAny_pyIter_range hr hsmall ?_
  refine walk_loop (s := ⟨_, s.gens, s.drawn, s.toks, s.os⟩) J (Walks.range hh _ a c n) (List.mem_singleton.mpr rfl) (fun b hb => .inl (List.mem_singleton.mp hb)) (next_is_new F) ?_ (fun i h hs => ⟨_, hs⟩)
    (by show IsRangeIter _ _ _ _ _; rw [hn]; simpa using Heap.get?_push_size _ rfl) (F.push _) (fun p hp => ⟨Heap.get?_push_of_some _ (N p hp).1, (N p hp).2⟩) ?_ h0 ?_ done
  · intro hm; exact absurd F.ns.lt ((List.mem_singleton.mp hm) ▸ Nat.lt_irrefl _)
  · intro p hp hI; exact absurd (Heap.lt_size (N p hp).1) (hI ▸ Nat.lt_irrefl _)
  · rintro i v o m₁ news₁ h tk hi ⟨t, rfl⟩ hoff hJ F₁ N₁
    exact turn i _ o _ t m₁ news₁ h tk hi rfl hoff hJ F₁ N₁

theorem list_loop {l : Addr} {vs : List Value} {m₀ : Str → Option Value} {news : List (Addr × Obj)}
    {L : Addr} (hL : env.locals = L) (J : Nat → (Str → Option Value) → List (Addr × Obj) → Prop)
    (hh : A.handled = none) (hl : h₀.IsList l vs.toArray)
    (F : Fr h₀ L s.heap m₀) (N : News h₀ L s.heap news) (h0 : J 0 m₀ news)
    (turn : ∀ i I o v m₁ news₁ h tk, vs[i]? = some v → (∀ p ∈ news₁, p.1 ≠ I) → J i m₁ news₁ → Fr h₀ L h (fun y => if y = x then some v else m₁ y) → News h₀ L h ((I, o) :: news₁) →
      wpAny (model prog w) A (execs body env) (TPost h₀ L ⟨h, s.gens, s.drawn, tk, s.os⟩ I o (J (i + 1)) Q) E ⟨h, s.gens, s.drawn, tk, s.os⟩)
    (done : ∀ m₁ news₁ h tk, J vs.length m₁ news₁ → Fr h₀ L h m₁ → News h₀ L h news₁ → Q .next ⟨h, s.gens, s.drawn, tk, s.os⟩) :
    wpAny (model prog w) A (pyIter (.ref l)) (fun it s₂ => LoopAtV prog w A h₀ env x body Q E it s₂) E s := by
  subst hL
  have hls : s.heap.IsList l vs.toArray := hl.at fun o e => F.keep l o e
  obtain ⟨ol, hol, _⟩ := id hl
  have hlt : l < h₀.objs.size := Heap.lt_size hol
  have hne : l ≠ s.heap.objs.size := Nat.ne_of_lt (Nat.lt_trans (Nat.lt_of_lt_of_le hlt F.above) F.ns.lt)
  refine wpAny_pyIter_list hls ?_
  have hsz : vs.toArray.size = vs.length := by simp
  have W := Walks.list (prog := prog) (w := w) hh s.heap.objs.size l hne vs.toArray
  rw [hsz] at W
  refine walk_loop (s := ⟨_, s.gens, s.drawn, s.toks, s.os⟩) J W (by simp) ?_ (next_is_new F) ?_ (fun i h hs => let ⟨o, ho, _⟩ := hs.1; ⟨o, ho⟩)
    ⟨⟨_, Heap.get?_push_size _ rfl, rfl, rfl⟩, hls.at fun o e => Heap.get?_push_of_some _ e⟩ (F.push _) (fun p hp => ⟨Heap.get?_push_of_some _ (N p hp).1, (N p hp).2⟩) ?_ h0 ?_ done
  · intro b hb
    rcases List.mem_cons.mp hb with e | hb
    · exact .inl e
    · exact .inr ⟨ol, (List.mem_singleton.mp hb) ▸ hol⟩
  · intro hm
    rcases List.mem_cons.mp hm with e | hm
    · exact absurd F.ns.lt (e ▸ Nat.lt_irrefl _)
    · exact absurd (Nat.lt_of_lt_of_le hlt F.above) ((List.mem_singleton.mp hm) ▸ Nat.lt_irrefl _)
  · intro p hp hI; exact absurd (Heap.lt_size (N p hp).1) (hI ▸ Nat.lt_irrefl _)
  · intro i v o m₁ news₁ h tk hi hP hoff hJ F₁ N₁
    exact turn i _ o v m₁ news₁ h tk (by simpa using hP) hoff hJ F₁ N₁
end

section
variable {prog : Program} {w : World} {A : Around} {E : Value → Shared → Prop} {s : Shared}
theorem itemL {value slice : PySem.Expr} {l : Addr} {vs : List Value} {k : Int} {u : Tok} {x : Value} {Q : Value → Shared → Prop} (hl : s.heap.IsList l vs.toArray) (h0 : 0 ≤ k) (hf : k < 2 ^ 63) (hx : vs[k.toNat]? = some x) (h : Q x s)
    (hs : subscripted slice false (.ref l) (.int k u) = operate [.ref l, .int k u] (getItem (.ref l) (.int k u))) : wpAny (model prog w) A (subscriptTail value slice (.ref l) (.int k u)) Q E s :=
  tail_any hl.typeIs slot_list_getitem.lookup (wpAny_getItem_list hl h0 hf (by simpa using hx) h) hs
theorem lenL {l : Addr} {vs : List Value} {Q : Value → Shared → Prop} (hl : s.heap.IsList l vs.toArray) (hf : (vs.length : Int) < 2 ^ 63)
    (h : ∀ u t, Q (.int vs.length u) { s with toks := t }) : wpAny (model prog w) A (PySem.call (.builtin "len") [.ref l]) Q E s :=
  len_list hl (by simpa using hf) (by simpa using h _ _)
theorem addL {h₀ : Heap} {L l b : Addr} {m : Str → Option Value} {news : List (Addr × Obj)} {its its2 : Array Value} {xs ys : List Value} {Q : Value → Shared → Prop} (F : Fr h₀ L s.heap m) (N : News h₀ L s.heap news)
    (hl : s.heap.IsList l its) (e1 : its.toList = xs) (hb : s.heap.IsList b its2) (e2 : its2.toList = ys) (hz : xs.length + ys.length ≤ 1000000)
    (h : ∀ a h', Fr h₀ L h' m → News h₀ L h' ((a, listOf (xs ++ ys).toArray 0) :: news) → Q (.ref a) { s with heap := h' }) : wpAny (model prog w) A (binaryOp .Add (.ref l) (.ref b)) Q E s := by
  subst e1 e2
  have hz' : its.size + its2.size ≤ sizeLine := by rw [sizeLine_eq]; simp only [Array.length_toList] at hz; omega
  refine add_lists (vs := its.toList) (ws := its2.toList) (hsz := by rw [Array.length_toList, Array.length_toList]; exact hz') F N hl hb fun h' F' N' => h _ h' F' N'
end
--MACROS
local macro_rules | `(tactic| walk_at "ADDC") => `(tactic| ((case l => is_list); (case b => is_list); (case e1 => walk_at "TOLIST"); (case e2 => walk_at "TOLIST"); (case z => (simp only [List.length_append, List.length_drop, List.length_take, List.length_cons, List.length_nil]; omega))))
local macro_rules | `(tactic| walk_at "eval Name") => `(tactic| (k_here; k_dflt (refine' ld ?k1 ?k2 ?_; (case k1 => k_asm); (case k2 => walk_at "LOOK"); k_whole)))
local macro_rules | `(tactic| walk_at "call builtin:len") => `(tactic| k_dflt ((with_reducible show wpAny _ _ (PySem.call (Value.builtin "len") [Value.ref _]) _ _ _); refine lenL (by is_list) (by omega) ?_; intro u2 t2))
local macro_rules | `(tactic| walk_at "subscriptTail Name Name ref int") => `(tactic| k_dflt (refine' itemL ?l ?a ?b ?c ?_ ?e; (case l => is_list); (case c => assumption); (case a => omega); (case b => omega); (case e => with_unfolding_all rfl); k_whole))
local macro_rules | `(tactic| walk_at "TOLIST") => `(tactic| first | ((simp only [slicePick_from']; done)) | (simp only [slicePick_from']; exact rfl) | exact rfl)
local macro_rules | `(tactic| walk_at "binaryOp Add ref ref") => `(tactic| k_dflt (refine' addL ?F ?N ?l ?e1 ?b ?e2 ?z ?_; walk_at "FN"; walk_at "ADDC"; k_whole; intro a9 h9 F9 N9; (try k_sweep)))
local macro_rules | `(tactic| walk_at "loadName") => `(tactic| k_dflt (refine' ldn ?k1 ?k2 ?_; (case k1 => k_asm); (case k2 => walk_at "LOOK"); k_whole))
--END

def OrdsAt (h : Heap) (l : Addr) (os : List Ord) : Prop := ∃ vs, h.IsList l (List.toArray vs) ∧ All2 (fun v o => ∃ a, v = Value.ref a ∧ OrdAt h a o) vs os
def RowAt (h : Heap) (l : Addr) (ds : List Val) : Prop := ∃ vs, h.IsList l (List.toArray vs) ∧ All2 (ValAt h) vs ds
def RowOk (os : List Ord) (ds : List Val) : Prop := All2 (fun o d => ValOk o.num d) os ds
theorem isList_keeps {h h' : Heap} {a : Addr} {items} (x : h.IsList a items) (k : Kp h h') : h'.IsList a items := let ⟨o, ho, r⟩ := x; ⟨o, k _ _ ho, r⟩
theorem OrdsAt.keeps {h h' : Heap} {l os} (x : OrdsAt h l os) (k : Kp h h') : OrdsAt h' l os := let ⟨vs, a, b⟩ := x; ⟨vs, isList_keeps a k, b.imp fun _ _ ⟨a, e, o⟩ => ⟨a, e, o.keeps k⟩⟩
theorem RowAt.keeps {h h' : Heap} {l ds} (x : RowAt h l ds) (k : Kp h h') : RowAt h' l ds := let ⟨vs, a, b⟩ := x; ⟨vs, isList_keeps a k, b.imp fun _ _ q => q.keeps k⟩

noncomputable def cmpR : List Ord → List Val → List Val → Int
  | o :: os, d :: ds, e :: es => if cmpV o d e ≠ 0 then cmpV o d e else cmpR os ds es
  | _, _, _ => 0
theorem cmpR_split : ∀ (os : List Ord) (ds es : List Val) (i : Nat), os.length = ds.length → os.length = es.length → i ≤ os.length → (∀ j o d e, j < i → os[j]? = some o → ds[j]? = some d → es[j]? = some e → cmpV o d e = 0) →
    cmpR os ds es = cmpR (os.drop i) (ds.drop i) (es.drop i)
  | _, _, _, 0, _, _, _, _ => rfl
  | [], _, _, i + 1, _, _, h, _ => by simp at h
  | o :: os, [], _, i + 1, h, _, _, _ => by simp at h
  | o :: os, _ :: _, [], i + 1, _, h, _, _ => by simp at h
  | o :: os, d :: ds, e :: es, i + 1, h1, h2, hi, hz => by
    have h0 := hz 0 o d e (by omega) rfl rfl rfl
    simp only [List.drop_succ_cons]
    rw [← cmpR_split os ds es i (by simpa using h1) (by simpa using h2) (by simpa using hi) (fun j o' d' e' hj a b c => hz (j + 1) o' d' e' (by omega) (by simpa using a) (by simpa using b) (by simpa using c))]
    rw [cmpR, if_neg (by simp [h0])]
theorem cmpR_at {os : List Ord} {ds es : List Val} {i : Nat} {o : Ord} {d e : Val} (h1 : os.length = ds.length) (h2 : os.length = es.length) (hz : ∀ j o d e, j < i → os[j]? = some o → ds[j]? = some d → es[j]? = some e → cmpV o d e = 0)
    (ho : os[i]? = some o) (hd : ds[i]? = some d) (he : es[i]? = some e) (hc : cmpV o d e ≠ 0) : cmpR os ds es = cmpV o d e := by
  have hi : i < os.length := by
    rcases Nat.lt_or_ge i os.length with h | h
    · exact h
    · rw [List.getElem?_eq_none h] at ho; cases ho
  rw [cmpR_split os ds es i h1 h2 (Nat.le_of_lt hi) hz]
  have g1 : os.drop i = o :: os.drop (i + 1) := by rw [List.drop_eq_getElem?_toList_append, ho]; rfl
  have g2 : ds.drop i = d :: ds.drop (i + 1) := by rw [List.drop_eq_getElem?_toList_append, hd]; rfl
  have g3 : es.drop i = e :: es.drop (i + 1) := by rw [List.drop_eq_getElem?_toList_append, he]; rfl
  rw [g1, g2, g3, cmpR, if_pos hc]
theorem cmpR_zero {os : List Ord} {ds es : List Val} (h1 : os.length = ds.length) (h2 : os.length = es.length) (hz : ∀ j o d e, j < os.length → os[j]? = some o → ds[j]? = some d → es[j]? = some e → cmpV o d e = 0) : cmpR os ds es = 0 := by
  rw [cmpR_split os ds es os.length h1 h2 (Nat.le_refl _) hz]
  rw [List.drop_length]; rfl

--MACROS
local macro_rules | `(tactic| walk_at "call ref") => `(tactic| k_dflt ((refine callP (by with_reducible assumption) (by with_reducible assumption) (fun R hr => compared_ok (by walk_at "AMB") (by walk_at "OK") (by exact OrdAt.keeps ‹_› (Fr.keep ‹_›)) (by exact ValAt.keeps ‹_› (Fr.keep ‹_›)) (by exact ValAt.keeps ‹_› (Fr.keep ‹_›)) ‹_› ‹_› hr) ?_); walk_at "CPT"))
--END

theorem rows_cmp {w : World} {A : Around} {R : Result → Shared → Prop} {s : Shared} {la r1 r2 : Addr} {os : List Ord} {ds es : List Val}
   (a0 : Amb w s.heap) (ok : Ok A 5) (ho : OrdsAt s.heap la os) (hv : RowAt s.heap r1 ds) (hv' : RowAt s.heap r2 es) (hd : RowOk os ds) (hd' : RowOk os es) (hlen : os.length ≤ 1000)
   (hret : Rets R s fun v _ => ∃ u, v = .int (cmpR os ds es) u) :
   codeAny (MM w) A (.call (.ref 71) ⟨[.ref la, .ref r1, .ref r2], []⟩) R s := by
  have X := a0.X
  obtain ⟨mg, mb, T⟩ := a0.T
  obtain ⟨ovs, hl0, oo⟩ := ho
  obtain ⟨v1, hl1, o1⟩ := hv
  obtain ⟨v2, hl2, o2⟩ := hv'
  w_on
  refine' enter (binds := [("orders", .ref la), ("one", .ref r1), ("other", .ref r2)]) X T ok ?k6 ?k7 ?k9 ?kB ?_ ?c5 ?c6 ?c7 ?c8
  walk_at "ENTER"
  intro L h' t₁ Q okd F N hQ hQn
  have n0 := oo.length
  have n1 := o1.length
  have n2 := o2.length
  have m1 := hd.length
  have m2 := hd'.length
  walk_at "GO"
  refine range_loop (n := os.length) (L := L) rfl (fun i m _ => m "orders" = some (.ref la) ∧ m "one" = some (.ref r1) ∧ m "other" = some (.ref r2) ∧ ∀ j o d e, j < i → os[j]? = some o → ds[j]? = some d → es[j]? = some e → cmpV o d e = 0)
    okd.h (by assumption) (small_one (by omega) (by omega) (by omega) (by omega)) (by rw [rangeSize_one]; split <;> omega) (by assumption) (by assumption) ⟨rfl, rfl, rfl, fun j o d e hj => by omega⟩ ?_ ?_
  · intro i I o k t m₁ news₁ h tk hi hk hoff hJ F1 N1
    obtain ⟨j1, j2, j3, jz⟩ := hJ
    have hk' : k.toNat = i := by omega
    have eo : os[i]? = some os[i] := List.getElem?_eq_getElem hi
    have ed : ds[i]? = some (ds[i]'(by omega)) := List.getElem?_eq_getElem (by omega)
    have ee : es[i]? = some (es[i]'(by omega)) := List.getElem?_eq_getElem (by omega)
    generalize os[i] = oi at eo
    generalize ds[i]'(by omega) = di at ed
    generalize es[i]'(by omega) = ei at ee
    obtain ⟨_, x1, a, rfl, y1⟩ := oo.get i _ eo
    obtain ⟨w1, x2, y2⟩ := o1.get i _ ed
    obtain ⟨w2, x3, y3⟩ := o2.get i _ ee
    have g1 : ValOk oi.num di := by
      obtain ⟨_, q, z⟩ := hd.get i _ ed
      rw [eo] at q; cases q; exact z
    have g2 : ValOk oi.num ei := by
      obtain ⟨_, q, z⟩ := hd'.get i _ ee
      rw [eo] at q; cases q; exact z
    rw [← hk'] at x1 x2 x3
    have k0 : 0 ≤ k := by omega
    have k1 : k < 2 ^ 62 := by omega
    clear hk
    walk_at "GO"
    · dsimp only
      refine TPost.ret ?_
      dsimp only
      refine hQ _ _ (hret _ _ _ (Fr.keep (by assumption)) ⟨_, congrArg (Value.int · _) ?_⟩)
      exact (cmpR_at m1 m2 jz eo ed ee (by simp_all)).symm
    · refine' TPost.next ?F ?N news₁ ?s hoff ?r
      case F => assumption
      case N => assumption
      case s => exact fun p hp => hp
      case r =>
        refine ⟨j1, j2, j3, fun j o' d e hj a b c => ?_⟩
        rcases Nat.lt_succ_iff_lt_or_eq.mp hj with hj | rfl
        · exact jz j o' d e hj a b c
        · rw [eo] at a; rw [ed] at b; rw [ee] at c; cases a; cases b; cases c
          simp_all
  · intro m₁ news₁ h tk hJ F1 N1
    obtain ⟨j1, j2, j3, jz⟩ := hJ
    walk_at "GO"
    dsimp only
    exact hQ _ _ (hret _ _ _ F1.keep ⟨_, congrArg (Value.int · _) (cmpR_zero m1 m2 jz).symm⟩)

def PairAt (h : Heap) (v : Value) (p : List Val × Int) : Prop := ∃ a r t, v = .ref a ∧ IsTup h a [.ref r, .int p.2 t].toArray ∧ RowAt h r p.1
theorem PairAt.keeps {h h' : Heap} {v p} (x : PairAt h v p) (k : Kp h h') : PairAt h' v p := let ⟨a, r, t, e, i, w⟩ := x; ⟨a, r, t, e, i.keeps k, w.keeps k⟩
def PairsAt (h : Heap) (l : Addr) (ps : List (List Val × Int)) : Prop := ∃ vs, h.IsList l (List.toArray vs) ∧ All2 (PairAt h) vs ps
theorem PairsAt.keeps {h h' : Heap} {l ps} (x : PairsAt h l ps) (k : Kp h h') : PairsAt h' l ps := let ⟨vs, i, a⟩ := x; ⟨vs, isList_keeps i k, a.imp fun _ _ q => q.keeps k⟩
noncomputable def leP (os : List Ord) (p q : List Val × Int) : Bool := decide (cmpR os p.1 q.1 ≤ 0)

theorem All2.same {α β : Type} {P : α → β → Prop} {as : List α} {bs : List β} (h : All2 P as bs) {i : Nat} {a : α} {b : β} (ha : as[i]? = some a) (hb : bs[i]? = some b) : P a b := by
  obtain ⟨a', e, p⟩ := h.get i b hb
  rw [ha] at e; cases e; exact p
theorem merge_end {α : Type} {le : α → α → Bool} {xs ys : List α} (h : xs = [] ∨ ys = []) : List.merge xs ys le = xs ++ ys := by
  rcases h with rfl | rfl <;> simp
theorem drop_cons {α : Type} {xs : List α} {i : Nat} {x : α} (h : xs[i]? = some x) : xs.drop i = x :: xs.drop (i + 1) := by
  rw [List.drop_eq_getElem?_toList_append, h]; rfl
theorem all_pairs {h h' : Heap} {vs : List Value} {ps : List (List Val × Int)} (a : All2 (PairAt h) vs ps) (k : Kp h h') : All2 (PairAt h') vs ps := a.imp fun _ _ q => q.keeps k

/-- between two turns of a while -/
def WPost (h₀ : Heap) (L : Addr) (s : Shared) (J : Nat → (Str → Option Value) → List (Addr × Obj) → Prop) (n : Nat) (Q : Flow → Shared → Prop) (f : Flow) (s₂ : Shared) : Prop :=
  match f with
  | .ret v => Q (.ret v) s₂
  | .brk => Q .next s₂
  | _ => ∃ h' tk m' news' n', n' < n ∧ s₂ = ⟨h', s.gens, s.drawn, tk, s.os⟩ ∧ Fr h₀ L h' m' ∧ News h₀ L h' news' ∧ J n' m' news'
theorem WPost.ret {h₀ L s J n Q v s₂} (h : Q (.ret v) s₂) : WPost h₀ L s J n Q (.ret v) s₂ := h
theorem WPost.next {h₀ L s J n Q h' tk m' news'} (n' : Nat) (F : Fr h₀ L h' m') (N : News h₀ L h' news') (hn : n' < n) (hJ : J n' m' news') : WPost h₀ L s J n Q .next ⟨h', s.gens, s.drawn, tk, s.os⟩ :=
  ⟨h', tk, m', news', n', hn, rfl, F, N, hJ⟩
/-- the way a test of a while goes -/
def WTest (w : World) (A : Around) (h₀ : Heap) (L : Addr) (s : Shared) (env : Env) (body : List Stmt) (J : Nat → (Str → Option Value) → List (Addr × Obj) → Prop) (n : Nat) (Q : Flow → Shared → Prop) (b : Bool) (s₂ : Shared) : Prop :=
  if b = true then wpAny (MM w) A (execs body env) (WPost h₀ L s J n Q) (fun _ _ => False) s₂ else Q .next s₂

theorem WTest.tt {w A h₀ L s env body J n Q s₂} (h : wpAny (MM w) A (execs body env) (WPost h₀ L s J n Q) (fun _ _ => False) s₂) : WTest w A h₀ L s env body J n Q true s₂ := by
  unfold WTest; rw [if_pos rfl]; exact h
theorem WTest.ff {w A h₀ L s env body J n Q s₂} (h : Q .next s₂) : WTest w A h₀ L s env body J n Q false s₂ := by
  unfold WTest; rw [if_neg (by simp)]; exact h

theorem while_loop {w : World} {A : Around} {E : Value → Shared → Prop} {s : Shared} {env : Env} {h₀ : Heap} {test : PySem.Expr} {body : List Stmt} {pos : Pos} {Q : Flow → Shared → Prop} {L : Addr}
    {m₀ : Str → Option Value} {news : List (Addr × Obj)} (J : Nat → (Str → Option Value) → List (Addr × Obj) → Prop) (n : Nat)
    (F : Fr h₀ L s.heap m₀) (N : News h₀ L s.heap news) (h0 : J n m₀ news)
    (turn : ∀ n m₁ news₁ h tk, J n m₁ news₁ → Fr h₀ L h m₁ → News h₀ L h news₁ →
      wpAny (MM w) A (isTrue test env (eval test env)) (WTest w A h₀ L s env body J n Q) (fun _ _ => False) ⟨h, s.gens, s.drawn, tk, s.os⟩) :
    wpAny (MM w) A (exec (.While test body [] pos) env) Q E s := by
  refine wpAny_While ?_
  refine codeAny_whileLoop (R := fun r s' => match r with | .ok f => Q f s' | .error e => cameBackBy (MM w) A env E e s')
    (fun n s' => ∃ h tk m news, s' = ⟨h, s.gens, s.drawn, tk, s.os⟩ ∧ Fr h₀ L h m ∧ News h₀ L h news ∧ J n m news) ?_ n ⟨s.heap, s.toks, m₀, news, rfl, F, N, h0⟩
  rintro n s' ⟨h, tk, m, news, rfl, F, N, hJ⟩
  refine wpAny_mono (turn n m news h tk hJ F N) (fun b s₂ hb => ?_) fun _ _ x => x.elim
  cases b with
  | false =>
    simp only [WTest, Bool.false_eq_true, if_false] at hb ⊢
    exact wpAny_execs_nil hb
  | true =>
    simp only [WTest, if_true] at hb ⊢
    refine wpAny_mono hb (fun f s₃ hf => ?_) fun _ _ x => x.elim
    cases f with
    | ret v => exact hf
    | brk => exact hf
    | next => obtain ⟨h', tk', m', news', n', hn, rfl, F', N', hJ'⟩ := hf; exact ⟨n', hn, h', tk', m', news', rfl, F', N', hJ'⟩
    | cont => obtain ⟨h', tk', m', news', n', hn, rfl, F', N', hJ'⟩ := hf; exact ⟨n', hn, h', tk', m', news', rfl, F', N', hJ'⟩

--MACROS
local macro_rules | `(tactic| walk_at "subscriptTail Subscript") => `(tactic| k_dflt (refine' item_tupleT (Fr.tup (by with_reducible assumption) ?t) ?a ?b ?c ?d ?_ ?e; (case t => assumption); (case a => decide); (case b => decide); (case c => rfl); (case d => rfl); (case e => with_unfolding_all rfl); k_whole))
local macro_rules | `(tactic| walk_at "call ref") => `(tactic| k_dflt ((refine callP (by with_reducible assumption) (by with_reducible assumption) (fun R hr => rows_cmp (by walk_at "AMB") (by walk_at "OK") (by exact OrdsAt.keeps ‹_› (Fr.keep ‹_›)) (by exact RowAt.keeps ‹_› (Fr.keep ‹_›)) (by exact RowAt.keeps ‹_› (Fr.keep ‹_›)) ‹_› ‹_› ‹_› hr) ?_); walk_at "CPT"))
--END
theorem step_l {n b i p : Nat} (h : n = (p - i) + b) (hi : i < p) : n - 1 = (p - (i + 1)) + b := by omega
theorem step_r {n a j q : Nat} (h : n = a + (q - j)) (hj : j < q) : n - 1 = a + (q - (j + 1)) := by omega
theorem step_lt {n i p b : Nat} (h : n = (p - i) + b) (hi : i < p) : n - 1 < n := by omega
theorem merged_ok {w : World} {A : Around} {R : Result → Shared → Prop} {s : Shared} {la l1 l2 : Addr} {os : List Ord} {ps qs : List (List Val × Int)}
   (a0 : Amb w s.heap) (ok : Ok A 6) (ho : OrdsAt s.heap la os) {v1 v2 : List Value} (hl1 : s.heap.IsList l1 v1.toArray) (hl2 : s.heap.IsList l2 v2.toArray) (o1 : All2 (PairAt s.heap) v1 ps) (o2 : All2 (PairAt s.heap) v2 qs) (gp : ∀ p ∈ ps, RowOk os p.1) (gq : ∀ p ∈ qs, RowOk os p.1) (hlen : os.length ≤ 1000)
   (hp1 : ps.length ≤ 1000) (hq1 : qs.length ≤ 1000)
   (hret : Rets R s fun v h' => ∃ l vs, v = .ref l ∧ s.heap.get? l = none ∧ h'.IsList l (List.toArray vs) ∧ ∀ P : Value → (List Val × Int) → Prop, All2 P v1 ps → All2 P v2 qs → All2 P vs (List.merge ps qs (leP os))) :
   codeAny (MM w) A (.call (.ref 78) ⟨[.ref la, .ref l1, .ref l2], []⟩) R s := by
  have X := a0.X
  obtain ⟨mg, mb, T⟩ := a0.T
  w_on
  refine' enter (binds := [("orders", .ref la), ("one", .ref l1), ("other", .ref l2)]) X T ok ?k6 ?k7 ?k9 ?kB ?_ ?c5 ?c6 ?c7 ?c8
  walk_at "ENTER"
  intro L h' t₁ Q okd F N hQ hQn
  have n1 := o1.length
  have n2 := o2.length
  walk_at "GO"
  refine while_loop (L := L) (fun n m news => ∃ (fa : Addr) (i j : Nat) (ti tj : Tok) (found : List Value) (fps : List (List Val × Int)) (k : Nat),
      m "orders" = some (.ref la) ∧ m "one" = some (.ref l1) ∧ m "other" = some (.ref l2) ∧ m "found" = some (.ref fa) ∧ m "first" = some (.int i ti) ∧ m "second" = some (.int j tj) ∧
      news = [(fa, listOf found.toArray k)] ∧ (∀ P : Value → (List Val × Int) → Prop, All2 P v1 ps → All2 P v2 qs → All2 P found fps) ∧ i ≤ ps.length ∧ j ≤ qs.length ∧ n = (ps.length - i) + (qs.length - j) ∧ found.length = i + j ∧
      fps ++ List.merge (ps.drop i) (qs.drop j) (leP os) = List.merge ps qs (leP os)) (ps.length + qs.length) (by assumption) (by assumption)
      ⟨_, 0, 0, _, _, [], [], 0, rfl, rfl, rfl, rfl, rfl, rfl, rfl, fun _ _ _ => .nil, Nat.zero_le _, Nat.zero_le _, rfl, rfl, rfl⟩ ?_
  rintro n m₁ news₁ h tk ⟨fa, i, j, ti, tj, found, fps, k, j1, j2, j3, j4, j5, j6, rfl, af, hi, hj, hn, hfl, hm⟩ F1 N1
  as_aux_lemma =>
    walk_at "GO"
    · have hi' : i < ps.length := by omega
      have hj' : j < qs.length := by omega
      have ep : ps[i]? = some ps[i] := List.getElem?_eq_getElem hi'
      have eq : qs[j]? = some qs[j] := List.getElem?_eq_getElem hj'
      have gpi := gp _ (List.getElem_mem hi')
      have gqj := gq _ (List.getElem_mem hj')
      generalize ps[i] = p at ep gpi
      generalize qs[j] = q at eq gqj
      obtain ⟨w1, x1, y1⟩ := o1.get i _ ep
      obtain ⟨w2, x2, y2⟩ := o2.get j _ eq
      obtain ⟨pa, pr, pt, e1, ip, rp⟩ := id y1
      obtain ⟨qa, qr, qt, e2, iq, rq⟩ := id y2
      subst e1 e2
      have x1' : v1[((i : Nat) : Int).toNat]? = some (.ref pa) := by simpa using x1
      have x2' : v2[((j : Nat) : Int).toNat]? = some (.ref qa) := by simpa using x2
      refine WTest.tt ?_
      walk_at "GO"
      · refine' WPost.next (n - 1) ?cF1 ?cN1 ?ca1 ?cr1
        case cF1 => assumption
        case cN1 => assumption
        case ca1 => exact step_lt hn hi'
        case cr1 =>
          refine ⟨fa, i + 1, j, _, _, found ++ [.ref pa], fps ++ [p], k + 1, j1, j2, j3, j4, rfl, j6, by simp, fun P b1 b2 => (af P b1 b2).append (.one (b1.same x1 ep)), hi', hj, step_l hn hi', by simp; omega, ?_⟩
          rw [← hm, drop_cons ep, drop_cons eq, List.cons_merge_cons, if_pos (by simpa [leP] using ‹cmpR os p.1 q.1 ≤ 0›), List.append_assoc]; rfl
      · refine' WPost.next (n - 1) ?cF2 ?cN2 ?ca2 ?cr2
        case cF2 => assumption
        case cN2 => assumption
        case ca2 => exact step_lt hn hi'
        case cr2 =>
          refine ⟨fa, i, j + 1, _, _, found ++ [.ref qa], fps ++ [q], k + 1, j1, j2, j3, j4, j5, rfl, by simp, fun P b1 b2 => (af P b1 b2).append (.one (b2.same x2 eq)), hi, hj', step_r hn hj', by simp; omega, ?_⟩
          rw [← hm, drop_cons ep, drop_cons eq, List.cons_merge_cons, if_neg (by simpa [leP] using ‹¬ cmpR os p.1 q.1 ≤ 0›), List.append_assoc]; rfl
    all_goals (refine WTest.ff ?_; walk_at "GO")
    all_goals dsimp only
    all_goals (refine hQ _ _ (hret _ _ _ (Fr.keep (by assumption)) ⟨_, _, rfl, News.fresh (by assumption) (.head _), News.isList (by assumption) (.head _), fun P b1 b2 => ?_⟩))
    all_goals (rw [← hm, merge_end (by first | exact .inl (List.drop_eq_nil_of_le (by omega)) | exact .inr (List.drop_eq_nil_of_le (by omega))), ← List.append_assoc])
    all_goals (exact ((af P b1 b2).append (b1.drop i)).append (b2.drop j))

section
variable {prog : Program} {w : World} {A : Around} {E : Value → Shared → Prop} {s : Shared} {env : Env}

theorem compLoop_any {elt target iter : PySem.Expr} {scope : Scope} {pos : Pos} {it acc : Value} {env : Env} {R : Result → Shared → Prop} (I : Nat → Shared → Prop)
    (turn : ∀ n s, I n s → wpAny (model prog w) A (pyNext it) (fun r s₁ => match r with
      | none => R (.ok .next) s₁
      | some v => wpAny (model prog w) A (letOwnedTupleGo target it v) (fun _ s₁' => wpAny (model prog w) A (assign target env v) (fun _ s₂ => wpAny (model prog w) A (eval elt env) (fun x s₃ =>
          wpAny (model prog w) A (PySem.call (.builtin "list.append") [acc, x]) (fun _ s₄ => ∃ m, m < n ∧ I m s₄) (fun _ _ => False) s₃)
          (fun _ _ => False) s₂) (fun _ _ => False) s₁') (fun _ _ => False) s₁) (fun _ _ => False) s)
    (n : Nat) (h : I n s) :
    codeAny (model prog w) A (.compLoop (.ListComp elt [⟨target, iter, [], 0⟩] scope pos) 0 it acc env) R s := by
  refine codeAny_loop rfl I (fun n s hI => ?_) n h
  show wpAny _ A ((compTurn (.ListComp elt [⟨target, iter, [], 0⟩] scope pos) 0 it acc env).onRaise (fun x => do noteFrame x env; theTreesLotGoes x)) _ _ s
  refine wpAny_noted ?_
  rw [compTurn_list1]
  refine wpAny_bind (wpAny_standAt (wpAny_bind (wpAny_mono (turn n s hI) (fun r s₁ h₁ => ?_) fun _ _ h' => h'.elim)))
  cases r with
  | none => exact wpAny_pure h₁
  | some v =>
    refine wpAny_bind (wpAny_mono h₁ (fun _ s₁' h₁' => ?_) fun _ _ h' => h'.elim)
    exact wpAny_bind (wpAny_mono h₁' (fun _ s₂ h₂ => wpAny_bind (wpAny_bind (wpAny_mono h₂ (fun x s₃ h₃ => wpAny_bind (wpAny_mono h₃
      (fun _ s₄ h₄ => wpAny_pure (wpAny_pure ⟨rfl, h₄⟩)) fun _ _ h' => h'.elim)) fun _ _ h' => h'.elim))) fun _ _ h' => h'.elim)

/-- the end of an element's evaluation -/
def CEnd (g : Heap) (C D I : Addr) (oI : Obj) (ys : List Value) (k : Nat) (Jn : List Value → List (Addr × Obj) → Prop) (s : Shared) (y : Value) (s₂ : Shared) : Prop :=
  ∃ h' tk' m' ms₂, s₂ = ⟨h', s.gens, s.drawn, tk', s.os⟩ ∧ Fr g C h' m' ∧ News g C h' ((D, listOf ys.toArray k) :: (I, oI) :: ms₂) ∧ (∀ p ∈ ms₂, p.1 ≠ D ∧ p.1 ≠ I) ∧ Jn (ys ++ [y]) ms₂

theorem CEnd.intro {g : Heap} {C D I : Addr} {oI : Obj} {ys : List Value} {k : Nat} {Jn : List Value → List (Addr × Obj) → Prop} {s : Shared} {y : Value} {h' : Heap} {tk' : Nat} {m' : Str → Option Value} {all : List (Addr × Obj)}
    (F : Fr g C h' m') (N : News g C h' all) (ms₂ : List (Addr × Obj)) (sub : ∀ p ∈ (D, listOf ys.toArray k) :: (I, oI) :: ms₂, p ∈ all) (off : ∀ p ∈ ms₂, p.1 ≠ D ∧ p.1 ≠ I) (r : Jn (ys ++ [y]) ms₂) :
    CEnd g C D I oI ys k Jn s y ⟨h', s.gens, s.drawn, tk', s.os⟩ := ⟨h', tk', m', ms₂, rfl, F, fun p hp => N p (sub p hp), off, r⟩

theorem comp_coreW {g : Heap} {elt target iter : PySem.Expr} {scope : Scope} {cl : List (Str × Addr)} {pos : Pos} {RR : Value → Addr → Result → Shared → Prop} {n : Nat} {P : Nat → Value → Prop} {St : Nat → Heap → Prop} {o : Obj} {fp : List Addr} {ms : List (Addr × Obj)}
    (hcell : ∀ y ∈ scope.names, y.2 ≠ .cell) (hkind : scope.kind = .function)
    (hgs : g.objs.size ≤ s.heap.objs.size) (hg : Kp g s.heap) (hsz : n ≤ 1000000)
    (hms : ∀ p ∈ ms, s.heap.get? p.1 = some p.2 ∧ g.get? p.1 = none) (W : Walks prog w A s.heap.objs.size fp [s.heap.objs.size] n P St) (hfp : ∀ b ∈ fp, b = s.heap.objs.size ∨ ∃ o, g.get? b = some o) (hobj : ∀ i h, St i h → ∃ o, h.get? s.heap.objs.size = some o) (hst : St 0 (s.heap.push o))
    (J : Nat → List Value → List (Addr × Obj) → Prop) (h0 : J 0 [] ms)
    (turn : ∀ i v ys ms₁ C D I oI k h tk m, P i v → i < n → J i ys ms₁ → I = s.heap.objs.size → St (i + 1) h → Fr g C h m → News g C h ((D, listOf ys.toArray k) :: (I, oI) :: ms₁) → (∀ p ∈ ms₁, p.1 ≠ D ∧ p.1 ≠ I) → D ≠ I → s.heap.objs.size ≤ D →
      wpAny (model prog w) A (letOwnedTupleGo target (.ref I) v) (fun _ s₁ => wpAny (model prog w) A (assign target (compEnvC scope cl C env) v) (fun _ s₂ =>
        wpAny (model prog w) A (eval elt (compEnvC scope cl C env)) (CEnd g C D I oI ys k (J (i + 1)) s) (fun _ _ => False) s₂) (fun _ _ => False) s₁) (fun _ _ => False) ⟨h, s.gens, s.drawn, tk, s.os⟩)
    (done : ∀ D C ys ms₁ h tk k m, J n ys ms₁ → ys.length = n → Fr g C h m → News g C h ((D, listOf ys.toArray k) :: ms₁) → (∀ p ∈ ms₁, p.1 ≠ D) → s.heap.objs.size ≤ D → s.heap.objs.size ≤ C → D ≠ C → RR (.ref D) C (.ok .next) ⟨h, s.gens, s.drawn, tk, s.os⟩) :
    wpAny (model prog w) A (newList []) (fun acc s₃ => wpAny (model prog w) A (newFunctionEnv scope env.globals cl [] env.qual none .none (some env)) (fun cenv s₄ =>
      codeAny (model prog w) A (.compStart (.ListComp elt [⟨target, iter, [], 0⟩] scope pos) 0 (.ref s.heap.objs.size) acc { cenv with scope := relabel scope env }) (RR acc cenv.locals) s₄) E s₃) E ⟨s.heap.push o, s.gens, s.drawn, s.toks, s.os⟩ := by
  refine wpAny_newObj_type (hd := by size_fits) (wpAny_newFunctionEnv hcell (by intro y hy; simp at hy) (fun h₁ hns₁ hsb₁ => ?_) hkind)
  dsimp only at hns₁ hsb₁ ⊢
  generalize hH1 : s.heap.push o = H1 at hns₁ hsb₁ hst ⊢
  have hD : H1.objs.size = s.heap.objs.size + 1 := by rw [← hH1, Heap.size_push]
  generalize hH2 : H1.push { cls := .type "list", dict := none, data := .seq ([] : List Value).toArray } = H2 at hns₁ hsb₁ ⊢
  have hC : H2.objs.size = s.heap.objs.size + 2 := by rw [← hH2, Heap.size_push, hD]
  have hDI : H1.objs.size ≠ s.heap.objs.size := by rw [hD]; exact Nat.succ_ne_self _
  have hDC : H1.objs.size ≠ H2.objs.size := by rw [hD, hC]; exact Nat.ne_of_lt (Nat.lt_succ_self _)
  have hIC : s.heap.objs.size ≠ H2.objs.size := by rw [hC]; exact Nat.ne_of_lt (Nat.lt_succ_of_lt (Nat.lt_succ_self _))
  have fresh : ∀ a, s.heap.objs.size ≤ a → g.get? a = none := fun a ha => by
    cases e : g.get? a with
    | none => rfl
    | some o' => exact absurd (Heap.lt_size (hg _ _ e)) (Nat.not_lt.mpr ha)
  have old1 : ∀ b o, H1.get? b = some o → h₁.get? b = some o := fun b o e => by
    have hb := Heap.lt_size e
    rw [hD] at hb
    exact hsb₁.extBut b o (by rw [hC]; exact Nat.ne_of_lt (Nat.lt_succ_of_lt hb)) (Heap.get?_push_of_some _ (hH2 ▸ Heap.get?_push_of_some _ e))
  have old : ∀ b o, s.heap.get? b = some o → h₁.get? b = some o := fun b o e => old1 b o (hH1 ▸ Heap.get?_push_of_some _ e)
  have hit : St 0 h₁ := W.frame _ _ _ hst fun b _ o e => old1 b o e
  have hacc : h₁.get? H1.objs.size = some (listOf ([] : List Value).toArray 0) := hsb₁.extBut _ _ hDC (Heap.get?_push_of_some _ (hH2 ▸ Heap.get?_push_size _ rfl))
  have F₁ : Fr g H2.objs.size h₁ (fun x => ([] : List (Str × Value)).reverse.lookup x) := ⟨hns₁, fun b o e => old b o (hg b o e), by rw [hC]; exact Nat.le_trans hgs (Nat.le_add_right _ 2)⟩
  have N₁ : News g H2.objs.size h₁ ((H1.objs.size, listOf ([] : List Value).toArray 0) :: ms) := fun p hp => by
    rcases List.mem_cons.mp hp with rfl | hp
    · exact ⟨hacc, hDC, fresh _ (by rw [hD]; exact Nat.le_succ _)⟩
    · refine ⟨old _ _ (hms p hp).1, ?_, (hms p hp).2⟩
      have := Heap.lt_size (hms p hp).1
      rw [hC]; exact Nat.ne_of_lt (Nat.lt_succ_of_lt (Nat.lt_succ_of_lt this))
  have hmsne : ∀ p ∈ ms, p.1 ≠ H1.objs.size ∧ p.1 ≠ s.heap.objs.size := fun p hp => by
    have := Heap.lt_size (hms p hp).1
    rw [hD]; exact ⟨Nat.ne_of_lt (Nat.lt_succ_of_lt this), Nat.ne_of_lt this⟩
  have hI0 : g.get? s.heap.objs.size = none := fresh _ (Nat.le_refl _)
  have hDge : s.heap.objs.size ≤ H1.objs.size := by rw [hD]; exact Nat.le_succ _
  have hCge : s.heap.objs.size ≤ H2.objs.size := by rw [hC]; exact Nat.le_add_right _ 2
  clear hns₁ hsb₁ old old1 hst
  generalize H2.objs.size = C at *
  generalize H1.objs.size = D at *
  generalize hIe : s.heap.objs.size = I at hit hDI hIC hI0 W hobj hfp hmsne
  have loop : ∀ s₃ : Shared, s₃ = ⟨h₁, s.gens, s.drawn, s.toks + ([] : List (Str × Value)).length, s.os⟩ →
      codeAny (model prog w) A (.compLoop (.ListComp elt [⟨target, iter, [], 0⟩] scope pos) 0 (.ref I) (.ref D) (compEnvC scope cl C env)) (RR (.ref D) C) s₃ := by
    rintro s₃ rfl
    refine compLoop_any (fun q s' => ∃ h tk m ys ms₁ k i, s' = ⟨h, s.gens, s.drawn, tk, s.os⟩ ∧ St i h ∧ Fr g C h m ∧ News g C h ((D, listOf (List.toArray ys) k) :: ms₁) ∧ (∀ p ∈ ms₁, p.1 ≠ D ∧ p.1 ≠ I) ∧ J i ys ms₁ ∧
      i ≤ n ∧ ys.length = i ∧ q = n + 1 - i) ?_ (n + 1) ⟨h₁, _, _, [], ms, 0, 0, rfl, hit, F₁, N₁, hmsne, h0, Nat.zero_le _, rfl, rfl⟩
    rintro q s' ⟨h, tk, m, ys, ms₁, k, i, rfl, hit, F, N, hoff, hJ, hi, hy, rfl⟩
    by_cases hlt : i < n
    · refine W.item i ⟨h, s.gens, s.drawn, tk, s.os⟩ _ _ hlt hit fun v h' tk' hP hit' hk' => ?_
      have hk : ∀ b o, b ≠ I → h.get? b = some o → h'.get? b = some o := fun b o hb e => hk' b o (by simpa using hb) e
      have F' : Fr g C h' m := ⟨F.ns.at' fun o e => hk _ o hIC.symm e, fun b o e => hk b o (fun z => by rw [z, hI0] at e; cases e) (F.keep b o e), F.above⟩
      obtain ⟨oI, hoI⟩ := hobj _ _ hit'
      have N' : News g C h' ((D, listOf ys.toArray k) :: (I, oI) :: ms₁) := fun p hp => by
        rcases List.mem_cons.mp hp with rfl | hp
        · have := N (D, listOf ys.toArray k) (List.mem_cons_self ..)
          exact ⟨hk _ _ hDI this.1, this.2⟩
        · rcases List.mem_cons.mp hp with rfl | hp
          · exact ⟨hoI, hIC, hI0⟩
          · have := N p (List.mem_cons_of_mem _ hp)
            exact ⟨hk _ _ (hoff p hp).2 this.1, this.2⟩
      refine wpAny_mono (turn i v ys ms₁ C D I oI k h' tk' m hP hlt hJ hIe.symm hit' F' N' hoff hDI hDge) (fun _ s₁ h₁ => wpAny_mono h₁ (fun _ s₂ h₂ => wpAny_mono h₂ (fun y s₃ h₃ => ?_) fun _ _ x => x) fun _ _ x => x) fun _ _ x => x
      obtain ⟨h₃, tk₃, m₃, ms₂, rfl, F₃, N₃, hoff₃, hJ₃⟩ := h₃
      have hit₃ : St (i + 1) h₃ := W.frame _ _ _ hit' fun b hb o e => by
        rcases hfp b hb with hbI | ⟨o', ho'⟩
        · subst hbI
          rw [hoI] at e; cases e
          exact (N₃ _ (List.mem_cons_of_mem _ (List.mem_cons_self ..))).1
        · rw [F'.keep _ _ ho'] at e; cases e
          exact F₃.keep _ _ ho'
      refine append_K (news' := (D, listOf (ys.toArray.push y) (k + 1)) :: (I, oI) :: ms₂) F₃ N₃ (Upd.head fun p hp => ?_) (fun h₄ F₄ N₄ => ?_) (by rw [sizeLine_eq]; simp; omega)
      · rcases List.mem_cons.mp hp with rfl | hp
        · exact hDI.symm
        · exact (hoff₃ p hp).1
      · have e : ys.toArray.push y = (ys ++ [y]).toArray := by simp
        rw [e] at N₄
        have hit₄ : St (i + 1) h₄ := W.frame _ _ _ hit₃ fun b hb o e => by
          rcases hfp b hb with hbI | ⟨o', ho'⟩
          · subst hbI
            rw [(N₃ _ (List.mem_cons_of_mem _ (List.mem_cons_self ..))).1] at e; cases e
            exact (N₄ _ (List.mem_cons_of_mem _ (List.mem_cons_self ..))).1
          · rw [F₃.keep _ _ ho'] at e; cases e
            exact F₄.keep _ _ ho'
        refine ⟨n + 1 - (i + 1), by omega, h₄, _, _, ys ++ [y], ms₂, k + 1, i + 1, rfl, hit₄, F₄, fun p hp => ?_, hoff₃, hJ₃, hlt, by simp [hy], rfl⟩
        rcases List.mem_cons.mp hp with rfl | hp
        · exact N₄ _ (List.mem_cons_self ..)
        · exact N₄ _ (List.mem_cons_of_mem _ (List.mem_cons_of_mem _ hp))
    · have hin : i = n := by omega
      subst hin
      refine W.done ⟨h, s.gens, s.drawn, tk, s.os⟩ _ _ hit fun h' tk' hk' => ?_
      have hk : ∀ b o, b ≠ I → h.get? b = some o → h'.get? b = some o := fun b o hb e => hk' b o (by simpa using hb) e
      refine done D C ys ms₁ h' tk' k m hJ hy ⟨F.ns.at' fun o e => hk _ o hIC.symm e, fun b o e => hk b o (fun z => by rw [z, hI0] at e; cases e) (F.keep b o e), F.above⟩ (fun p hp => ?_) (fun p hp => (hoff p hp).1) hDge hCge hDC
      have z := N p hp
      refine ⟨hk _ _ ?_ z.1, z.2⟩
      rcases List.mem_cons.mp hp with rfl | hp
      · exact hDI
      · exact (hoff p hp).2
  exact codeAny_compStart_list (loop _ rfl) (W.self 0 _ _ _ hit (loop _ rfl))
theorem comp_core {g : Heap} {l : Addr} {vs : List Value} {ms : List (Addr × Obj)} {elt target iter : PySem.Expr} {scope : Scope} {cl : List (Str × Addr)} {pos : Pos} {RR : Value → Addr → Result → Shared → Prop}
    (hh : A.handled = none) (hcell : ∀ y ∈ scope.names, y.2 ≠ .cell) (hkind : scope.kind = .function)
    (hgs : g.objs.size ≤ s.heap.objs.size) (hg : Kp g s.heap) (hms : ∀ p ∈ ms, s.heap.get? p.1 = some p.2 ∧ g.get? p.1 = none)
    (hl : g.IsList l vs.toArray) (hsz : vs.length ≤ 1000000)
    (J : Nat → List Value → List (Addr × Obj) → Prop) (h0 : J 0 [] ms)
    (turn : ∀ i v ys ms₁ C D I oI k h tk m, vs[i]? = some v → J i ys ms₁ → h.IsListIter I l (i + 1) → Fr g C h m → News g C h ((D, listOf ys.toArray k) :: (I, oI) :: ms₁) → (∀ p ∈ ms₁, p.1 ≠ D ∧ p.1 ≠ I) → D ≠ I → s.heap.objs.size ≤ D →
      wpAny (model prog w) A (letOwnedTupleGo target (.ref I) v) (fun _ s₁ => wpAny (model prog w) A (assign target (compEnvC scope cl C env) v) (fun _ s₂ =>
        wpAny (model prog w) A (eval elt (compEnvC scope cl C env)) (CEnd g C D I oI ys k (J (i + 1)) s) (fun _ _ => False) s₂) (fun _ _ => False) s₁) (fun _ _ => False) ⟨h, s.gens, s.drawn, tk, s.os⟩)
    (done : ∀ D C ys ms₁ h tk k m, J vs.length ys ms₁ → ys.length = vs.length → Fr g C h m → News g C h ((D, listOf ys.toArray k) :: ms₁) → (∀ p ∈ ms₁, p.1 ≠ D) → s.heap.objs.size ≤ D → s.heap.objs.size ≤ C → D ≠ C → RR (.ref D) C (.ok .next) ⟨h, s.gens, s.drawn, tk, s.os⟩) :
    wpAny (model prog w) A (pyIter (.ref l)) (fun it s₂ => wpAny (model prog w) A (newList []) (fun acc s₃ => wpAny (model prog w) A (newFunctionEnv scope env.globals cl [] env.qual none .none (some env)) (fun cenv s₄ =>
      codeAny (model prog w) A (.compStart (.ListComp elt [⟨target, iter, [], 0⟩] scope pos) 0 it acc { cenv with scope := relabel scope env }) (RR acc cenv.locals) s₄) E s₃) E s₂) E s := by
  have hls : s.heap.IsList l vs.toArray := isList_keeps hl hg
  obtain ⟨ol, hol, _⟩ := id hl
  have hll : l ≠ s.heap.objs.size := Nat.ne_of_lt (Heap.lt_size (hg _ _ hol))
  refine wpAny_pyIter_list hls ?_
  refine comp_coreW (n := vs.toArray.size) hcell hkind hgs hg (by simpa using hsz) hms (Walks.list hh s.heap.objs.size l hll vs.toArray) (fun b hb => ?_) (fun i h hs => let ⟨o, ho, _⟩ := hs.1; ⟨o, ho⟩)
    ⟨⟨_, Heap.get?_push_size _ rfl, rfl, rfl⟩, isList_keeps hls fun b o e => Heap.get?_push_of_some _ e⟩ J h0
    (fun i v ys ms₁ C D I oI k h tk m hv _ hJ hI hst F N hoff hDI hD => ?_) (fun D C ys ms₁ h tk k m hJ hy => done D C ys ms₁ h tk k m (by simpa using hJ) (by simpa using hy))
  · rcases List.mem_cons.mp hb with rfl | hb
    · exact .inl rfl
    · cases List.mem_singleton.mp hb
      exact .inr ⟨_, hol⟩
  · exact turn i v ys ms₁ C D I oI k h tk m (by simpa using hv) hJ (by rw [hI]; exact hst.1) F N hoff hDI hD
end

section
variable {w : World} {A : Around} {E : Value → Shared → Prop} {s : Shared} {env : Env}

def CompGo (w : World) (A : Around) (env : Env) (elt target iter : PySem.Expr) (scope : Scope) (cl : List (Str × Addr)) (pos : Pos) (use : Option (Value → Sem Unit)) (Q : Value → Shared → Prop) (E : Value → Shared → Prop) (x : Value) (s₁ : Shared) : Prop :=
  wpAny (MM w) A (pyIter x) (fun it s₂ => wpAny (MM w) A (newList []) (fun acc s₃ => wpAny (MM w) A (newFunctionEnv scope env.globals cl [] env.qual none .none (some env)) (fun cenv s₄ =>
    codeAny (MM w) A (.compStart (.ListComp elt [⟨target, iter, [], 0⟩] scope pos) 0 it acc { cenv with scope := relabel scope env }) (compPost (MM w) A E use Q acc cenv.locals) s₄) E s₃) E s₂) E s₁

theorem comp_eval {elt target iter : PySem.Expr} {scope : Scope} {cl : List (Str × Addr)} {pos : Pos} {Q : Value → Shared → Prop}
    (hclos : closureFor scope env = pure cl) (hkind : scope.kind = .function) (hnames : ∀ x ∈ scope.names, x.2 = .local → scope.names.lookup x.1 = some .local)
    (hs : ∀ x, foldedSetIterable iter env x = pure x)
    (h : wpAny (MM w) A (eval iter env) (CompGo w A env elt target iter scope cl pos none Q E) E s) :
    wpAny (MM w) A (eval (.ListComp elt [⟨target, iter, [], 0⟩] scope pos) env) Q E s := by
  rw [eval_ListComp]
  exact wpAny_comprehension_free (use := none) rfl hs hclos hkind hnames h

theorem comp_assign {elt target iter : PySem.Expr} {scope : Scope} {cl : List (Str × Addr)} {y : Str} {py pos spos : Pos} {Q : Flow → Shared → Prop}
    (hsw : swapsWith (.ListComp elt [⟨target, iter, [], 0⟩] scope pos) (some (.Name y py)) spos.line env = pure true)
    (hclos : closureFor scope env = pure cl) (hkind : scope.kind = .function) (hnames : ∀ x ∈ scope.names, x.2 = .local → scope.names.lookup x.1 = some .local)
    (hs : ∀ x, foldedSetIterable iter env x = pure x)
    (h : wpAny (MM w) A (eval iter env) (CompGo w A env elt target iter scope cl pos (some (assign (.Name y py) env)) (fun _ s' => Q .next s') E) E s) :
    wpAny (MM w) A (exec (.Assign [.Name y py] (.ListComp elt [⟨target, iter, [], 0⟩] scope pos) spos) env) Q E s := by
  rw [exec_Assign_Name_used _ _ _ _ hsw]
  refine wpAny_bind (wpAny_standAt (wpAny_bind ?_))
  show wpAny _ A (do let _ ← comprehension (.ListComp elt [⟨target, iter, [], 0⟩] scope pos) scope env _ (newList []) false (eval iter env) (some (assign (.Name y py) env))) _ _ s
  exact wpAny_bind (wpAny_mono (wpAny_comprehension_free (use := some (assign (.Name y py) env)) (Q := fun _ s' => Q .next s') rfl hs hclos hkind hnames h)
    (fun _ s' hq => wpAny_pure (wpAny_pure hq)) fun _ _ e => e)

theorem comp_after {h₀ h hs' : Heap} {L C D : Addr} {m : Str → Option Value} {news ms : List (Addr × Obj)} {o : Obj} (F : Fr h₀ L hs' m) (N : News h₀ L hs' news)
    (k : Kp hs' h) (hD : hs'.objs.size ≤ D) (hN : News hs' C h ((D, o) :: ms)) : Fr h₀ L h m ∧ News h₀ L h ((D, o) :: (ms ++ news)) := by
  obtain ⟨oL, _, _, hL, _⟩ := id F.ns
  refine ⟨F.keeps k, fun p hp => ?_⟩
  have new : ∀ p ∈ (D, o) :: ms, h.get? p.1 = some p.2 ∧ p.1 ≠ L ∧ h₀.get? p.1 = none := fun p hp => by
    have z := hN p hp
    refine ⟨z.1, fun e => ?_, ?_⟩
    · have := z.2.2; rw [e, hL] at this; cases this
    · cases q : h₀.get? p.1 with
      | none => rfl
      | some o' => have := F.keep _ _ q; rw [z.2.2] at this; cases this
  rcases List.mem_cons.mp hp with rfl | hp
  · exact new _ (List.mem_cons_self ..)
  · rcases List.mem_append.mp hp with hp | hp
    · exact new _ (List.mem_cons_of_mem _ hp)
    · exact ⟨k _ _ (N p hp).1, (N p hp).2⟩

theorem comp_go_pure {h₀ : Heap} {L l : Addr} {m : Str → Option Value} {news : List (Addr × Obj)} {vs : List Value} {elt target iter : PySem.Expr} {scope : Scope} {cl : List (Str × Addr)} {pos : Pos} {Q : Value → Shared → Prop}
    (F : Fr h₀ L s.heap m) (N : News h₀ L s.heap news)
    (hh : A.handled = none) (hcell : ∀ y ∈ scope.names, y.2 ≠ .cell) (hkind : scope.kind = .function)
    (hl : s.heap.IsList l vs.toArray) (hsz : vs.length ≤ 1000000)
    (J : Nat → List Value → List (Addr × Obj) → Prop) (h0 : J 0 [] [])
    (turn : ∀ i v ys ms₁ C D I oI k h tk m, vs[i]? = some v → J i ys ms₁ → h.IsListIter I l (i + 1) → Fr s.heap C h m → News s.heap C h ((D, listOf ys.toArray k) :: (I, oI) :: ms₁) → (∀ p ∈ ms₁, p.1 ≠ D ∧ p.1 ≠ I) → D ≠ I → s.heap.objs.size ≤ D →
      wpAny (MM w) A (letOwnedTupleGo target (.ref I) v) (fun _ s₁ => wpAny (MM w) A (assign target (compEnvC scope cl C env) v) (fun _ s₂ =>
        wpAny (MM w) A (eval elt (compEnvC scope cl C env)) (CEnd s.heap C D I oI ys k (J (i + 1)) s) (fun _ _ => False) s₂) (fun _ _ => False) s₁) (fun _ _ => False) ⟨h, s.gens, s.drawn, tk, s.os⟩)
    (done : ∀ D ys ms₁ h tk k, J vs.length ys ms₁ → ys.length = vs.length → Kp s.heap h → Fr h₀ L h m → News h₀ L h ((D, listOf ys.toArray k) :: (ms₁ ++ news)) → (∀ p ∈ ms₁, p.1 ≠ D) → s.heap.objs.size ≤ D → Q (.ref D) ⟨h, s.gens, s.drawn, tk, s.os⟩) :
    CompGo w A env elt target iter scope cl pos none Q E (.ref l) s := by
  unfold CompGo
  refine comp_core (g := s.heap) (ms := []) hh hcell hkind (Nat.le_refl _) (fun _ _ e => e) (fun p hp => nomatch hp) hl hsz J h0 turn ?_
  intro D C ys ms₁ h tk k m₁ hJ hy FC NC hoff hD hC hDC
  refine ⟨_, FC.ns, fun h' hs' => ?_⟩
  have kp : Kp s.heap h' := fun b o e => hs'.extBut b o (fun q => absurd (Heap.lt_size e) (by rw [q]; exact Nat.not_lt.mpr hC)) (FC.keep b o e)
  have NC' : News s.heap C h' ((D, listOf ys.toArray k) :: ms₁) := NC.set hs'
  obtain ⟨F', N'⟩ := comp_after F N kp hD NC'
  exact done D ys ms₁ h' tk k hJ hy kp F' N' hoff hD

theorem comp_go_pure_assign {h₀ : Heap} {L l : Addr} {m : Str → Option Value} {news : List (Addr × Obj)} {vs : List Value} {elt target iter : PySem.Expr} {scope : Scope} {cl : List (Str × Addr)} {pos py : Pos} {y : Str} {Q : Value → Shared → Prop}
    (F : Fr h₀ L s.heap m) (N : News h₀ L s.heap news) (hL : env.locals = L) (hy : env.kindOf y = some .local) (hp : (env.scope.kind == .class || (env.scope.kind == .module && env.locals != env.globals)) = false)
    (hh : A.handled = none) (hcell : ∀ y ∈ scope.names, y.2 ≠ .cell) (hkind : scope.kind = .function)
    (hl : s.heap.IsList l vs.toArray) (hsz : vs.length ≤ 1000000)
    (J : Nat → List Value → List (Addr × Obj) → Prop) (h0 : J 0 [] [])
    (turn : ∀ i v ys ms₁ C D I oI k h tk m, vs[i]? = some v → J i ys ms₁ → h.IsListIter I l (i + 1) → Fr s.heap C h m → News s.heap C h ((D, listOf ys.toArray k) :: (I, oI) :: ms₁) → (∀ p ∈ ms₁, p.1 ≠ D ∧ p.1 ≠ I) → D ≠ I → s.heap.objs.size ≤ D →
      wpAny (MM w) A (letOwnedTupleGo target (.ref I) v) (fun _ s₁ => wpAny (MM w) A (assign target (compEnvC scope cl C env) v) (fun _ s₂ =>
        wpAny (MM w) A (eval elt (compEnvC scope cl C env)) (CEnd s.heap C D I oI ys k (J (i + 1)) s) (fun _ _ => False) s₂) (fun _ _ => False) s₁) (fun _ _ => False) ⟨h, s.gens, s.drawn, tk, s.os⟩)
    (done : ∀ D ys ms₁ h tk k, J vs.length ys ms₁ → ys.length = vs.length → Fr h₀ L h (fun z => if z = y then some (.ref D) else m z) → News h₀ L h ((D, listOf ys.toArray k) :: (ms₁ ++ news)) → (∀ p ∈ ms₁, p.1 ≠ D) → s.heap.objs.size ≤ D → Q .none ⟨h, s.gens, s.drawn, tk, s.os⟩) :
    CompGo w A env elt target iter scope cl pos (some (assign (.Name y py) env)) Q E (.ref l) s := by
  subst hL
  unfold CompGo
  refine comp_core (g := s.heap) (ms := []) hh hcell hkind (Nat.le_refl _) (fun _ _ e => e) (fun p hp => nomatch hp) hl hsz J h0 turn ?_
  intro D C ys ms₁ h tk k m₁ hJ hys FC NC hoff hD hC hDC
  show wpAny _ A (assign (.Name y py) env (.ref D)) _ _ _
  have kp₀ : Kp s.heap h := FC.keep
  obtain ⟨F₁, N₁⟩ := comp_after F N kp₀ hD NC
  have hLC : env.locals ≠ C := fun q => absurd F.ns.lt (by rw [q]; exact Nat.not_lt.mpr hC)
  refine wpAny_assign_Name (wpAny_storeName_local hy F₁.ns (fun h₂ hn₂ hs₂ => ?_) hp)
  refine ⟨_, FC.ns.sameBut hs₂ (Ne.symm hLC), fun h₃ hs₃ => ?_⟩
  have F₂ := F₁.set hn₂ hs₂
  have N₂ := N₁.set hs₂
  have hC₀ : h₀.get? C = none := by
    cases q : h₀.get? C with
    | none => rfl
    | some o => exact absurd (Heap.lt_size (F.keep _ _ q)) (Nat.not_lt.mpr hC)
  have hne : ∀ p ∈ (D, listOf ys.toArray k) :: (ms₁ ++ news), p.1 ≠ C := fun p hp => by
    rcases List.mem_cons.mp hp with rfl | hp
    · exact hDC
    · rcases List.mem_append.mp hp with hp | hp
      · exact (NC p (List.mem_cons_of_mem _ hp)).2.1
      · exact fun q => absurd (Heap.lt_size (N p hp).1) (by rw [q]; exact Nat.not_lt.mpr hC)
  exact done D ys ms₁ h₃ _ k hJ hys (F₂.change hs₃ hLC.symm hC₀) (fun p hp => ⟨(hs₃.2 _ (hne p hp)).trans (N₂ p hp).1, (N₂ p hp).2⟩) hoff hD
end

section
variable {α : Type}
/-- stable insertion by a key -/
noncomputable def insK (k : α → Int) (y : α) : List α → List α
  | [] => [y]
  | x :: xs => if k x ≤ k y then x :: insK k y xs else y :: x :: xs
noncomputable def sortK (k : α → Int) (l : List α) : List α := l.foldl (fun acc y => insK k y acc) []
def leI (k : α → Int) (x y : α) : Bool := decide (k x ≤ k y)

theorem merge_ins (k : α → Int) (y : α) : ∀ X Y : List α, List.merge X (insK k y Y) (leI k) = insK k y (List.merge X Y (leI k))
  | [], Y => by simp
  | x :: xs, [] => by
    have h : ∀ X : List α, List.merge X [y] (leI k) = insK k y X := by
      intro X
      induction X with
      | nil => simp [insK]
      | cons a as ih =>
        rw [List.cons_merge_cons]
        by_cases h : k a ≤ k y <;> simp [leI, insK, h, ih]
    simpa [insK] using h (x :: xs)
  | x :: xs, z :: zs => by
    by_cases hzy : k z ≤ k y
    · rw [insK, if_pos hzy, List.cons_merge_cons, List.cons_merge_cons]
      by_cases hxz : k x ≤ k z
      · have ih := merge_ins k y xs (z :: zs)
        rw [insK, if_pos hzy] at ih
        have hxy : k x ≤ k y := by omega
        simp only [leI, hxz, decide_true, if_true]
        rw [ih, insK, if_pos hxy]
      · have ih := merge_ins k y (x :: xs) zs
        simp only [leI, hxz, decide_false, Bool.false_eq_true, if_false]
        rw [insK, if_pos hzy]
        exact congrArg (z :: ·) ih
    · rw [insK, if_neg hzy, List.cons_merge_cons]
      by_cases hxy : k x ≤ k y
      · have ih := merge_ins k y xs (z :: zs)
        rw [insK, if_neg hzy] at ih
        have hxz : k x ≤ k z := by omega
        rw [List.cons_merge_cons]
        simp only [leI, hxy, hxz, decide_true, if_true]
        rw [insK, if_pos hxy]
        exact congrArg (x :: ·) ih
      · simp only [leI, hxy, decide_false, Bool.false_eq_true, if_false]
        rw [List.cons_merge_cons]
        by_cases hxz : k x ≤ k z
        · simp only [leI, hxz, decide_true, if_true]; rw [insK, if_neg hxy]
        · simp only [leI, hxz, decide_false, Bool.false_eq_true, if_false]; rw [insK, if_neg hzy]
termination_by X Y => X.length + Y.length

theorem fold_ins (k : α → Int) (X : List α) (b : List α) : b.foldl (fun acc y => insK k y acc) X = List.merge X (sortK k b) (leI k) := by
  rw [← List.reverse_reverse b]
  generalize b.reverse = r
  induction r with
  | nil => simp [sortK]
  | cons y r ih =>
    rw [List.reverse_cons, List.foldl_append, ih]
    simp only [sortK, List.foldl_append, List.foldl_cons, List.foldl_nil]
    rw [merge_ins]
theorem merge_sortK (k : α → Int) (a b : List α) : List.merge (sortK k a) (sortK k b) (leI k) = sortK k (a ++ b) := by
  rw [← fold_ins]; simp only [sortK, List.foldl_append]
theorem sortK_one (k : α → Int) (x : α) : sortK k [x] = [x] := rfl

theorem mem_ins {k : α → Int} {y a : α} : ∀ {l : List α}, a ∈ insK k y l ↔ a = y ∨ a ∈ l
  | [] => by simp [insK]
  | x :: xs => by
    rw [insK]
    split
    · simp only [List.mem_cons, mem_ins (l := xs)]; constructor
      · rintro (h | h | h) <;> simp [h]
      · rintro (h | h | h) <;> simp [h]
    · simp
theorem sortedIns {k : α → Int} {y : α} : ∀ {l : List α}, l.Pairwise (fun a b => k a ≤ k b) → (insK k y l).Pairwise (fun a b => k a ≤ k b)
  | [], _ => by simp [insK]
  | x :: xs, h => by
    rw [insK]
    have hx := List.pairwise_cons.mp h
    split
    · rename_i hxy
      refine List.pairwise_cons.mpr ⟨fun a ha => ?_, sortedIns hx.2⟩
      rcases mem_ins.mp ha with rfl | ha
      · exact hxy
      · exact hx.1 a ha
    · rename_i hxy
      refine List.pairwise_cons.mpr ⟨fun a ha => ?_, h⟩
      rcases List.mem_cons.mp ha with rfl | ha
      · omega
      · have := hx.1 a ha; omega
theorem sorted_fold {k : α → Int} : ∀ (b : List α) {X : List α}, X.Pairwise (fun a b => k a ≤ k b) → (b.foldl (fun acc y => insK k y acc) X).Pairwise (fun a b => k a ≤ k b)
  | [], _, h => h
  | _ :: b, _, h => sorted_fold b (sortedIns h)
theorem sorted_sortK (k : α → Int) (l : List α) : (sortK k l).Pairwise (fun a b => k a ≤ k b) := sorted_fold l List.Pairwise.nil
theorem mem_fold {k : α → Int} {a : α} : ∀ (b : List α) {X : List α}, a ∈ b.foldl (fun acc y => insK k y acc) X ↔ a ∈ X ∨ a ∈ b
  | [], X => by simp
  | y :: b, X => by
    rw [List.foldl_cons, mem_fold b, mem_ins]
    simp only [List.mem_cons]
    constructor
    · rintro ((h | h) | h) <;> simp [h]
    · rintro (h | h | h) <;> simp [h]
theorem mem_sortK {k : α → Int} {a : α} {l : List α} : a ∈ sortK k l ↔ a ∈ l := by rw [sortK, mem_fold]; simp
theorem length_ins {k : α → Int} {y : α} : ∀ {l : List α}, (insK k y l).length = l.length + 1
  | [] => rfl
  | x :: xs => by rw [insK]; split <;> simp [length_ins (l := xs)]
theorem length_fold {k : α → Int} : ∀ (b : List α) {X : List α}, (b.foldl (fun acc y => insK k y acc) X).length = X.length + b.length
  | [], _ => rfl
  | y :: b, X => by rw [List.foldl_cons, length_fold b, length_ins, List.length_cons]; omega
theorem length_sortK {k : α → Int} {l : List α} : (sortK k l).length = l.length := by rw [sortK, length_fold]; simp

theorem ins_last {k : α → Int} {y : α} : ∀ {l : List α}, (∀ a ∈ l, k a ≤ k y) → insK k y l = l ++ [y]
  | [], _ => rfl
  | x :: xs, h => by rw [insK, if_pos (h x (by simp)), ins_last fun a ha => h a (by simp [ha])]; rfl
theorem ins_snoc {k : α → Int} {y w : α} (h : ¬ k w ≤ k y) : ∀ {l : List α}, insK k y (l ++ [w]) = insK k y l ++ [w]
  | [] => by simp [insK, h]
  | x :: xs => by
    rw [List.cons_append, insK, insK]
    split
    · rw [ins_snoc h]; rfl
    · rfl
theorem fold_sorted {k : α → Int} : ∀ (b X : List α), (X ++ b).Pairwise (fun a b => k a ≤ k b) → b.foldl (fun acc y => insK k y acc) X = X ++ b
  | [], X, _ => by simp
  | y :: b, X, h => by
    have hy : ∀ a ∈ X, k a ≤ k y := fun a ha => (List.pairwise_append.mp h).2.2 a ha y (by simp)
    rw [List.foldl_cons, ins_last hy, fold_sorted b (X ++ [y]) (by simpa using h)]
    simp
theorem sortK_sorted {k : α → Int} {l : List α} (h : l.Pairwise (fun a b => k a ≤ k b)) : sortK k l = l := by
  rw [sortK, fold_sorted l [] (by simpa using h)]; rfl
theorem sortK_idem (k : α → Int) (l : List α) : sortK k (sortK k l) = sortK k l := sortK_sorted (sorted_sortK k l)

theorem merge_turn {k : α → Int} {y : α} : ∀ r : List α, r.reverse.Pairwise (fun a b => k a ≤ k b) → List.merge [y] r (leI fun a => - k a) = (insK k y r.reverse).reverse
  | [], _ => by simp [insK]
  | w :: ws, h => by
    rw [List.reverse_cons] at h
    have hw := List.pairwise_append.mp h
    rw [List.cons_merge_cons, List.reverse_cons]
    by_cases hwy : k w ≤ k y
    · have : leI (fun a => - k a) y w = true := by simp [leI]; exact hwy
      rw [if_pos this, ins_last fun a ha => by
        rcases List.mem_append.mp ha with ha | ha
        · have := hw.2.2 a ha w (by simp); omega
        · rw [List.mem_singleton.mp ha]; exact hwy]
      simp
    · have : leI (fun a => - k a) y w = false := by simp [leI]; omega
      rw [if_neg (by simp [this]), ins_snoc hwy, merge_turn ws hw.1]
      simp
theorem sortK_turn (k : α → Int) (l : List α) : sortK (fun a => - k a) l.reverse = (sortK k l).reverse := by
  rw [← List.reverse_reverse l]
  generalize l.reverse = r
  rw [List.reverse_reverse]
  induction r with
  | nil => rfl
  | cons y r ih =>
    have e1 : sortK (fun a => - k a) (y :: r) = List.merge [y] (sortK (fun a => - k a) r) (leI fun a => - k a) := by
      rw [← fold_ins]; rfl
    have e2 : sortK k (y :: r).reverse = insK k y (sortK k r.reverse) := by
      simp [sortK, List.foldl_append]
    rw [e1, e2, ih, merge_turn _ (by simpa using sorted_sortK k r.reverse), List.reverse_reverse]
theorem sortK_congr {k k' : α → Int} {l : List α} (h : ∀ a ∈ l, k a = k' a) : sortK k l = sortK k' l := by
  have ins : ∀ (X : List α) (y : α), (∀ a ∈ X, k a = k' a) → k y = k' y → insK k y X = insK k' y X := by
    intro X y
    induction X with
    | nil => intros; rfl
    | cons x xs ih => intro hx hy; rw [insK, insK, hx x (by simp), hy, ih (fun a ha => hx a (by simp [ha])) hy]
  have fold : ∀ (b X : List α), (∀ a ∈ X, k a = k' a) → (∀ a ∈ b, k a = k' a) → b.foldl (fun acc y => insK k y acc) X = b.foldl (fun acc y => insK k' y acc) X := by
    intro b
    induction b with
    | nil => intros; rfl
    | cons y b ih =>
      intro X hX hb
      rw [List.foldl_cons, List.foldl_cons, ins X y hX (hb y (by simp))]
      refine ih _ (fun a ha => ?_) (fun a ha => hb a (by simp [ha]))
      rcases mem_ins.mp ha with rfl | ha
      · exact hb _ (by simp)
      · exact hX a ha
  exact fold l [] (by simp) h
/-- insertion from the right, as the law does it -/
theorem ins_right {k : α → Int} {y : α} {X : List α} {n : Nat} (hn : n ≤ X.length) (h1 : ∀ j a, n ≤ j → X[j]? = some a → k y < k a) (h2 : X.Pairwise (fun a b => k a ≤ k b)) (h3 : n = 0 ∨ ∃ a, X[n - 1]? = some a ∧ k a ≤ k y) :
    X.take n ++ [y] ++ X.drop n = insK k y X := by
  induction X generalizing n with
  | nil => simp at hn; subst hn; rfl
  | cons x xs ih =>
    have hx := List.pairwise_cons.mp h2
    cases n with
    | zero =>
      have := h1 0 x (Nat.le_refl _) rfl
      rw [insK, if_neg (by omega)]; rfl
    | succ n =>
      have hxy : k x ≤ k y := by
        rcases h3 with h3 | ⟨a, ha, hay⟩
        · omega
        · cases n with
          | zero => simp at ha; subst ha; exact hay
          | succ n =>
            have : a ∈ xs := by
              simp at ha
              exact List.mem_of_getElem? ha
            have := hx.1 a this
            omega
      rw [insK, if_pos hxy, ← ih (by simpa using hn) (fun j a hj ha => h1 (j + 1) a (by omega) (by simpa using ha)) hx.2 ?_]
      · rfl
      · cases n with
        | zero => exact .inl rfl
        | succ n =>
          rcases h3 with h3 | ⟨a, ha, hay⟩
          · omega
          · exact .inr ⟨a, by simpa using ha, hay⟩
theorem merge_congr {le le' : α → α → Bool} : ∀ {X Y : List α}, (∀ x ∈ X, ∀ y ∈ Y, le x y = le' x y) → List.merge X Y le = List.merge X Y le'
  | [], Y, _ => by simp
  | x :: xs, [], _ => by simp
  | x :: xs, y :: ys, h => by
    rw [List.cons_merge_cons, List.cons_merge_cons, h x (by simp) y (by simp), merge_congr (X := xs) (Y := y :: ys) fun a ha b hb => h a (by simp [ha]) b hb, merge_congr (X := x :: xs) (Y := ys) fun a ha b hb => h a ha b (by simp [hb])]
termination_by X Y => X.length + Y.length
end

/-- the place of a text in its order -/
def orderOf : Option Bool → List Str
  | none => ["", "A", "AB", "Ba", "a", "aB", "ab", "b"]
  | some true => ["", "A", "a", "AB", "aB", "ab", "b", "Ba"]
  | some false => ["", "a", "A", "ab", "aB", "AB", "b", "Ba"]
def rankT (u : Option Bool) (s : Str) : Int := ((orderOf u).idxOf s : Nat)
def rankN (x y : Int) : Int := if y = 0 then (if x = 0 then -1000 else x * 500) else x * (6 / y)
def keyI (o : Ord) : Val → Int
  | .num x y => if o.down = true then - rankN x y else rankN x y
  | .txt s => if o.down = true then - rankT o.up s else rankT o.up s

theorem cmpT_rank : ∀ u ∈ [none, some true, some false], ∀ a ∈ texts, ∀ b ∈ texts, cmpT u a b = sgn (rankT u a) (rankT u b) := by
  decide +kernel
theorem uf_mem (u : Option Bool) : u ∈ [none, some true, some false] := by rcases u with _ | _ | _ <;> simp
theorem sgn_neg (a b : Int) : sgn (-a) (-b) = - sgn a b := by
  unfold sgn; split <;> split <;> (try split) <;> (try split) <;> omega
def numB (x y : Int) : Bool := y != 0 || (decide (-1 ≤ x) && decide (x ≤ 1))
def numXs : List Int := [-7, -6, -5, -4, -3, -2, -1, 0, 1, 2, 3, 4, 5, 6, 7]
def numYs : List Int := [0, 1, 2, 3]
/-- a fact of every two numbers of the law's kind, asked by trying them all -/
def numAll (P : Int → Int → Int → Int → Bool) : Bool := numXs.all fun x => numYs.all fun y => !numB x y || numXs.all fun x' => numYs.all fun y' => !numB x' y' || P x y x' y'
theorem numXs_mem {x : Int} (h : -7 ≤ x) (h' : x ≤ 7) : x ∈ numXs := by
  obtain ⟨n, hn, rfl⟩ : ∃ n : Nat, n < 15 ∧ x = (n : Int) - 7 := ⟨(x + 7).toNat, by omega, by omega⟩
  revert n; decide +kernel
theorem numYs_mem {y : Int} (h : 0 ≤ y) (h' : y ≤ 3) : y ∈ numYs := by
  obtain ⟨n, hn, rfl⟩ : ∃ n : Nat, n < 4 ∧ y = (n : Int) := ⟨y.toNat, by omega, by omega⟩
  revert n; decide +kernel
theorem numB_of {x y : Int} (h : y = 0 → -1 ≤ x ∧ x ≤ 1) : numB x y = true := by
  unfold numB
  by_cases e : y = 0
  · simp [e, h e]
  · simp [e]
theorem numAll_of {P : Int → Int → Int → Int → Bool} (hP : numAll P = true) {x y x' y' : Int} (h : NumOk x y) (h' : NumOk x' y') : P x y x' y' = true := by
  obtain ⟨a1, a2, a3, a4, a5⟩ := h
  obtain ⟨b1, b2, b3, b4, b5⟩ := h'
  have q := List.all_eq_true.mp (List.all_eq_true.mp hP x (numXs_mem a1 a2)) y (numYs_mem a3 a4)
  rw [numB_of a5, Bool.not_true, Bool.false_or] at q
  have q := List.all_eq_true.mp (List.all_eq_true.mp q x' (numXs_mem b1 b2)) y' (numYs_mem b3 b4)
  rw [numB_of b5, Bool.not_true, Bool.false_or] at q
  exact q
theorem cmpN_rank {x y x' y' : Int} (h : NumOk x y) (h' : NumOk x' y') : cmpN x y x' y' = sgn (rankN x y) (rankN x' y') :=
  eq_of_beq (numAll_of (P := fun x y x' y' => cmpN x y x' y' == sgn (rankN x y) (rankN x' y')) (by decide +kernel) h h')
theorem rankN_bound {x y : Int} (h : NumOk x y) : -1000 ≤ rankN x y ∧ rankN x y ≤ 1000 :=
  of_decide_eq_true (numAll_of (P := fun x y _ _ => decide (-1000 ≤ rankN x y ∧ rankN x y ≤ 1000)) (by decide +kernel) h h)
theorem rankT_bound (u : Option Bool) (s : Str) : 0 ≤ rankT u s ∧ rankT u s ≤ 8 := by
  unfold rankT
  have h : (orderOf u).length = 8 := by rcases u with _ | _ | _ <;> rfl
  have := List.idxOf_le_length (a := s) (l := orderOf u)
  omega
theorem keyI_bound {o : Ord} {d : Val} (h : ValOk o.num d) : -1000 ≤ keyI o d ∧ keyI o d ≤ 1000 := by
  cases d with
  | num x y =>
    have := rankN_bound h.2
    unfold keyI
    dsimp only
    split <;> omega
  | txt s =>
    have := rankT_bound o.up s
    unfold keyI
    dsimp only
    split <;> omega
theorem cmpV_key {o : Ord} {d e : Val} (h : ValOk o.num d) (h' : ValOk o.num e) : cmpV o d e = sgn (keyI o d) (keyI o e) := by
  cases d with
  | num x y =>
    cases e with
    | txt _ => obtain ⟨q, _⟩ := h; obtain ⟨q', _⟩ := h'; rw [q] at q'; cases q'
    | num x' y' =>
      unfold cmpV keyI
      dsimp only
      rw [cmpN_rank h.2 h'.2]
      split
      · rw [sgn_neg]
      · rfl
  | txt x =>
    cases e with
    | num _ _ => obtain ⟨q, _⟩ := h; obtain ⟨q', _⟩ := h'; rw [q] at q'; cases q'
    | txt x' =>
      unfold cmpV keyI
      dsimp only
      rw [cmpT_rank _ (uf_mem _) _ h.2 _ h'.2]
      split
      · rw [sgn_neg]
      · rfl

noncomputable def keyR : List Ord → List Val → Int
  | o :: os, d :: ds => keyI o d * 4001 ^ os.length + keyR os ds
  | _, _ => 0
theorem keyR_bound {os : List Ord} {ds : List Val} (h : RowOk os ds) : 2 * keyR os ds < 4001 ^ os.length ∧ -(4001 ^ os.length) < 2 * keyR os ds := by
  induction h with
  | nil => simp [keyR]
  | @cons o d os ds p _ ih =>
    have b := keyI_bound p
    simp only [keyR, List.length_cons, Int.pow_succ]
    generalize (4001 : Int) ^ os.length = B at ih ⊢
    have h1 : keyI o d * B ≤ 1000 * B := Int.mul_le_mul_of_nonneg_right b.2 (by omega)
    have h2 : -1000 * B ≤ keyI o d * B := Int.mul_le_mul_of_nonneg_right b.1 (by omega)
    omega
theorem sgn_lex {a b B x y : Int} (hx : 2 * x < B) (hx' : -B < 2 * x) (hy : 2 * y < B) (hy' : -B < 2 * y) : sgn (a * B + x) (b * B + y) = if sgn a b ≠ 0 then sgn a b else sgn x y := by
  have key : ∀ {a b x y : Int}, 2 * x < B → -B < 2 * x → 2 * y < B → -B < 2 * y → a < b → a * B + x < b * B + y := by
    intro a b x y hx hx' hy hy' h
    have h1 : (a + 1) * B ≤ b * B := Int.mul_le_mul_of_nonneg_right (by omega) (by omega)
    rw [Int.add_mul, Int.one_mul] at h1
    omega
  rcases Int.lt_trichotomy a b with h | h | h
  · have := key hx hx' hy hy' h
    have e : sgn a b = -1 := by unfold sgn; rw [if_pos h]
    rw [e]; unfold sgn; rw [if_pos this]; rfl
  · subst h
    have e : sgn a a = 0 := by unfold sgn; simp
    rw [e, if_neg (fun q => q rfl)]; unfold sgn
    simp only [Int.add_lt_add_iff_left]
  · have := key hy hy' hx hx' h
    have e : sgn a b = 1 := by unfold sgn; rw [if_neg (by omega), if_pos h]
    rw [e]; unfold sgn; rw [if_neg (by omega), if_pos this]; rfl
theorem cmpR_key {os : List Ord} {ds es : List Val} (h : RowOk os ds) (h' : RowOk os es) : cmpR os ds es = sgn (keyR os ds) (keyR os es) := by
  induction h generalizing es with
  | nil => cases h'; rfl
  | @cons o d os ds p q ih =>
    cases h' with
    | @cons _ e _ es p' q' =>
      have b1 := keyR_bound q
      have b2 := keyR_bound q'
      rw [cmpR, keyR, keyR, sgn_lex b1.1 b1.2 b2.1 b2.2, cmpV_key p p', ih q']
/-- the key of a pair -/
noncomputable def keyP (os : List Ord) (p : List Val × Int) : Int := keyR os p.1
theorem sgn_le {a b : Int} : (sgn a b ≤ 0) ↔ a ≤ b := by unfold sgn; split <;> (try split) <;> omega
theorem leP_key {os : List Ord} {p q : List Val × Int} (h : RowOk os p.1) (h' : RowOk os q.1) : leP os p q = leI (keyP os) p q := by
  unfold leP leI keyP
  rw [cmpR_key h h']
  exact decide_eq_decide.mpr sgn_le
def turnO (o : Ord) : Ord := { o with down := !o.down }
theorem keyI_turn (o : Ord) (d : Val) : keyI (turnO o) d = - keyI o d := by
  obtain ⟨n, dn, u⟩ := o
  cases d <;> cases dn <;> simp [keyI, turnO]
theorem keyR_turn : ∀ (os : List Ord) (ds : List Val), keyR (os.map turnO) ds = - keyR os ds
  | [], _ => by simp [keyR]
  | _ :: _, [] => by simp [keyR]
  | o :: os, d :: ds => by
    rw [List.map_cons, keyR, keyR, keyI_turn, keyR_turn os ds, List.length_map, Int.neg_mul]; omega
theorem rowOk_turn {os : List Ord} {ds : List Val} (h : RowOk os ds) : RowOk (os.map turnO) ds := by
  induction h with
  | nil => exact .nil
  | cons p _ ih => exact .cons p ih
theorem merge_key {os : List Ord} {ps qs : List (List Val × Int)} (gp : ∀ p ∈ ps, RowOk os p.1) (gq : ∀ p ∈ qs, RowOk os p.1) : List.merge ps qs (leP os) = List.merge ps qs (leI (keyP os)) :=
  merge_congr fun x hx y hy => leP_key (gp x hx) (gq y hy)

def ListIn (news : List (Addr × Obj)) (a : Addr) (vs : List Value) : Prop := ∃ o n, (a, o) ∈ news ∧ o.cls = .type "list" ∧ o.data = .seq vs.toArray n
theorem ListIn.isList {h₀ h : Heap} {L a : Addr} {news : List (Addr × Obj)} {vs : List Value} (x : ListIn news a vs) (N : News h₀ L h news) : h.IsList a vs.toArray := let ⟨o, n, m, c, d⟩ := x; ⟨o, (N _ m).1, c, n, d⟩
theorem ListIn.mono {news news' : List (Addr × Obj)} {a vs} (x : ListIn news a vs) (s : ∀ p ∈ news, p ∈ news') : ListIn news' a vs := let ⟨o, n, m, c⟩ := x; ⟨o, n, s _ m, c⟩
/-- a run: a list of the ledger that holds pairs of the ground -/
def RunIn (g : Heap) (news : List (Addr × Obj)) (v : Value) (ps : List (List Val × Int)) : Prop := ∃ a vs, v = .ref a ∧ ListIn news a vs ∧ All2 (PairAt g) vs ps
theorem RunIn.mono {g news news' v ps} (x : RunIn g news v ps) (s : ∀ p ∈ news, p ∈ news') : RunIn g news' v ps := let ⟨a, vs, e, l, p⟩ := x; ⟨a, vs, e, l.mono s, p⟩
theorem runs_mono {g : Heap} {news news' : List (Addr × Obj)} {vs : List Value} {pss : List (List (List Val × Int))} (x : All2 (RunIn g news) vs pss) (s : ∀ p ∈ news, p ∈ news') : All2 (RunIn g news') vs pss := x.imp fun _ _ q => q.mono s
theorem RunIn.pairs {g h : Heap} {L : Addr} {news v ps} (x : RunIn g news v ps) (N : News g L h news) (k : Kp g h) : ∃ a vs, v = .ref a ∧ h.IsList a (List.toArray vs) ∧ All2 (PairAt h) vs ps ∧ All2 (PairAt g) vs ps := let ⟨a, vs, e, l, p⟩ := x; ⟨a, vs, e, l.isList N, p.imp fun _ _ q => q.keeps k, p⟩

section
variable {α : Type}
noncomputable def pairUp : List (List α) → List (List α)
  | a :: b :: r => (a ++ b) :: pairUp r
  | r => r
theorem pairUp_flat : ∀ l : List (List α), (pairUp l).flatten = l.flatten
  | [] => rfl
  | [_] => rfl
  | a :: b :: r => by simp [pairUp, pairUp_flat r]
theorem pairUp_len : ∀ l : List (List α), (pairUp l).length = (l.length + 1) / 2
  | [] => by simp [pairUp]
  | [_] => by simp [pairUp]
  | a :: b :: r => by simp [pairUp, pairUp_len r]; omega
theorem pairUp_get : ∀ (l : List (List α)) (i : Nat) (a b : List α), l[2 * i]? = some a → l[2 * i + 1]? = some b → (pairUp l)[i]? = some (a ++ b)
  | [], _, _, _, h, _ => by simp at h
  | [_], i, _, _, _, h => by simp at h
  | x :: y :: r, 0, a, b, h, h' => by simp at h h'; subst h h'; rfl
  | x :: y :: r, i + 1, a, b, h, h' => by
    rw [pairUp, List.getElem?_cons_succ]
    exact pairUp_get r i a b (by rw [← h, show 2 * (i + 1) = 2 * i + 1 + 1 by omega]; simp) (by rw [← h', show 2 * (i + 1) + 1 = 2 * i + 1 + 1 + 1 by omega]; simp)
theorem pairUp_odd : ∀ (l : List (List α)), l.length % 2 = 1 → (pairUp l)[l.length / 2]? = l[l.length - 1]?
  | [], h => by simp at h
  | [_], _ => by simp [pairUp]
  | x :: y :: r, h => by
    have hr : r.length % 2 = 1 := by simp at h; omega
    have ih := pairUp_odd r hr
    have e1 : (x :: y :: r).length / 2 = r.length / 2 + 1 := by simp; omega
    have e2 : (x :: y :: r).length - 1 = (r.length - 1) + 1 + 1 := by simp; omega
    rw [e1, e2, pairUp, List.getElem?_cons_succ, ih]; simp
theorem pairUp_take {l : List (List α)} {i : Nat} {a b : List α} (h : l[2 * i]? = some a) (h' : l[2 * i + 1]? = some b) : (pairUp l).take (i + 1) = (pairUp l).take i ++ [a ++ b] := by
  rw [List.take_add_one, pairUp_get l i a b h h']; rfl
end

theorem flat_one {α : Type} : ∀ l : List α, (l.map fun p => [p]).flatten = l
  | [] => rfl
  | p :: l => by rw [List.map_cons, List.flatten_cons, flat_one l]; rfl
theorem WTest.dec {w A h₀ L s env body J n Q s₂} {p : Prop} [Decidable p] (h1 : p → wpAny (MM w) A (execs body env) (WPost h₀ L s J n Q) (fun _ _ => False) s₂) (h2 : ¬ p → Q .next s₂) : WTest w A h₀ L s env body J n Q (decide p) s₂ := by
  by_cases h : p
  · rw [decide_eq_true h]; exact WTest.tt (h1 h)
  · rw [decide_eq_false h]; exact WTest.ff (h2 h)

theorem nameG_L {M : Model} {A : Around} {E : Value → Shared → Prop} {s : Shared} {env : Env} {h₀ : Heap} {L : Addr} {m : Str → Option Value} {x : Str} {pos : Pos} {v : Value} {Q : Value → Shared → Prop}
    (F : Fr h₀ L s.heap m) (hL : env.locals = L) (hv : m x = some v) (hk : env.scope.kind = .function) (hx : env.kindOf x = some .local) (hd : (x == ("__debug__" : Str)) = false) (h : Q v s) :
    wpAny M A (eval (.Name x pos) env) Q E s := by
  subst hL
  exact wpAny_Name (wpAny_loadName_local hk hx F.ns hv h) hd
theorem storeG_L {M : Model} {A : Around} {E : Value → Shared → Prop} {s : Shared} {env : Env} {h₀ : Heap} {L : Addr} {m : Str → Option Value} {news : List (Addr × Obj)} {x : Str} {v : Value} {Q : Unit → Shared → Prop}
    (F : Fr h₀ L s.heap m) (N : News h₀ L s.heap news) (hL : env.locals = L) (hk : env.scope.kind = .function) (hx : env.kindOf x = some .local)
    (h : ∀ h', Fr h₀ L h' (fun y => if y = x then some v else m y) → News h₀ L h' news → Q () ⟨h', s.gens, s.drawn, s.toks + 1, s.os⟩) : wpAny M A (storeName env x v) Q E s := by
  subst hL
  exact wpAny_storeName_local hx F.ns (fun h' hn hs => h h' (F.set hn hs) (N.set hs)) (by rw [hk]; rfl)

theorem itemNeg {prog : Program} {w : World} {A : Around} {E : Value → Shared → Prop} {s : Shared} {value slice : PySem.Expr} {l : Addr} {vs : List Value} {u : Tok} {x : Value} {Q : Value → Shared → Prop} (hl : s.heap.IsList l vs.toArray) (hx : vs[vs.length - 1]? = some x) (h : Q x s)
    (hs : subscripted slice false (.ref l) (.int (-1) u) = operate [.ref l, .int (-1) u] (getItem (.ref l) (.int (-1) u))) : wpAny (model prog w) A (subscriptTail value slice (.ref l) (.int (-1) u)) Q E s := by
  have hlt : vs.length - 1 < vs.length := by
    rcases Nat.lt_or_ge (vs.length - 1) vs.length with h | h
    · exact h
    · rw [List.getElem?_eq_none h] at hx; cases hx
  refine tail_any hl.typeIs slot_list_getitem.lookup (wpAny_getItem_list_neg hl (by decide) (by simp; omega) (by decide) (x := x) ?_ h) hs
  have e : ((-1 : Int) + ((vs.toArray.size : Nat) : Int)).toNat = vs.length - 1 := by simp; omega
  rw [e]; simpa using hx
theorem ne_nil {prog : Program} {w : World} {A : Around} {E : Value → Shared → Prop} {s : Shared} {l b : Addr} {vs : List Value} {Q : Value → Shared → Prop} (hl : s.heap.IsList l vs.toArray) (hb : s.heap.IsList b #[]) (hu : A.units + 64 < cLine) (h : Q (.bool (decide (vs ≠ []))) s) :
    wpAny (model prog w) A (compareOp .NotEq (.ref l) (.ref b)) Q E s := by
  refine cmp_ofNotEq ?_
  cases vs with
  | nil => exact SeqAt.RcNeAt.lists (e := fun _ => true) hl hb rfl (by omega) (fun j h1 => by simp at h1) prog w E Q h
  | cons a r => exact SeqAt.RcNeAt.lists_lengths hl hb (by simp) (by omega) prog w E Q h
theorem range_two {n : Nat} (h : 1 < n) (h' : n ≤ 1000) : Builtin.Range.small 0 ((n : Int) - 1) 2 = true ∧ Builtin.Range.rangeSize 0 ((n : Int) - 1) 2 = ((n / 2 : Nat) : Int) := by
  have e : Builtin.Range.rangeSize 0 ((n : Int) - 1) 2 = ((n / 2 : Nat) : Int) := by
    unfold Builtin.Range.rangeSize
    simp only [show (2 : Int) > 0 by decide, if_true]
    rw [if_pos (by omega)]
    omega
  refine ⟨?_, e⟩
  unfold Builtin.Range.small
  rw [e]
  simp only [Builtin.Range.rangeFitsLong, Bool.and_eq_true, Bool.or_eq_true, decide_eq_true_eq, beq_iff_eq, show (2 : Int) > 0 by decide, if_true]
  omega
theorem news_add {h₀ h h' : Heap} {L l : Addr} {news : List (Addr × Obj)} {o oL : Obj} (hL : h.get? L = some oL) (k : Kp h₀ h) (N : News h₀ L h' news) (f : h.get? l = none) (e : h'.get? l = some o) : News h₀ L h' ((l, o) :: news) := by
  intro p hp
  rcases List.mem_cons.mp hp with rfl | hp
  · refine ⟨e, fun q => ?_, ?_⟩
    · rw [show l = L from q, hL] at f; cases f
    · cases q : h₀.get? l with
      | none => rfl
      | some o' => have := k _ _ q; rw [f] at this; cases this
  · exact N p hp
theorem mem_seg {α : Type} {segs : List (List α)} {ps a : List α} (h : segs.flatten = ps) (ha : a ∈ segs) : (∀ x ∈ a, x ∈ ps) ∧ a.length ≤ ps.length := by
  subst h
  refine ⟨fun x hx => List.mem_flatten.mpr ⟨a, ha, hx⟩, ?_⟩
  induction segs with
  | nil => cases ha
  | cons b r ih =>
    rw [List.flatten_cons, List.length_append]
    rcases List.mem_cons.mp ha with rfl | ha
    · omega
    · have := ih ha; omega
--MACROS
local macro_rules | `(tactic| walk_at "UNPC") => `(tactic| ((case k1 => exact Ok.h ‹_›); (case k2 => exact rfl); (case k3 => exact rfl)))
local macro_rules | `(tactic| walk_at "compareOp NotEq ref ref") => `(tactic| k_dflt (refine ne_nil (by is_list) (by is_list) (Ok.units ‹_›) ?_))
local macro_rules | `(tactic| walk_at "assign Tuple") => `(tactic| (k_here; (with_reducible show wpAny _ _ (assign (PySem.Expr.Tuple _ _ _) _ (Value.ref _)) _ _ _); k_dflt (refine' unpackN_ ?F ?N ?T ?k1 ?k2 ?k3 ?_; walk_at "KFN"; (case T => exact IsTup.keeps ‹_› (Fr.keep ‹_›)); walk_at "UNPC"); intro h' F' N'; (try k_sweep)))
local macro_rules | `(tactic| walk_at "subscriptTail Name UnaryOp ref int") => `(tactic| k_dflt (refine' itemNeg ?l ?c ?_ ?e; (case l => is_list); (case c => assumption); (case e => with_unfolding_all rfl); k_whole))
local macro_rules | `(tactic| walk_at "call ref") => `(tactic| k_dflt ((refine callP (by with_reducible assumption) (by with_reducible assumption) (fun R hr => merged_ok (by walk_at "AMB") (by walk_at "OK") (by exact OrdsAt.keeps ‹_› (Fr.keep ‹_›)) ‹_› ‹_› ‹_› ‹_› ‹_› ‹_› ‹_› ‹_› ‹_› hr) ?_); rintro v2 h2 t2 k2 ⟨l2, w2, e2, f2, p2, q2⟩ F2 N2; subst e2; (try k_sweep)))
local macro_rules | `(tactic| walk_at "NL") => `(tactic| (refine' nameG_L ?k1 ?k3 ?k2 ?k4 ?k5 ?k6 ?_; (case k1 => k_asm); (case k3 => exact rfl); (case k5 => exact rfl); (case k2 => walk_at "LOOK"); (case k4 => exact rfl); (case k6 => decide); k_whole))
local macro_rules | `(tactic| walk_at "INCOMP") => `(tactic| (with_reducible show wpAny _ _ (eval _ (compEnvC _ _ _ _)) _ _ _))
local macro_rules | `(tactic| walk_at "eval Name") => `(tactic| (k_here; walk_at "INCOMP"; k_dflt (walk_at "NL")))
local macro_rules | `(tactic| walk_at "storeName") => `(tactic| (k_here; (with_reducible show wpAny _ _ (storeName (compEnvC _ _ _ _) _ _) _ _ _); k_dflt (refine' storeG_L ?k1 ?k2 ?k3 ?k4 ?k5 ?_; (case k1 => k_asm); (case k2 => k_asm); (case k3 => exact rfl); (case k4 => exact rfl); (case k5 => exact rfl); k_whole; intro h' F' N'; (try k_sweep))))
local macro_rules | `(tactic| walk_at "subscriptTail Name BinOp ref int") => `(tactic| k_dflt (refine' itemL ?l ?a ?b ?c ?_ ?e; (case l => is_list); (case c => assumption); (case a => omega); (case b => omega); (case e => with_unfolding_all rfl); k_whole))
--END

theorem sorted_ok {w : World} {A : Around} {R : Result → Shared → Prop} {s : Shared} {la l1 : Addr} {os : List Ord} {ps : List (List Val × Int)}
   (a0 : Amb w s.heap) (ok : Ok A 7) (ho : OrdsAt s.heap la os) (hp : PairsAt s.heap l1 ps) (gp : ∀ p ∈ ps, RowOk os p.1) (hlen : os.length ≤ 1000) (hp1 : ps.length ≤ 1000)
   (hret : Rets R s fun v h' => ∃ l vs, v = .ref l ∧ s.heap.get? l = none ∧ h'.IsList l (List.toArray vs) ∧ IntsAre vs ((sortK (keyP os) ps).map (·.2))) :
   codeAny (MM w) A (.call (.ref 83) ⟨[.ref la, .ref l1], []⟩) R s := by
  have X := a0.X
  obtain ⟨mg, mb, T⟩ := a0.T
  obtain ⟨v1, hl1, o1⟩ := hp
  have n1 := o1.length
  w_on
  refine' enter (binds := [("orders", .ref la), ("pairs", .ref l1)]) X T ok ?k6 ?k7 ?k9 ?kB ?_ ?c5 ?c6 ?c7 ?c8
  walk_at "ENTER"
  intro L h' t₁ Q okd F N hQ hQn
  walk_at "GO"
  refine comp_assign (cl := []) (by rfl) (by rfl) (by rfl) (by decide) (by intro x; rfl) ?_
  walk_at "GO"
  refine comp_go_pure_assign (L := L) (by assumption) (by assumption) rfl rfl rfl okd.h (by decide) rfl (by is_list) (by omega)
    (fun i ys ms => All2 (RunIn s.heap ms) ys ((ps.take i).map fun p => [p])) .nil ?_ ?_
  · intro i v ys ms₁ C D I oI k h tk m hv hJ _ FC NC hoff _ _
    have hi : i < ps.length := by
      rcases Nat.lt_or_ge i ps.length with h | h
      · exact h
      · rw [List.getElem?_eq_none (by omega)] at hv; cases hv
    have ep : ps[i]? = some ps[i] := List.getElem?_eq_getElem hi
    obtain ⟨v', hv', pv⟩ := o1.get i _ ep
    rw [hv] at hv'
    cases hv'
    refine wpAny_pure ?_
    refine wpAny_assign_Name ?_
    walk_at "GOA"
    refine newList_K (by assumption) (by assumption) ?_
    intro l2 h2 F2 N2 l3
    refine CEnd.intro F2 N2 ((l2, listOf [v].toArray 0) :: ms₁) ?_ ?_ ?_
    · intro p hp
      simp only [List.mem_cons] at hp ⊢
      rcases hp with hp | hp | hp | hp <;> simp [hp]
    · intro p hp
      rcases List.mem_cons.mp hp with rfl | hp
      · exact ⟨Nat.ne_of_gt (l3 (D, _) (.head _)), Nat.ne_of_gt (l3 (I, _) (.tail _ (.head _)))⟩
      · exact hoff p hp
    · rw [List.take_add_one, ep]
      simp only [List.map_append]
      exact (runs_mono hJ fun p hp => List.mem_cons_of_mem _ hp).append (.one ⟨l2, [v], rfl, ⟨_, 0, List.mem_cons_self .., rfl, rfl⟩, .one pv⟩)
  intro ra rs rest h tk k hJ hrl F1 N1 hoff hnew
  rw [List.append_nil] at N1
  walk_at "GO"
  refine while_loop (L := L) (fun n m news => ∃ (ra : Addr) (rs : List Value) (k : Nat) (segs : List (List (List Val × Int))) (rest : List (Addr × Obj)),
      m "orders" = some (.ref la) ∧ m "runs" = some (.ref ra) ∧ news = (ra, listOf rs.toArray k) :: rest ∧ (∀ p ∈ rest, p.1 ≠ ra) ∧
      All2 (RunIn s.heap rest) rs (segs.map (sortK (keyP os))) ∧ segs.flatten = ps ∧ n = rs.length ∧ rs.length ≤ 1000) rs.length (by assumption) (by assumption)
      ⟨ra, rs, k, ps.map fun p => [p], rest, rfl, rfl, rfl, hoff, ?_, ?_, rfl, by omega⟩ ?_
  · rw [List.take_of_length_le (by omega)] at hJ
    rw [List.map_map]
    exact hJ
  · exact flat_one ps
  clear F1 N1 hJ hrl hoff hnew
  rintro n m₁ news₁ h tk ⟨ra, rs, k, segs, rest, j1, j2, rfl, hoff, hJ, hfl, hn, hrs⟩ F1 N1
  as_aux_lemma =>
    walk_at "GO"
    refine WTest.dec (fun hlt => ?_) (fun hlt => ?_)
    · refine wpAny_execs_cons ?_
      walk_at "GOA"
      refine newList_K (by assumption) (by assumption) ?_
      intro lat h2 F2 N2 l3
      walk_at "GO"
      have hsl : rs.length = segs.length := by simpa using hJ.length
      have hN : 1 < rs.length := by omega
      obtain ⟨hsm, hsz⟩ := range_two hN hrs
      have hlr : lat ≠ ra := Nat.ne_of_gt (l3 (ra, _) (.head _))
      have hlo : ∀ p ∈ rest, p.1 ≠ lat ∧ p.1 ≠ ra := fun p hp => ⟨Nat.ne_of_lt (l3 p (.tail _ hp)), hoff p hp⟩
      refine' range_loop (n := rs.length / 2) (L := L) rfl (fun i m news => ∃ (ls : List Value) (kl : Nat) (rest2 : List (Addr × Obj)),
          m "orders" = some (.ref la) ∧ m "runs" = some (.ref ra) ∧ m "later" = some (.ref lat) ∧ news = (lat, listOf ls.toArray kl) :: (ra, listOf rs.toArray k) :: rest2 ∧
          (∀ p ∈ rest2, p.1 ≠ lat ∧ p.1 ≠ ra) ∧ All2 (RunIn s.heap rest2) rs (segs.map (sortK (keyP os))) ∧ All2 (RunIn s.heap rest2) ls (((pairUp segs).take i).map (sortK (keyP os))))
        okd.h ?rr1 hsm hsz ?rF1 ?rN1 ?r01 ?rt1 ?rd1
      case rr1 => assumption
      case rF1 => assumption
      case rN1 => assumption
      case r01 => exact ⟨[], 0, rest, j1, j2, rfl, rfl, hlo, hJ, .nil⟩
      · as_aux_lemma =>
          rintro i I o kk t m₂ news₂ h4 tk4 hi hk hoff2 ⟨ls, kl, rest2, q1, q2, q3, rfl, hof, hR, hS⟩ F4 N4
          as_aux_lemma =>
            have hi1 : 2 * i < segs.length := by omega
            have hi2 : 2 * i + 1 < segs.length := by omega
            have e1 : segs[2 * i]? = some segs[2 * i] := List.getElem?_eq_getElem hi1
            have e2 : segs[2 * i + 1]? = some segs[2 * i + 1] := List.getElem?_eq_getElem hi2
            obtain ⟨g1, g2⟩ := mem_seg hfl (List.getElem_mem hi1)
            obtain ⟨g3, g4⟩ := mem_seg hfl (List.getElem_mem hi2)
            generalize segs[2 * i] = sa at e1 g1 g2
            generalize segs[2 * i + 1] = sb at e2 g3 g4
            obtain ⟨w1, x1, y1⟩ := hR.get (2 * i) _ (by rw [List.getElem?_map, e1]; rfl)
            obtain ⟨w2, x2, y2⟩ := hR.get (2 * i + 1) _ (by rw [List.getElem?_map, e2]; rfl)
            have N5 : News s.heap L h4 rest2 := fun p hp => N4 p (.tail _ (.tail _ (.tail _ hp)))
            obtain ⟨a1, va, ea1, la1, pa1, pg1⟩ := y1.pairs N5 F4.keep
            obtain ⟨a2, vb, ea2, la2, pa2, pg2⟩ := y2.pairs N5 F4.keep
            subst ea1 ea2
            rw [show 2 * i = kk.toNat by omega] at x1
            rw [show 2 * i + 1 = (kk + 1).toNat by omega] at x2
            have m1 : ∀ p ∈ sortK (keyP os) sa, RowOk os p.1 := fun p hp => gp _ (g1 _ (mem_sortK.mp hp))
            have m2 : ∀ p ∈ sortK (keyP os) sb, RowOk os p.1 := fun p hp => gp _ (g3 _ (mem_sortK.mp hp))
            have c1 : (sortK (keyP os) sa).length ≤ 1000 := by rw [length_sortK]; omega
            have c2 : (sortK (keyP os) sb).length ≤ 1000 := by rw [length_sortK]; omega
            have k0 : 0 ≤ kk := by omega
            have k1 : kk < 2 ^ 60 := by omega
            have hl5 : ls.length ≤ 1000 := by
              have h := hS.length
              rw [List.length_map, List.length_take] at h
              exact Nat.le_trans (h ▸ Nat.min_le_left _ _) (Nat.le_trans (Nat.le_of_lt hi) (Nat.le_trans (Nat.div_le_self _ _) hrs))
            have kp4 : Kp s.heap h4 := F4.keep
            obtain ⟨oL, _, _, hL4, _⟩ := id F4.ns
            have gI := (N4 _ (.head _)).1
            have glat := (N4 _ (.tail _ (.head _))).1
            have gra := (N4 _ (.tail _ (.tail _ (.head _)))).1
            clear N5
            walk_at "GOA"
            rename_i h5 t5 kp5 l5 vs5 fr5 pr5 all5 F6 N6
            obtain ⟨ob5, hob5, hc5, nn5, hd5⟩ := pr5
            change h4.get? l5 = none at fr5
            have N7 := news_add hL4 kp4 N6 fr5 hob5
            have hl_I : l5 ≠ I := fun q => by rw [q, gI] at fr5; cases fr5
            have hl_lat : l5 ≠ lat := fun q => by rw [q, glat] at fr5; cases fr5
            have hl_ra : l5 ≠ ra := fun q => by rw [q, gra] at fr5; cases fr5
            have hI_lat : I ≠ lat := fun q => hoff2 _ (.head _) q.symm
            refine append_K F6 N7 (.tail hl_lat (.tail hI_lat (.head fun p hp => ?_))) ?_ (by rw [sizeLine_eq]; simp only [List.size_toArray]; exact Nat.le_trans hl5 (by decide))
            · rcases List.mem_cons.mp hp with rfl | hp
              · exact hlr.symm
              · exact (hof p hp).1
            intro h8 F8 N8
            walk_at "GO"
            refine' TPost.next ?tF1 ?tN1 ((lat, listOf (ls.toArray.push (.ref l5)) (kl + 1)) :: (ra, listOf rs.toArray k) :: (l5, ob5) :: rest2) ?ts1 ?to1 ?tr1
            case tF1 => assumption
            case tN1 => assumption
            case ts1 =>
              intro p hp
              rcases List.mem_cons.mp hp with rfl | hp
              · exact .tail _ (.head _)
              rcases List.mem_cons.mp hp with rfl | hp
              · exact .tail _ (.tail _ (.head _))
              rcases List.mem_cons.mp hp with rfl | hp
              · exact .tail _ (.tail _ (.tail _ (.head _)))
              rcases List.mem_cons.mp hp with rfl | hp
              · exact .head _
              exact .tail _ (.tail _ (.tail _ (.tail _ hp)))
            case to1 =>
              intro p hp
              rcases List.mem_cons.mp hp with rfl | hp
              · exact hI_lat.symm
              rcases List.mem_cons.mp hp with rfl | hp
              · exact fun q => hoff2 _ (.tail _ (.head _)) q
              rcases List.mem_cons.mp hp with rfl | hp
              · exact hl_I
              exact hoff2 _ (.tail _ (.tail _ hp))
            case tr1 =>
              refine ⟨ls ++ [.ref l5], kl + 1, (l5, ob5) :: rest2, q1, q2, q3, by simp, ?_, ?_, ?_⟩
              · intro p hp
                rcases List.mem_cons.mp hp with rfl | hp
                · exact ⟨hl_lat, hl_ra⟩
                · exact hof p hp
              · exact runs_mono hR fun p hp => .tail _ hp
              · rw [pairUp_take e1 e2, List.map_append]
                refine (runs_mono hS fun p hp => .tail _ hp).append (.one ⟨l5, vs5, rfl, ⟨ob5, nn5, .head _, hc5, hd5⟩, ?_⟩)
                rw [← merge_sortK, ← merge_key m1 m2]
                exact all5 _ pg1 pg2
      · as_aux_lemma =>
          rintro m₂ news₂ h4 tk4 ⟨ls, kl, rest2, q1, q2, q3, rfl, hof, hR, hS⟩ F4 N4
          as_aux_lemma =>
            have hls := hS.length
            rw [List.length_map, List.length_take, pairUp_len] at hls
            have hls9 : ls.length ≤ rs.length / 2 := hls ▸ Nat.min_le_left _ _
            have hl5 : ls.length ≤ 1000 := Nat.le_trans hls9 (Nat.le_trans (Nat.div_le_self _ _) hrs)
            clear hls
            have hxl : rs[rs.length - 1]? = some (rs[rs.length - 1]'(by omega)) := List.getElem?_eq_getElem (by omega)
            generalize rs[rs.length - 1]'(by omega) = xl at hxl
            have hoff3 : ∀ p ∈ (ra, listOf rs.toArray k) :: rest2, p.1 ≠ lat := fun p hp => by
              rcases List.mem_cons.mp hp with rfl | hp
              · exact hlr.symm
              · exact (hof p hp).1
            walk_at "GOA"
            · have hodd : rs.length % 2 = 1 := by
                have := ‹((rs.length : Nat) : Int).fmod 2 = 1›
                rw [Int.fmod_eq_emod_of_nonneg _ (by decide)] at this; omega
              refine append_K (by assumption) (by assumption) (.head hoff3) ?_ (by rw [sizeLine_eq]; simp only [List.size_toArray]; exact Nat.le_trans hl5 (by decide))
              intro h8 F8 N8
              walk_at "GO"
              refine' WPost.next (ls.length + 1) ?wF1 ?wN1 ?wn1 ?wJ1
              case wF1 => assumption
              case wN1 => assumption
              case wn1 => omega
              case wJ1 =>
                refine ⟨lat, ls ++ [xl], kl + 1, pairUp segs, (ra, listOf rs.toArray k) :: rest2, q1, rfl, by simp, hoff3, ?_, (pairUp_flat segs).trans hfl, by simp, by simp; omega⟩
                have e : (pairUp segs).take (rs.length / 2) ++ (segs[segs.length - 1]?).toList = pairUp segs := by
                  rw [← pairUp_odd segs (by omega), hsl, ← List.take_add_one, List.take_of_length_le (by rw [pairUp_len]; omega)]
                rw [← e, List.map_append]
                refine All2.append (runs_mono hS fun p hp => .tail _ hp) ?_
                have hs1 : segs[segs.length - 1]? = some (segs[segs.length - 1]'(by omega)) := List.getElem?_eq_getElem (by omega)
                rw [hs1]
                refine .one ?_
                rw [hsl] at hxl
                exact (hR.same hxl (by rw [List.getElem?_map, hs1]; rfl)).mono fun p hp => .tail _ hp
            · have heven : rs.length % 2 ≠ 1 := fun q => by
                have := ‹¬ ((rs.length : Nat) : Int).fmod 2 = 1›
                rw [Int.fmod_eq_emod_of_nonneg _ (by decide)] at this; omega
              refine' WPost.next ls.length ?wF2 ?wN2 ?wn2 ?wJ2
              case wF2 => assumption
              case wN2 => assumption
              case wn2 => omega
              case wJ2 =>
                refine ⟨lat, ls, kl, pairUp segs, (ra, listOf rs.toArray k) :: rest2, q1, rfl, rfl, hoff3, ?_, (pairUp_flat segs).trans hfl, rfl, by omega⟩
                rw [List.take_of_length_le (by rw [pairUp_len]; omega)] at hS
                exact runs_mono hS fun p hp => .tail _ hp
    · have h01 : rs = [] ∨ ∃ r, rs = [r] := by
        match rs, hlt with
        | [], _ => exact .inl rfl
        | [r], _ => exact .inr ⟨r, rfl⟩
        | a :: b :: r, h => simp at h; omega
      walk_at "GO"
      · rcases h01 with rfl | ⟨r, rfl⟩
        · rename_i hne; exact absurd rfl hne
        have hsl : segs.length = 1 := by have := hJ.length; simp at this; omega
        obtain ⟨seg, rfl⟩ : ∃ seg, segs = [seg] := by
          match segs, hsl with
          | [seg], _ => exact ⟨seg, rfl⟩
        have hps : seg = ps := by simpa using hfl
        subst hps
        have hrun : RunIn s.heap rest r (sortK (keyP os) seg) := by
          have := hJ.same (i := 0) (a := r) (b := sortK (keyP os) seg) rfl rfl
          exact this
        obtain ⟨a, vs, rfl, lin, pall⟩ := hrun
        have nlen := pall.length
        rw [length_sortK] at nlen
        refine comp_eval (cl := []) (by rfl) (by rfl) (by decide) (by intro x; rfl) ?_
        have x0 : [Value.ref a][(0 : Int).toNat]? = some (.ref a) := rfl
        walk_at "GO"
        (rename Fr s.heap L _ _ => F9)
        have kb := F9.keep
        have lis : ∀ {h₀ h : Heap} {news : List (Addr × Obj)}, News h₀ L h news → (∀ p ∈ rest, p ∈ news) → h.IsList a vs.toArray := fun N sub => (lin.mono sub).isList N
        refine' comp_go_pure (L := L) ?zF ?zN okd.h (by decide) rfl (lis ?zN2 ?zs) (by omega) (fun i ys ms => ms = [] ∧ IntsAre ys (((sortK (keyP os) seg).take i).map (·.2))) ⟨rfl, .nil⟩ ?zt ?zd
        case zF => assumption
        case zN => assumption
        case zN2 => assumption
        case zs => exact fun p hp => .tail _ (.tail _ hp)
        case zt =>
          rintro i v ys ms₁ C D I oI k h tk m hv ⟨rfl, hJ⟩ hit FC NC hoff hDI hD
          as_aux_lemma =>
            have hi : i < (sortK (keyP os) seg).length := by
              rcases Nat.lt_or_ge i vs.length with h | h
              · rw [length_sortK]; omega
              · rw [List.getElem?_eq_none (by omega)] at hv; cases hv
            have ep : (sortK (keyP os) seg)[i]? = some ((sortK (keyP os) seg)[i]) := List.getElem?_eq_getElem hi
            generalize (sortK (keyP os) seg)[i] = p at ep
            obtain ⟨pa, pr, pt, e1, ip, rp⟩ := pall.same hv ep
            subst e1
            have ip' := ip.keeps kb
            clear F9 kb
            refine wpAny_letOwnedTupleGo_listiter hit ?_
            walk_at "GO"
            refine' CEnd.intro ?cF1 ?cN1 [] ?cs1 ?co1 ?cr1
            case cF1 => assumption
            case cN1 => assumption
            case cs1 => exact fun p hp => hp
            case co1 => exact fun p hp => nomatch hp
            case cr1 =>
              refine ⟨rfl, ?_⟩
              rw [List.take_add_one, ep, List.map_append]
              exact hJ.append (.cons _ _ .nil)
        case zd =>
          rintro D ys ms₁ h tk k ⟨rfl, hJ⟩ hys kp F9 N9 hoff hD
          as_aux_lemma =>
            rw [List.take_of_length_le (by rw [length_sortK]; omega)] at hJ
            walk_at "GO"
            dsimp only
            exact hQ _ _ (hret _ _ _ F9.keep ⟨D, ys, rfl, News.fresh N9 (.head _), N9.isList (.head _), hJ⟩)
      · have hrs0 : rs = [] := by
          rcases h01 with h | ⟨r, h⟩
          · exact h
          · subst h; simp_all
        subst hrs0
        have hsl : segs = [] := by
          have := hJ.length
          cases segs with
          | nil => rfl
          | cons _ _ => simp at this
        subst hsl
        have hps : ps = [] := hfl.symm
        subst hps
        refine hQ _ _ (hret _ _ _ (Fr.keep (by assumption)) ⟨_, [], rfl, News.fresh (by assumption) (.head _), News.isList (by assumption) (.head _), .nil⟩)

section
variable {w : World} {A : Around} {E : Value → Shared → Prop} {s : Shared} {env : Env}
theorem comp_assign_post {h₀ : Heap} {L : Addr} {m : Str → Option Value} {news : List (Addr × Obj)} {py : Pos} {y : Str} {Q : Value → Shared → Prop} {D C : Addr} {ys : List Value} {ms₁ : List (Addr × Obj)} {h : Heap} {tk k : Nat} {m₁ : Str → Option Value}
    (F : Fr h₀ L s.heap m) (N : News h₀ L s.heap news) (hL : env.locals = L) (hy : env.kindOf y = some .local) (hp : (env.scope.kind == .class || (env.scope.kind == .module && env.locals != env.globals)) = false)
    (FC : Fr s.heap C h m₁) (NC : News s.heap C h ((D, listOf ys.toArray k) :: ms₁)) (hD : s.heap.objs.size ≤ D) (hC : s.heap.objs.size ≤ C) (hDC : D ≠ C)
    (done : ∀ h tk, Fr h₀ L h (fun z => if z = y then some (.ref D) else m z) → News h₀ L h ((D, listOf ys.toArray k) :: (ms₁ ++ news)) → Q .none ⟨h, s.gens, s.drawn, tk, s.os⟩) :
    compPost (MM w) A E (some (assign (.Name y py) env)) Q (.ref D) C (.ok .next) ⟨h, s.gens, s.drawn, tk, s.os⟩ := by
  subst hL
  show wpAny _ A (assign (.Name y py) env (.ref D)) _ _ _
  obtain ⟨F₁, N₁⟩ := comp_after F N FC.keep hD NC
  have hLC : env.locals ≠ C := fun q => absurd F.ns.lt (by rw [q]; exact Nat.not_lt.mpr hC)
  refine wpAny_assign_Name (wpAny_storeName_local hy F₁.ns (fun h₂ hn₂ hs₂ => ?_) hp)
  refine ⟨_, FC.ns.sameBut hs₂ (Ne.symm hLC), fun h₃ hs₃ => ?_⟩
  have F₂ := F₁.set hn₂ hs₂
  have N₂ := N₁.set hs₂
  have hC₀ : h₀.get? C = none := by
    cases q : h₀.get? C with
    | none => rfl
    | some o => exact absurd (Heap.lt_size (F.keep _ _ q)) (Nat.not_lt.mpr hC)
  have hne : ∀ p ∈ (D, listOf ys.toArray k) :: (ms₁ ++ news), p.1 ≠ C := fun p hp => by
    rcases List.mem_cons.mp hp with rfl | hp
    · exact hDC
    · rcases List.mem_append.mp hp with hp | hp
      · exact (NC p (List.mem_cons_of_mem _ hp)).2.1
      · exact fun q => absurd (Heap.lt_size (N p hp).1) (by rw [q]; exact Nat.not_lt.mpr hC)
  exact done h₃ _ (F₂.change hs₃ hLC.symm hC₀) (fun p hp => ⟨(hs₃.2 _ (hne p hp)).trans (N₂ p hp).1, (N₂ p hp).2⟩)

theorem comp_go_str_assign {h₀ : Heap} {L : Addr} {m : Str → Option Value} {news : List (Addr × Obj)} {x : Str} {t : Tok} {elt target iter : PySem.Expr} {scope : Scope} {cl : List (Str × Addr)} {pos py : Pos} {y : Str} {Q : Value → Shared → Prop}
    (F : Fr h₀ L s.heap m) (N : News h₀ L s.heap news) (hL : env.locals = L) (hy : env.kindOf y = some .local) (hp : (env.scope.kind == .class || (env.scope.kind == .module && env.locals != env.globals)) = false)
    (hh : A.handled = none) (hcell : ∀ y ∈ scope.names, y.2 ≠ .cell) (hkind : scope.kind = .function) (hsz : x.cps.size ≤ 1000000)
    (J : Nat → List Value → List (Addr × Obj) → Prop) (h0 : J 0 [] [])
    (turn : ∀ i v ys ms₁ C D I oI k h tk m, SignAt x i v → i < x.cps.size → J i ys ms₁ → Fr s.heap C h m → News s.heap C h ((D, listOf ys.toArray k) :: (I, oI) :: ms₁) → (∀ p ∈ ms₁, p.1 ≠ D ∧ p.1 ≠ I) → D ≠ I → s.heap.objs.size ≤ D →
      wpAny (MM w) A (letOwnedTupleGo target (.ref I) v) (fun _ s₁ => wpAny (MM w) A (assign target (compEnvC scope cl C env) v) (fun _ s₂ =>
        wpAny (MM w) A (eval elt (compEnvC scope cl C env)) (CEnd s.heap C D I oI ys k (J (i + 1)) s) (fun _ _ => False) s₂) (fun _ _ => False) s₁) (fun _ _ => False) ⟨h, s.gens, s.drawn, tk, s.os⟩)
    (done : ∀ D ys ms₁ h tk k, J x.cps.size ys ms₁ → ys.length = x.cps.size → Fr h₀ L h (fun z => if z = y then some (.ref D) else m z) → News h₀ L h ((D, listOf ys.toArray k) :: (ms₁ ++ news)) → (∀ p ∈ ms₁, p.1 ≠ D) → s.heap.objs.size ≤ D → Q .none ⟨h, s.gens, s.drawn, tk, s.os⟩) :
    CompGo w A env elt target iter scope cl pos (some (assign (.Name y py) env)) Q E (.str x t) s := by
  unfold CompGo
  have fin : ∀ (o : Obj) (St : Nat → Heap → Prop), Walks PySem.Challenge.rw_nu0049_01.row.prog w A s.heap.objs.size [s.heap.objs.size] [s.heap.objs.size] x.cps.size (SignAt x) St → (∀ i h, St i h → ∃ o, h.get? s.heap.objs.size = some o) → St 0 (s.heap.push o) →
      wpAny (MM w) A (newList []) (fun acc s₃ => wpAny (MM w) A (newFunctionEnv scope env.globals cl [] env.qual none .none (some env)) (fun cenv s₄ =>
        codeAny (MM w) A (.compStart (.ListComp elt [⟨target, iter, [], 0⟩] scope pos) 0 (.ref s.heap.objs.size) acc { cenv with scope := relabel scope env }) (compPost (MM w) A E (some (assign (.Name y py) env)) Q acc cenv.locals) s₄) E s₃) E ⟨s.heap.push o, s.gens, s.drawn, s.toks, s.os⟩ := by
    intro o St W hobj hst
    refine comp_coreW (g := s.heap) (ms := []) hcell hkind (Nat.le_refl _) (fun _ _ e => e) hsz (fun p hp => nomatch hp) W (fun b hb => .inl (List.mem_singleton.mp hb)) hobj hst J h0 (fun i v ys ms₁ C D I oI k h tk m hP hi hJ _ _ => turn i v ys ms₁ C D I oI k h tk m hP hi hJ) ?_
    intro D C ys ms₁ h tk k m₁ hJ hys FC NC hoff hD hC hDC
    exact comp_assign_post F N hL hy hp FC NC hD hC hDC fun h' tk' F' N' => done D ys ms₁ h' tk' k hJ hys F' N' hoff hD
  cases ha : x.cps.all (· < 128)
  · exact wpAny_pyIter_wide ha (fin _ _ (Walks.strWide hh _ x t) (fun i h hs => let ⟨o, ho, _⟩ := hs; ⟨o, ho⟩) ⟨_, Heap.get?_push_size _ rfl, rfl, rfl⟩)
  · exact wpAny_pyIter_ascii ha (fin _ _ (Walks.strAscii hh _ x t) (fun i h hs => let ⟨o, ho, _⟩ := hs; ⟨o, ho⟩) ⟨_, Heap.get?_push_size _ rfl, rfl, rfl⟩)
theorem nameG_C {M : Model} {A : Around} {E : Value → Shared → Prop} {s : Shared} {env : Env} {x : Str} {pos : Pos} {v : Value} {c : Addr} {o : Obj} {Q : Value → Shared → Prop}
    (hc : env.cells.lookup x = some c) (ho : s.heap.get? c = some o) (hd : o.data = .cell (some v)) (hk : env.scope.kind = .function) (hx : env.kindOf x = some .cell) (hdb : (x == ("__debug__" : Str)) = false) (h : Q v s) :
    wpAny M A (eval (.Name x pos) env) Q E s := wpAny_Name (wpAny_loadName_cell hk hx hc ⟨o, ho, hd⟩ h) hdb
end
theorem nameG_B {M : Model} {A : Around} {E : Value → Shared → Prop} {s : Shared} {env : Env} {h₀ : Heap} {L : Addr} {m : Str → Option Value} {K : Frag} {p : Program} {loose : List Str} {mg mb : Str → Option Value} {x : Str} {pos : Pos} {v : Value} {Q : Value → Shared → Prop}
    (F : Fr h₀ L s.heap m) (X : K.In h₀) (T : TopRead p loose mg mb h₀) (e : nsIn K mainGlobals x = some none) (hv : bootBuiltins x = some v) (hn : x ≠ "__name__") (h : Q v s)
    (hg : env.globals = mainGlobals) (hb : env.builtins = builtinsNs) (hk : env.scope.kind = .function) (hx : env.kindOf x = some .globalImplicit) (hd : (x == ("__debug__" : Str)) = false) :
    wpAny M A (eval (.Name x pos) env) Q E s :=
  Name_function_global hk hx (loadGlobal_builtin (env := env) (by rw [hg]; exact T.g.keeps F.keep) (mg_none_of X T.g e) (by rw [hb]; exact T.b.keeps F.keep) ((T.builtins x hn).trans hv) h) hd
--MACROS
local macro_rules | `(tactic| walk_at "eval Name") => `(tactic| (k_here; walk_at "INCOMP"; k_dflt (first
  | walk_at "NL"
  | (refine' nameG_C ?k1 ?k2 ?k3 ?k4 ?k5 ?k6 ?_; (case k5 => exact rfl); (case k1 => exact rfl); (case k2 => exact Fr.keep (by with_reducible assumption) _ _ (by with_reducible assumption)); (case k3 => with_reducible assumption); (case k4 => exact rfl); (case k6 => decide); k_whole)
  | (refine' nameG_K ?F ?X ?T ?e ?_ ?g ?k ?x ?d; (case F => k_asm); (case X => assumption); (case T => assumption); (case x => exact rfl); (case e => k_is); (case g => exact rfl); (case k => exact rfl); (case d => decide); k_whole)
  | (refine' nameG_B ?F ?X ?T ?e ?v ?n ?_ ?g ?b ?k ?x ?d; (case F => k_asm); (case X => assumption); (case T => assumption); (case x => exact rfl); (case e => k_is); (case v => boot_fast); (case n => decide); (case g => exact rfl); (case b => exact rfl); (case k => exact rfl); (case d => decide); k_whole))))
--END
/-- entering a def with one cell or more -/
theorem enterC {w : World} {A : Around} {s : Shared} {K : Frag} {p : Program} {loose : List Str} {mg mb : Str → Option Value}
    {R : Result → Shared → Prop} {name qual : Str} {params : Arguments} {body : List Stmt} {scope : Scope} {dV kV doc pm cdv ct oc : Value} {an od : Option Addr} {osl : Array (Option Value)} {f : Addr} {args : Args} {binds : List (Str × Value)}
    (X : K.In s.heap) (T : TopRead p loose mg mb s.heap) {n : Nat} (ok : Ok A (n + 1))
    (ho : K.lookup f = some ⟨oc, od, .func (fnOf name qual params body scope dV kV doc pm an cdv ct), osl⟩) (hcd : codeIn K cdv qual = true)
    (hbind : BindsTo s (fnOf name qual params body scope dV kV doc pm an cdv ct) args binds) (hkind : (binds.all fun y => scope.names.lookup y.1 == some .local || scope.names.lookup y.1 == some .cell) = true)
    (hnd : ((cellsFrom 0 scope.names []).map (·.1)).Nodup)
    (h : ∀ L h₁ t₁ cells (Q : Flow → Shared → Prop), Ok (A.deeper (envOfC qual scope L f cdv)) n → Fr s.heap L h₁ (bindL (envOfC qual scope L f cdv).kindOf binds fun _ => none) → News s.heap L h₁ cells →
      CellsAre (bindC (envOfC qual scope L f cdv).kindOf binds fun _ => none) (cellsFrom (L + 1) scope.names []) cells →
      (∀ v s', R (.ok (.ret v)) s' → Q (.ret v) s') → (∀ s', R (.ok (.ret .none)) s' → Q .next s') →
      wpAny (MM w) (A.deeper (envOfC qual scope L f cdv)) (execs body (envOfC qual scope L f cdv)) Q (fun _ _ => False)
        ⟨h₁, s.gens, s.drawn, t₁, s.os⟩)
    (hco : scope.isCoroutine = false) (hgen : scope.isGenerator = false) (hk : scope.kind = .function) : codeAny (MM w) A (.call (.ref f) args) R s := by
  refine codeAny_call_function (fd := fnOf name qual params body scope dV kV doc pm an cdv ct) ok.room (X _ _ ho) rfl hco hgen rfl (codeRec_of X hcd) (hbind _ _ _ _ ?_)
  refine wpAny_newFunctionEnv_cells hk (kindsX hkind _) fun env' he s' x => ?_
  subst he
  refine ⟨T.nolimit.keeps x.toInCall.keep, codeAny_func ?_⟩
  obtain ⟨h₁, tk, rfl, _⟩ := x.done
  have hk₁ := x.toInCall.keep
  obtain ⟨cells, NC, Y⟩ := Cl.news (h₀ := s.heap) (Nat.le_refl _) fun n c hm => ⟨x.cell n c (lookup_of_mem_nodup (cellsFrom_names scope.names 0 (s.heap.objs.size + 1) [] [] rfl ▸ hnd) hm), x.above n c hm⟩
  exact wpAny_mono (h s.heap.objs.size h₁ tk cells (fun fl s' => R (.ok (.ret (match fl with | .ret v => v | _ => .none))) s') (ok.deeper _) ⟨x.toInCall.ns, hk₁, Nat.le_refl _⟩ NC Y (fun _ _ x => x) (fun _ x => x)) (fun _ _ x => x) (fun _ _ x => x.elim)

/-- the law's key, as a value in a heap -/
def lawN (x y : Int) : Int × Int := if y = 0 then (if x = 0 then (0, 0) else (2 + x, 0)) else (2, x * (6 / y))
--MACROS
local macro_rules | `(tactic| walk_at "ENTERC") => `(tactic| (
  (case k6 => k_is)
  (case k7 => k_is)
  (case c6 => exact rfl)
  (case c7 => exact rfl)
  (case c8 => exact rfl)
  (case k9 => exact BindsTo.of_eq rfl)
  (case kB => exact rfl)
  (case c5 => decide +kernel)))
--END
theorem key_num {w : World} {A : Around} {R : Result → Shared → Prop} {s : Shared} {a : Addr} {x y : Int} {tx ty : Tok} {u : Value}
   (a0 : Amb w s.heap) (ok : Ok A 2) (ta : IsTup s.heap a [.int x tx, .int y ty].toArray) (hn : NumOk x y)
   (hret : Rets R s fun v h' => ∃ k t1 t2, v = .ref k ∧ s.heap.get? k = none ∧ IsTup h' k [.int (lawN x y).1 t1, .int (lawN x y).2 t2].toArray) :
   codeAny (MM w) A (.call (.ref 116) ⟨[.ref a, .bool true, u], []⟩) R s := by
  have X := a0.X
  obtain ⟨mg, mb, T⟩ := a0.T
  obtain ⟨b1, b2, b3, b4, b5⟩ := hn
  w_on
  refine' enterC (binds := [("value", .ref a), ("is_number", .bool true), ("upper_first", u)]) X T ok ?k6 ?k7 ?k9 ?kB ?c5 ?_ ?c6 ?c7 ?c8
  walk_at "ENTERC"
  intro L h' t₁ cells Q okd F N Y hQ hQn
  k_cells Y
  walk_at "GO"
  all_goals (try k_data)
  · rw [show lawN x y = (0, 0) by unfold lawN; rw [if_pos ‹y = 0›, if_pos ‹x = 0›]] at hret
    exact hQ _ _ (hret _ _ _ (Fr.keep (by assumption)) ⟨_, _, _, rfl, News.fresh (by assumption) (.head _), News.isTup (by assumption) (.head _)⟩)
  · rw [show lawN x y = (2 + x, 0) by unfold lawN; rw [if_pos ‹y = 0›, if_neg ‹¬ x = 0›]] at hret
    exact hQ _ _ (hret _ _ _ (Fr.keep (by assumption)) ⟨_, _, _, rfl, News.fresh (by assumption) (.head _), News.isTup (by assumption) (.head _)⟩)
  · rw [show lawN x y = (2, x * Int.fdiv 6 y) by unfold lawN; rw [if_neg ‹¬ y = 0›, Int.fdiv_eq_ediv_of_nonneg _ b3]] at hret
    exact hQ _ _ (hret _ _ _ (Fr.keep (by assumption)) ⟨_, _, _, rfl, News.fresh (by assumption) (.head _), News.isTup (by assumption) (.head _)⟩)

theorem key_none {w : World} {A : Around} {R : Result → Shared → Prop} {s : Shared} {x : Str} {tx : Tok}
   (a0 : Amb w s.heap) (ok : Ok A 2)
   (hret : Rets R s fun v h' => ∃ k t1, v = .ref k ∧ s.heap.get? k = none ∧ IsTup h' k [.str x t1].toArray) :
   codeAny (MM w) A (.call (.ref 116) ⟨[.str x tx, .bool false, .none], []⟩) R s := by
  have X := a0.X
  obtain ⟨mg, mb, T⟩ := a0.T
  w_on
  refine' enterC (binds := [("value", .str x tx), ("is_number", .bool false), ("upper_first", .none)]) X T ok ?k6 ?k7 ?k9 ?kB ?c5 ?_ ?c6 ?c7 ?c8
  walk_at "ENTERC"
  intro L h' t₁ cells Q okd F N Y hQ hQn
  k_cells Y
  walk_at "GO"
  all_goals (try k_data)
  exact hQ _ _ (hret _ _ _ (Fr.keep (by assumption)) ⟨_, _, rfl, News.fresh (by assumption) (.head _), News.isTup (by assumption) (.head _)⟩)

noncomputable def forms (up : Bool) (x : Str) : List Int := x.cps.toList.map fun c => if (Txt.islower ⟨#[c]⟩ == up) = true then 1 else 0
theorem key_up {w : World} {A : Around} {R : Result → Shared → Prop} {s : Shared} {x : Str} {tx : Tok} {up : Bool}
   (a0 : Amb w s.heap) (ok : Ok A 2) (hx : x.length ≤ 100)
   (hret : Rets R s fun v h' => ∃ k t1 l vs, v = .ref k ∧ s.heap.get? k = none ∧ s.heap.get? l = none ∧ IsTup h' k [.str (Txt.lower x) t1, .ref l].toArray ∧ h'.IsList l (List.toArray vs) ∧ IntsAre vs (forms up x)) :
   codeAny (MM w) A (.call (.ref 116) ⟨[.str x tx, .bool false, .bool up], []⟩) R s := by
  have X := a0.X
  obtain ⟨mg, mb, T⟩ := a0.T
  w_on
  refine' enterC (binds := [("value", .str x tx), ("is_number", .bool false), ("upper_first", .bool up)]) X T ok ?k6 ?k7 ?k9 ?kB ?c5 ?_ ?c6 ?c7 ?c8
  walk_at "ENTERC"
  intro L h' t₁ cells Q okd F N Y hQ hQn
  have hY := CellsAre.one Y
  obtain ⟨oc, rfl, dc⟩ := hY
  have dc' : oc.data = .cell (some (.bool up)) := dc
  clear Y dc
  walk_at "GO"
  all_goals (try k_data)
  refine comp_assign (by with_unfolding_all rfl) (by with_unfolding_all rfl) (by rfl) (by decide) (by intro x; rfl) ?_
  walk_at "GO"
  all_goals (try k_data)
  (rename Fr s.heap L _ _ => F9)
  (rename News s.heap L _ _ => N9)
  have X9 := X.keeps F9.keep
  have T9 := T.keeps F9.keep
  have gc := (N9 _ (.head _)).1
  refine' comp_go_str_assign (L := L) ?zF ?zN rfl rfl rfl okd.h (by decide) rfl ?zz (fun i ys ms => ms = [] ∧ IntsAre ys ((forms up x).take i)) ⟨rfl, .nil⟩ ?zt ?zd
  case zF => assumption
  case zN => assumption
  case zz => exact Nat.le_trans hx (by decide)
  case zt =>
    rintro i v ys ms₁ C D I oI k h tk m ⟨c, uc, hc, rfl⟩ hi ⟨rfl, hJ⟩ FC NC hoff hDI hD
    clear F9 N9
    refine wpAny_pure ?_
    refine wpAny_assign_Name ?_
    walk_at "GO"
    (try k_unfold)
    refine' CEnd.intro ?cF1 ?cN1 [] ?cs1 ?co1 ?cr1
    case cF1 => assumption
    case cN1 => assumption
    case cs1 => exact fun p hp => hp
    case co1 => exact fun p hp => nomatch hp
    case cr1 =>
      refine ⟨rfl, ?_⟩
      have hc' : x.cps.toList[i]? = some c := by simpa using hc
      have e : (forms up x)[i]? = some (if (Txt.islower ⟨#[c]⟩ == up) = true then 1 else 0) := by rw [forms, List.getElem?_map, hc']; rfl
      rw [List.take_add_one, e]
      exact hJ.append (.cons _ _ .nil)
  case zd =>
    rintro D ys ms₁ h tk k ⟨rfl, hJ⟩ hys F9 N9 hoff hD
    rw [List.take_of_length_le (by simp [forms])] at hJ
    walk_at "GO"
    all_goals (try k_data)
    refine hQ _ _ (hret _ _ _ (Fr.keep (by assumption)) ⟨_, _, D, ys, rfl, News.fresh (by assumption) (.head _), News.fresh (by assumption) (.tail _ (.head _)), News.isTup (by assumption) (.head _), News.isList (by assumption) (.tail _ (.head _)), hJ⟩)

/-- the sign < between two values -/
def LtAt (A : Around) (s : Shared) (y x : Value) (b : Bool) : Prop :=
  ∀ (prog : Program) (w : World) (E : Value → Shared → Prop) (Q : Value → Shared → Prop), Q (.bool b) s → wpAny (model prog w) A (richCompare .Lt y x) Q E s
/-- where two rows part -/
def PartAt (A : Around) (s : Shared) (items items2 : Array Value) (k : Nat) (r : Bool) : Prop :=
  (∀ j (h1 : j < items.size) (h2 : j < items2.size), j < k → SeqAt.EqAt A s items[j] items2[j] true) ∧
  ((∃ (h1 : k < items.size) (h2 : k < items2.size), SeqAt.EqAt A s items[k] items2[k] false ∧ LtAt A s items[k] items2[k] r) ∨ (k = min items.size items2.size ∧ r = decide (items.size < items2.size)))
theorem PartAt.le {A s items items2 k r} (h : PartAt A s items items2 k r) : k ≤ min items.size items2.size := by
  rcases h.2 with ⟨h1, h2, _⟩ | ⟨h, _⟩ <;> omega

open AutoSeq1 (wpAny_loadPart') in
open MeetsSeq MeetsSeq2 MeetsSeq3 in
theorem tuple_ltAt (l b : Addr) (items items2 : Array Value) (n n2 : Nat) (dd dd2 : Option Addr) (sl sl2 : Array (Option Value)) (k : Nat) (r : Bool) :
    Meets (Builtin.«tuple.__lt__» ⟨[.ref l, .ref b], []⟩)
      (fun A R s => s.heap.get? l = some { cls := .type "tuple", dict := dd, data := .seq items n, slots := sl } ∧ s.heap.get? b = some { cls := .type "tuple", dict := dd2, data := .seq items2 n2, slots := sl2 } ∧
        PartAt A.in1 s items items2 k r ∧
        R (.ok (.ret (.bool r))) s) :=
  .of_wp fun prog w A R s h => by
    obtain ⟨hp, g, d, tk, os⟩ := s; obtain ⟨hl, hb, he, h⟩ := h
    have f2 := AutoSeq1.sub_tuple_tuple
    have hle := he.le
    have hZ : (items.toList.zip items2.toList).length = min items.size items2.size := by simp
    wp_walk using wpAny_loadPart' hl, wpAny_loadPart' hb, wpAny_forIn_list _ (fun rest b s' => b.1 = none ∧ s' = ⟨hp, g, d, tk, os⟩ ∧ ∃ i, i ≤ k ∧ rest = (items.toList.zip items2.toList).drop i) _
    case turn =>
      rintro ⟨y, x⟩ rest b s' ⟨hb', rfl, i, hik, hz⟩
      have hlt : i < (items.toList.zip items2.toList).length := by
        rcases Nat.lt_or_ge i (items.toList.zip items2.toList).length with h' | h'
        · exact h'
        · rw [List.drop_of_length_le h'] at hz; cases hz
      have hm : i < min items.size items2.size := hZ ▸ hlt
      have h1 : i < items.size := Nat.lt_of_lt_of_le hm (Nat.min_le_left _ _)
      have h2 : i < items2.size := Nat.lt_of_lt_of_le hm (Nat.min_le_right _ _)
      rw [List.drop_eq_getElem_cons hlt] at hz
      injection hz with hyx hrest
      have hy : y = items[i] := by have := congrArg Prod.fst hyx; simpa using this
      have hx : x = items2[i] := by have := congrArg Prod.snd hyx; simpa using this
      subst hy hx
      rcases Nat.lt_or_eq_of_le hik with hik | rfl
      · refine wpAny_bind (he.1 i h1 h2 hik prog w _ _ ?_)
        wp_walk
        exact ⟨rfl, rfl, i + 1, hik, hrest⟩
      · rcases he.2 with ⟨_, _, e1, e2⟩ | ⟨e1, _⟩
        · refine wpAny_bind (e1 prog w _ _ ?_)
          simp only [Bool.not_false, if_true]
          have e3 : ∀ (E : Value → Shared → Prop) (Q : Value → Shared → Prop), Q (.bool r) _ → wpAny (model prog w) A.in1 (richCompare .Lt items[i] items2[i]) Q E ⟨hp, g, d, tk, os⟩ := e2 prog w
          generalize richCompare CmpOp.Lt = rc at e3 ⊢
          wp_walk
          refine e3 _ _ ?_
          wp_walk
          exact ⟨_, rfl, h⟩
        · omega
    case fin =>
      rintro ⟨b1, b2⟩ s' ⟨hb', rfl, i, hik, hz⟩
      simp only at hb'
      subst hb'
      have hge : min items.size items2.size ≤ i := by
        rcases Nat.lt_or_ge i (items.toList.zip items2.toList).length with h' | h'
        · rw [List.drop_eq_getElem_cons h'] at hz; cases hz
        · exact hZ ▸ h'
      have hr : r = decide (items.size < items2.size) := by
        rcases he.2 with ⟨_, _, _⟩ | ⟨_, e⟩
        · omega
        · exact e
      subst hr
      wp_walk
      exact ⟨_, rfl, by simpa [Builtin.Tuple.tupleCompareSizes] using h⟩
    case h =>
      exact ⟨rfl, rfl, 0, Nat.zero_le _, rfl⟩

open AutoSeq1 (wpAny_loadPart') in
open MeetsSeq MeetsSeq2 MeetsSeq3 in
theorem lt_loopAt (l b : Addr) (items items2 : Array Value) (n n2 : Nat) (dd dd2 : Option Addr) (sl sl2 : Array (Option Value)) (k : Nat) (r : Bool) (m : Nat) :
    ∀ i : Nat, k - i = m → i ≤ k → Meets (Builtin.«list.__eq__.loop» ⟨[.ref l, .ref b, rawInt i, rawInt 0], []⟩)
      (fun A R s => s.heap.get? l = some { cls := .type "list", dict := dd, data := .seq items n, slots := sl } ∧ s.heap.get? b = some { cls := .type "list", dict := dd2, data := .seq items2 n2, slots := sl2 } ∧
        PartAt A.in1 s items items2 k r ∧
        R (.ok (.ret (.bool r))) s) := by
  induction m with
  | zero =>
    intro i hk hik prog w A R s h
    obtain ⟨hp, g, d, tk, os⟩ := s; obtain ⟨hl, hb, he, h⟩ := h
    have hik : i = k := by omega
    subst hik
    rcases he.2 with ⟨h1, h2, e1, e2⟩ | ⟨e1, e2⟩
    · wp_walk using wpAny_loadPart' hl, wpAny_loadPart' hb
      have hi1 : items[((i : Nat) : Int).toNat]? = some items[i] := by simp [h1]
      have hi2 : items2[((i : Nat) : Int).toNat]? = some items2[i] := by simp [h2]
      rw [hi1, hi2]
      refine wpAny_bind (e1 prog w _ _ ?_)
      have e3 : ∀ (E : Value → Shared → Prop) (Q : Value → Shared → Prop), Q (.bool r) _ → wpAny (model prog w) A.in1 (richCompare .Lt items[i] items2[i]) Q E ⟨hp, g, d, tk, os⟩ := e2 prog w
      generalize richCompare CmpOp.Lt = rc at e3 ⊢
      wp_walk using wpAny_loadPart' hl, wpAny_loadPart' hb
      rw [hi1, hi2]
      wp_walk
      refine e3 _ _ ?_
      wp_walk
      exact h
    · wp_walk using wpAny_loadPart' hl, wpAny_loadPart' hb
      rcases Nat.lt_or_ge i items.size with h1 | h1
      · have hi1 : items[((i : Nat) : Int).toNat]? = some items[i] := by simp [h1]
        have hi2 : items2[((i : Nat) : Int).toNat]? = none := by simp; omega
        rw [hi1, hi2]
        wp_walk using wpAny_loadPart' hl, wpAny_loadPart' hb
        show R (.ok (.ret (.bool (decide (items.size < items2.size))))) _
        rw [← e2]; exact h
      · have hi1 : items[((i : Nat) : Int).toNat]? = none := by simp; omega
        rw [hi1]
        wp_walk using wpAny_loadPart' hl, wpAny_loadPart' hb
        show R (.ok (.ret (.bool (decide (items.size < items2.size))))) _
        rw [← e2]; exact h
  | succ m ih =>
    intro i hk hik prog w A R s h
    obtain ⟨hp, g, d, tk, os⟩ := s; obtain ⟨hl, hb, he, h⟩ := h
    wp_walk using wpAny_loadPart' hl, wpAny_loadPart' hb
    have hle := he.le
    have hlt : i < items.size := by omega
    have hlt2 : i < items2.size := by omega
    have hi1 : items[((i : Nat) : Int).toNat]? = some items[i] := by simp [hlt]
    have hi2 : items2[((i : Nat) : Int).toNat]? = some items2[i] := by simp [hlt2]
    have hc : ((i : Int) + 1) = ((i + 1 : Nat) : Int) := by push_cast; rfl
    rw [hi1, hi2]
    refine wpAny_bind (he.1 i hlt hlt2 (by omega) prog w _ _ ?_)
    wp_walk
    rw [hc]
    exact ⟨plainId_quiet plain_eq_loop _, codeAny_builtin entry_eq_loop (by
      rw [Around.under_plainId plain_eq_loop _]
      exact ih (i + 1) (by omega) (by omega) prog w A R _ ⟨hl, hb, he, h⟩)⟩

open AutoSeq1 (wpAny_loadPart') in
open MeetsSeq MeetsSeq2 MeetsSeq3 in
theorem list_ltAt (l b : Addr) (items items2 : Array Value) (n n2 : Nat) (dd dd2 : Option Addr) (sl sl2 : Array (Option Value)) (k : Nat) (r : Bool) :
    Meets (Builtin.«list.__lt__» ⟨[.ref l, .ref b], []⟩)
      (fun A R s => s.heap.get? l = some { cls := .type "list", dict := dd, data := .seq items n, slots := sl } ∧ s.heap.get? b = some { cls := .type "list", dict := dd2, data := .seq items2 n2, slots := sl2 } ∧
        PartAt A.in1 s items items2 k r ∧
        R (.ok (.ret (.bool r))) s) := by
  intro prog w A R s h
  obtain ⟨hp, g, d, tk, os⟩ := s; obtain ⟨hl, hb, he, h⟩ := h
  have f3 := AutoSeq1.sub_list_list
  wp_walk using wpAny_loadPart' hl, wpAny_loadPart' hb
  exact ⟨plainId_quiet plain_eq_loop _, codeAny_builtin entry_eq_loop (by
    rw [Around.under_plainId plain_eq_loop _]
    exact lt_loopAt l b items items2 n n2 dd dd2 sl sl2 k r _ 0 rfl (Nat.zero_le _) prog w A R _ ⟨hl, hb, he, h⟩)⟩

theorem LtAt.lists {A : Around} {s : Shared} {l b : Addr} {items items2 : Array Value} {k : Nat} {r : Bool} (hl : s.heap.IsList l items) (hb : s.heap.IsList b items2) (hu : A.units < cLine)
    (he : PartAt A.in1 s items items2 k r) : LtAt A s (.ref l) (.ref b) r := fun prog w E Q h => by
  obtain ⟨⟨cls, dd, data, sl⟩, ho, hc, n, hd⟩ := id hl
  obtain ⟨⟨cls2, dd2, data2, sl2⟩, ho2, hc2, n2, hd2⟩ := id hb
  simp only at hc hd hc2 hd2
  subst hc hd hc2 hd2
  exact richCompare_meets_room (op := .Lt) ⟨_, ho, rfl⟩ ⟨_, ho2, rfl⟩ F.slot_list_lt F.entry_list_lt (F.args_list_lt_2 _ _) (list_ltAt l b items items2 n n2 dd dd2 sl sl2 k r)
    ⟨ho, ho2, he, show Value.bool r ≠ Value.notImplemented ∧ Q (.bool r) s from ⟨(fun x => nomatch x), h⟩⟩ hu
theorem LtAt.tuples {A : Around} {s : Shared} {l b : Addr} {items items2 : Array Value} {k : Nat} {r : Bool} (hl : s.heap.IsTuple l items) (hb : s.heap.IsTuple b items2) (hu : A.units < cLine)
    (he : PartAt A.in1 s items items2 k r) : LtAt A s (.ref l) (.ref b) r := fun prog w E Q h => by
  obtain ⟨⟨cls, dd, data, sl⟩, ho, hc, n, hd⟩ := id hl
  obtain ⟨⟨cls2, dd2, data2, sl2⟩, ho2, hc2, n2, hd2⟩ := id hb
  simp only at hc hd hc2 hd2
  subst hc hd hc2 hd2
  exact richCompare_meets_room (op := .Lt) ⟨_, ho, rfl⟩ ⟨_, ho2, rfl⟩ F.slot_tuple_lt F.entry_tuple_lt (F.args_tuple_lt_2 _ _) (tuple_ltAt l b items items2 n n2 dd dd2 sl sl2 k r)
    ⟨ho, ho2, he, show Value.bool r ≠ Value.notImplemented ∧ Q (.bool r) s from ⟨(fun x => nomatch x), h⟩⟩ hu
theorem LtAt.ints {A : Around} {s : Shared} (a : Int) (t : Tok) (b : Int) (u : Tok) : LtAt A s (.int a t) (.int b u) (decide (a < b)) := fun prog w E Q h =>
  richCompare_gives (op := .Lt) (typeIs_int s a t) (typeIs_int s b u) F.slot_int_lt F.entry_int_lt (F.args_int_lt_2 _ _) (gives_int_lt a b t u) (fun x => nomatch x) h
theorem LtAt.strs {A : Around} {s : Shared} (x : Str) (t : Tok) (y : Str) (u : Tok) : LtAt A s (.str x t) (.str y u) (decide (x.cps.toList < y.cps.toList)) := fun prog w E Q h =>
  richCompare_gives (op := .Lt) (typeIs_str s x t) (typeIs_str s y u) F.slot_str_lt F.entry_str_lt (F.args_str_lt_2 _ _) (gives_str_lt x y t u) (fun x => nomatch x) h
theorem PartAt.one {A s} {a b : Value} (e : SeqAt.EqAt A s a b false) {r : Bool} (hl : LtAt A s a b r) : PartAt A s #[a] #[b] 0 r :=
  ⟨fun j _ _ h => absurd h (Nat.not_lt_zero _), .inl ⟨by simp, by simp, e, hl⟩⟩
theorem PartAt.first {A s} {a b a' b' : Value} (e : SeqAt.EqAt A s a b false) {r : Bool} (hl : LtAt A s a b r) : PartAt A s #[a, a'] #[b, b'] 0 r :=
  ⟨fun j _ _ h => absurd h (Nat.not_lt_zero _), .inl ⟨by simp, by simp, e, hl⟩⟩
theorem PartAt.second {A s} {a b a' b' : Value} (e0 : SeqAt.EqAt A s a b true) (e : SeqAt.EqAt A s a' b' false) {r : Bool} (hl : LtAt A s a' b' r) : PartAt A s #[a, a'] #[b, b'] 1 r := by
  refine ⟨fun j h1 h2 h => ?_, .inl ⟨by simp, by simp, e, hl⟩⟩
  obtain rfl : j = 0 := by omega
  exact e0

/-- the law's key as data -/
noncomputable def keyD (o : Ord) : Val → PyData
  | .num x y => .tuple [.int (lawN x y).1, .int (lawN x y).2]
  | .txt s => match o.up with
    | none => .tuple [.str s]
    | some up => .tuple [.str (Txt.lower s), .list ((forms up s).map PyData.int)]
def KeyRef (h : Heap) (k : Addr) (o : Ord) : Val → Prop
  | .num x y => ∃ t1 t2, IsTup h k [.int (lawN x y).1 t1, .int (lawN x y).2 t2].toArray
  | .txt s => match o.up with
    | none => ∃ t1, IsTup h k [.str s t1].toArray
    | some up => ∃ t1 l vs, IsTup h k [.str (Txt.lower s) t1, .ref l].toArray ∧ h.IsList l (List.toArray vs) ∧ IntsAre vs (forms up s)
theorem KeyRef.keeps {h h' : Heap} {k : Addr} {o : Ord} {d : Val} (x : KeyRef h k o d) (kp : Kp h h') : KeyRef h' k o d := by
  cases d with
  | num a b => obtain ⟨t1, t2, i⟩ := x; exact ⟨t1, t2, i.keeps kp⟩
  | txt s =>
    obtain ⟨n, dn, up⟩ := o
    cases up with
    | none => obtain ⟨t1, i⟩ := x; exact ⟨t1, i.keeps kp⟩
    | some up => obtain ⟨t1, l, vs, i, j, e⟩ := x; exact ⟨t1, l, vs, i.keeps kp, isList_keeps j kp, e⟩
theorem reads_tup {h : Heap} {a : Addr} {vs : List Value} {xs : List PyData} {as : List Addr} (t : IsTup h a vs.toArray) (r : ReadsAll h vs xs as) : Reads h (.ref a) (.tuple xs) as := by
  obtain ⟨o, ho, hc, n, hd⟩ := t
  exact .tuple ho hc hd (by simpa using r)
theorem reads_list {h : Heap} {a : Addr} {vs : List Value} {xs : List PyData} {as : List Addr} (t : h.IsList a vs.toArray) (r : ReadsAll h vs xs as) : Reads h (.ref a) (.list xs) (a :: as) := by
  obtain ⟨o, ho, hc, n, hd⟩ := t
  exact .list ho hc hd (by simpa using r)
theorem KeyRef.reads {h : Heap} {k : Addr} {o : Ord} {d : Val} (x : KeyRef h k o d) : ∃ as, Reads h (.ref k) (keyD o d) as := by
  cases d with
  | num a b => obtain ⟨t1, t2, i⟩ := x; exact ⟨_, reads_tup i (readsAll_cons_val (.int _ _) (readsAll_cons_val (.int _ _) .nil))⟩
  | txt s =>
    obtain ⟨n, dn, up⟩ := o
    cases up with
    | none => obtain ⟨t1, i⟩ := x; exact ⟨_, reads_tup i (readsAll_cons_val (.str _ _) .nil)⟩
    | some up => obtain ⟨t1, l, vs, i, j, e⟩ := x; exact ⟨_, reads_tup i (readsAll_cons_val (.str _ _) (.cons (reads_list j (ints_readAll h e)) .nil))⟩
theorem ups (up : Bool) : up ∈ [true, false] := by cases up <;> simp
theorem shaped_up : ∀ up ∈ [true, false], ∀ s ∈ texts, SeqAt.shaped (.tuple [.str (Txt.lower s), .list ((forms up s).map PyData.int)]) = true := by decide +kernel
theorem shaped_none : ∀ s ∈ texts, SeqAt.shaped (.tuple [.str s]) = true := by decide +kernel
theorem eqv_up : ∀ up ∈ [true, false], ∀ a ∈ texts, ∀ b ∈ texts, PyData.eqv (.tuple [.str (Txt.lower a), .list ((forms up a).map PyData.int)]) (.tuple [.str (Txt.lower b), .list ((forms up b).map PyData.int)]) = decide (rankT (some up) a = rankT (some up) b) := by decide +kernel
theorem eqv_none : ∀ a ∈ texts, ∀ b ∈ texts, PyData.eqv (.tuple [.str a]) (.tuple [.str b]) = decide (rankT none a = rankT none b) := by decide +kernel
theorem lawN_rank {x y x' y' : Int} (h : NumOk x y) (h' : NumOk x' y') : ((lawN x y).1 = (lawN x' y').1 ∧ (lawN x y).2 = (lawN x' y').2) ↔ rankN x y = rankN x' y' :=
  decide_eq_decide.mp (eq_of_beq (numAll_of (P := fun x y x' y' => decide ((lawN x y).1 = (lawN x' y').1 ∧ (lawN x y).2 = (lawN x' y').2) == decide (rankN x y = rankN x' y')) (by decide +kernel) h h'))
theorem lawN_lt {x y x' y' : Int} (h : NumOk x y) (h' : NumOk x' y') : ((lawN x y).1 < (lawN x' y').1 ∨ ((lawN x y).1 = (lawN x' y').1 ∧ (lawN x y).2 < (lawN x' y').2)) ↔ rankN x y < rankN x' y' :=
  decide_eq_decide.mp (eq_of_beq (numAll_of (P := fun x y x' y' => decide ((lawN x y).1 < (lawN x' y').1 ∨ ((lawN x y).1 = (lawN x' y').1 ∧ (lawN x y).2 < (lawN x' y').2)) == decide (rankN x y < rankN x' y')) (by decide +kernel) h h'))
/-- the rank of a value, whichever way the order goes -/
def rk (o : Ord) : Val → Int
  | .num x y => rankN x y
  | .txt s => rankT o.up s
theorem keyI_rk (o : Ord) (d : Val) : keyI o d = if o.down = true then - rk o d else rk o d := by cases d <;> rfl
theorem keyD_shaped {o : Ord} {d : Val} (h : ValOk o.num d) : SeqAt.shaped (keyD o d) = true := by
  cases d with
  | num x y => exact rfl
  | txt s =>
    obtain ⟨n, dn, up⟩ := o
    cases up with
    | none => exact shaped_none s h.2
    | some up => exact shaped_up up (ups up) s h.2
theorem keyD_eqv {o : Ord} {d e : Val} (h : ValOk o.num d) (h' : ValOk o.num e) : PyData.eqv (keyD o d) (keyD o e) = decide (rk o d = rk o e) := by
  cases d with
  | num x y =>
    cases e with
    | txt _ => obtain ⟨q, _⟩ := h; obtain ⟨q', _⟩ := h'; rw [q] at q'; cases q'
    | num x' y' =>
      rw [keyD, keyD, eqv_pair]
      exact decide_eq_decide.mpr (lawN_rank h.2 h'.2)
  | txt x =>
    cases e with
    | num _ _ => obtain ⟨q, _⟩ := h; obtain ⟨q', _⟩ := h'; rw [q] at q'; cases q'
    | txt x' =>
      obtain ⟨n, dn, up⟩ := o
      cases up with
      | none => exact eqv_none x h.2 x' h'.2
      | some up => exact eqv_up up (ups up) x h.2 x' h'.2
theorem ne_key {w : World} {A : Around} {E : Value → Shared → Prop} {s : Shared} {k1 k2 : Addr} {o : Ord} {d e : Val} {Q : Value → Shared → Prop}
    (r1 : KeyRef s.heap k1 o d) (r2 : KeyRef s.heap k2 o e) (h : ValOk o.num d) (h' : ValOk o.num e) (hu : A.units + 64 < cLine) (hq : Q (.bool (!decide (rk o d = rk o e))) s) :
    wpAny (MM w) A (compareOp .NotEq (.ref k1) (.ref k2)) Q E s := by
  obtain ⟨as, q1⟩ := r1.reads
  obtain ⟨bs, q2⟩ := r2.reads
  exact ne_dataH q1 q2 (keyD_shaped h) (keyD_shaped h') hu (by rw [keyD_eqv h h']; exact hq)

/-- one row of numbers ahead of another -/
noncomputable def ltL : List Int → List Int → Bool
  | a :: as, b :: bs => if a = b then ltL as bs else decide (a < b)
  | [], _ :: _ => true
  | _, [] => false
theorem ltL_part : ∀ xs ys : List Int, ∃ k, (∀ j, j < k → ∃ a, xs[j]? = some a ∧ ys[j]? = some a) ∧
    ((∃ a b, xs[k]? = some a ∧ ys[k]? = some b ∧ a ≠ b ∧ ltL xs ys = decide (a < b)) ∨ (k = min xs.length ys.length ∧ ltL xs ys = decide (xs.length < ys.length)))
  | [], [] => ⟨0, fun j h => absurd h (Nat.not_lt_zero _), .inr ⟨rfl, rfl⟩⟩
  | [], b :: bs => ⟨0, fun j h => absurd h (Nat.not_lt_zero _), .inr ⟨by simp, by simp [ltL]⟩⟩
  | a :: as, [] => ⟨0, fun j h => absurd h (Nat.not_lt_zero _), .inr ⟨by simp, by simp [ltL]⟩⟩
  | a :: as, b :: bs => by
    by_cases h : a = b
    · subst h
      obtain ⟨k, h1, h2⟩ := ltL_part as bs
      refine ⟨k + 1, fun j hj => ?_, ?_⟩
      · cases j with
        | zero => exact ⟨a, rfl, rfl⟩
        | succ j => simpa using h1 j (by omega)
      · rcases h2 with ⟨x, y, e1, e2, e3, e4⟩ | ⟨e1, e2⟩
        · exact .inl ⟨x, y, by simpa using e1, by simpa using e2, e3, by rw [ltL, if_pos rfl, e4]⟩
        · refine .inr ⟨by simp only [List.length_cons]; omega, by rw [ltL, if_pos rfl, e2]; simp⟩
    · exact ⟨0, fun j hj => absurd hj (Nat.not_lt_zero _), .inl ⟨a, b, rfl, rfl, h, by rw [ltL, if_neg h]⟩⟩
theorem ints_get {vs : List Value} {xs : List Int} (h : IntsAre vs xs) : ∀ {j : Nat} {a : Int} (h1 : j < vs.toArray.size), xs[j]? = some a → ∃ t, vs.toArray[j] = .int a t := by
  induction h with
  | nil => intro j a h1; simp at h1
  | cons n u _ ih =>
    intro j a h1 e
    cases j with
    | zero => simp at e; subst e; exact ⟨_, rfl⟩
    | succ j =>
      obtain ⟨t, q⟩ := ih (j := j) (by simpa using h1) (by simpa using e)
      exact ⟨t, by simpa using q⟩
theorem PartAt.ints {A : Around} {s : Shared} {vs ws : List Value} {xs ys : List Int} (h : IntsAre vs xs) (h' : IntsAre ws ys) : ∃ k, PartAt A s vs.toArray ws.toArray k (ltL xs ys) := by
  have n1 : vs.toArray.size = xs.length := by simpa using h.length
  have n2 : ws.toArray.size = ys.length := by simpa using h'.length
  obtain ⟨k, p1, p2⟩ := ltL_part xs ys
  refine ⟨k, fun j h1 h2 hj => ?_, ?_⟩
  · obtain ⟨a, e1, e2⟩ := p1 j hj
    obtain ⟨t, f1⟩ := ints_get h h1 e1
    obtain ⟨u, f2⟩ := ints_get h' h2 e2
    rw [f1, f2]
    have := SeqAt.EqAt.int_int (A := A) (s := s) a t a u
    rwa [beq_self_eq_true] at this
  · rcases p2 with ⟨a, b, e1, e2, e3, e4⟩ | ⟨e1, e2⟩
    · have h1 : k < vs.toArray.size := by rw [n1]; exact (List.getElem?_eq_some_iff.mp e1).1
      have h2 : k < ws.toArray.size := by rw [n2]; exact (List.getElem?_eq_some_iff.mp e2).1
      obtain ⟨t, f1⟩ := ints_get h h1 e1
      obtain ⟨u, f2⟩ := ints_get h' h2 e2
      refine .inl ⟨h1, h2, ?_, ?_⟩
      · rw [f1, f2]
        have := SeqAt.EqAt.int_int (A := A) (s := s) a t b u
        rwa [show (a == b) = false by simpa using e3] at this
      · rw [f1, f2, e4]; exact LtAt.ints a t b u
    · exact .inr ⟨by rw [n1, n2]; exact e1, by rw [n1, n2]; exact e2⟩
theorem lt_none : ∀ a ∈ texts, ∀ b ∈ texts, (decide (a.cps.toList < b.cps.toList)) = decide (rankT none a < rankT none b) := by decide +kernel
theorem lt_up : ∀ up ∈ [true, false], ∀ a ∈ texts, ∀ b ∈ texts, (if Txt.lower a = Txt.lower b then ltL (forms up a) (forms up b) else decide ((Txt.lower a).cps.toList < (Txt.lower b).cps.toList)) = decide (rankT (some up) a < rankT (some up) b) := by decide +kernel
theorem same_up : ∀ up ∈ [true, false], ∀ a ∈ texts, ∀ b ∈ texts, (Txt.lower a = Txt.lower b ∧ forms up a = forms up b) → rankT (some up) a = rankT (some up) b := by decide +kernel
theorem eqv_forms {xs ys : List Int} (h : xs ≠ ys) : PyData.eqv (.list (xs.map PyData.int)) (.list (ys.map PyData.int)) = false := by
  rw [PyData.eqv]
  induction xs generalizing ys with
  | nil =>
    cases ys with
    | nil => exact absurd rfl h
    | cons b ys => rfl
  | cons a xs ih =>
    cases ys with
    | nil => rfl
    | cons b ys =>
      simp only [List.map_cons, PyData.eqvAll, PyData.eqv, Bool.and_eq_false_imp, beq_iff_eq]
      intro e
      exact ih (fun q => h (by rw [e, q]))
theorem lay_forms : ∀ up ∈ [true, false], ∀ s ∈ texts, (PyData.list ((forms up s).map PyData.int)).canLay0 = true ∧ (PyData.list ((forms up s).map PyData.int)).depth ≤ 8 := by decide +kernel
theorem lt_key {w : World} {A : Around} {E : Value → Shared → Prop} {s : Shared} {k1 k2 : Addr} {o : Ord} {d e : Val} {Q : Value → Shared → Prop}
    (r1 : KeyRef s.heap k1 o d) (r2 : KeyRef s.heap k2 o e) (h : ValOk o.num d) (h' : ValOk o.num e) (hu : A.units + 64 < cLine) (hne : rk o d ≠ rk o e) (hq : Q (.bool (decide (rk o d < rk o e))) s) :
    wpAny (MM w) A (compareOp .Lt (.ref k1) (.ref k2)) Q E s := by
  refine cmp_ofLt ?_
  have hu' : A.units < cLine := by omega
  have hu1 : A.in1.units < cLine := by rw [Around.in1_units]; omega
  cases d with
  | num x y =>
    cases e with
    | txt _ => obtain ⟨q, _⟩ := h; obtain ⟨q', _⟩ := h'; rw [q] at q'; cases q'
    | num x' y' =>
      obtain ⟨t1, t2, i1⟩ := r1
      obtain ⟨u1, u2, i2⟩ := r2
      have hN := lawN_rank h.2 h'.2
      have hL := lawN_lt h.2 h'.2
      simp only [rk] at hne hq
      by_cases p : (lawN x y).1 = (lawN x' y').1
      · have p2 : (lawN x y).2 ≠ (lawN x' y').2 := fun q => hne (hN.mp ⟨p, q⟩)
        have e0 := SeqAt.EqAt.int_int (A := A.in1) (s := s) (lawN x y).1 t1 (lawN x' y').1 u1
        have e1 := SeqAt.EqAt.int_int (A := A.in1) (s := s) (lawN x y).2 t2 (lawN x' y').2 u2
        rw [show ((lawN x y).1 == (lawN x' y').1) = true by simpa using p] at e0
        rw [show ((lawN x y).2 == (lawN x' y').2) = false by simpa using p2] at e1
        refine LtAt.tuples i1 i2 hu' (PartAt.second e0 e1 (LtAt.ints _ _ _ _)) _ w E Q ?_
        rw [show decide ((lawN x y).2 < (lawN x' y').2) = decide (rankN x y < rankN x' y') from decide_eq_decide.mpr (by rw [← hL]; omega)]
        exact hq
      · have e0 := SeqAt.EqAt.int_int (A := A.in1) (s := s) (lawN x y).1 t1 (lawN x' y').1 u1
        rw [show ((lawN x y).1 == (lawN x' y').1) = false by simpa using p] at e0
        refine LtAt.tuples i1 i2 hu' (PartAt.first e0 (LtAt.ints _ _ _ _)) _ w E Q ?_
        rw [show decide ((lawN x y).1 < (lawN x' y').1) = decide (rankN x y < rankN x' y') from decide_eq_decide.mpr (by rw [← hL]; omega)]
        exact hq
  | txt x =>
    cases e with
    | num _ _ => obtain ⟨q, _⟩ := h; obtain ⟨q', _⟩ := h'; rw [q] at q'; cases q'
    | txt x' =>
      obtain ⟨n, dn, up⟩ := o
      simp only [rk] at hne hq
      cases up with
      | none =>
        obtain ⟨t1, i1⟩ := r1
        obtain ⟨u1, i2⟩ := r2
        have e0 := SeqAt.EqAt.str_str (A := A.in1) (s := s) x t1 x' u1
        rw [show (x == x') = false by simpa using fun q : x = x' => hne (by rw [q])] at e0
        refine LtAt.tuples i1 i2 hu' (PartAt.one e0 (LtAt.strs _ _ _ _)) _ w E Q ?_
        rw [lt_none x h.2 x' h'.2]
        exact hq
      | some up =>
        obtain ⟨t1, l1, vs1, i1, j1, f1⟩ := r1
        obtain ⟨u1, l2, vs2, i2, j2, f2⟩ := r2
        have hl := lt_up up (ups up) x h.2 x' h'.2
        have e0 := SeqAt.EqAt.str_str (A := A.in1) (s := s) (Txt.lower x) t1 (Txt.lower x') u1
        by_cases p : Txt.lower x = Txt.lower x'
        · rw [show (Txt.lower x == Txt.lower x') = true by simpa using p] at e0
          have p2 : forms up x ≠ forms up x' := fun q => hne (same_up up (ups up) x h.2 x' h'.2 ⟨p, q⟩)
          have z1 := lay_forms up (ups up) x h.2
          have z2 := lay_forms up (ups up) x' h'.2
          have e1 := SeqAt.eqAt_reads _ _ A.in1 s _ _ _ _ (reads_list j1 (ints_readAll s.heap f1)) (reads_list j2 (ints_readAll s.heap f2)) z1.1 z2.1 (by have := z1.2; rw [Around.in1_units]; omega)
          rw [eqv_forms p2] at e1
          obtain ⟨k, pk⟩ := PartAt.ints (A := A.in1.in1) (s := s) f1 f2
          refine LtAt.tuples i1 i2 hu' (PartAt.second e0 e1 (LtAt.lists j1 j2 hu1 pk)) _ w E Q ?_
          rw [if_pos p] at hl
          rw [hl]
          exact hq
        · rw [show (Txt.lower x == Txt.lower x') = false by simpa using p] at e0
          rw [if_neg p] at hl
          refine LtAt.tuples i1 i2 hu' (PartAt.first e0 (LtAt.strs _ _ _ _)) _ w E Q ?_
          rw [hl]
          exact hq

def TupIn (news : List (Addr × Obj)) (a : Addr) (vs : List Value) : Prop := ∃ o n, (a, o) ∈ news ∧ o.cls = .type "tuple" ∧ o.data = .seq vs.toArray n
theorem TupIn.isTup {h₀ h : Heap} {L a : Addr} {news : List (Addr × Obj)} {vs : List Value} (x : TupIn news a vs) (N : News h₀ L h news) : IsTup h a vs.toArray := let ⟨o, n, m, c, d⟩ := x; ⟨o, (N _ m).1, c, n, d⟩
theorem TupIn.mono {news news' : List (Addr × Obj)} {a vs} (x : TupIn news a vs) (s : ∀ p ∈ news, p ∈ news') : TupIn news' a vs := let ⟨o, n, m, c⟩ := x; ⟨o, n, s _ m, c⟩
/-- a key of the ledger -/
def KeyIn (news : List (Addr × Obj)) (k : Addr) (o : Ord) : Val → Prop
  | .num x y => ∃ t1 t2, TupIn news k [.int (lawN x y).1 t1, .int (lawN x y).2 t2]
  | .txt s => match o.up with
    | none => ∃ t1, TupIn news k [.str s t1]
    | some up => ∃ t1 l vs, TupIn news k [.str (Txt.lower s) t1, .ref l] ∧ ListIn news l vs ∧ IntsAre vs (forms up s)
theorem KeyIn.ref {h₀ h : Heap} {L : Addr} {ks news : List (Addr × Obj)} {k : Addr} {o : Ord} {d : Val} (x : KeyIn ks k o d) (N : News h₀ L h news) (sub : ∀ p ∈ ks, p ∈ news) : KeyRef h k o d := by
  cases d with
  | num a b => obtain ⟨t1, t2, i⟩ := x; exact ⟨t1, t2, (i.mono sub).isTup N⟩
  | txt s =>
    obtain ⟨n, dn, up⟩ := o
    cases up with
    | none => obtain ⟨t1, i⟩ := x; exact ⟨t1, (i.mono sub).isTup N⟩
    | some up => obtain ⟨t1, l, vs, i, j, e⟩ := x; exact ⟨t1, l, vs, (i.mono sub).isTup N, (j.mono sub).isList N, e⟩
/-- what a call made -/
def Made1 (h h' : Heap) (ks : List (Addr × Obj)) : Prop := ∀ p ∈ ks, h'.get? p.1 = some p.2 ∧ h.get? p.1 = none
theorem law_key_ok {w : World} {A : Around} {R : Result → Shared → Prop} {s : Shared} {v : Value} {o : Ord} {d : Val}
   (a0 : Amb w s.heap) (ok : Ok A 2) (hv : ValAt s.heap v d) (hd : ValOk o.num d)
   (hret : Rets R s fun r h' => ∃ k ks, r = .ref k ∧ KeyIn ks k o d ∧ Made1 s.heap h' ks) :
   codeAny (MM w) A (.call (.ref 116) ⟨[v, .bool o.num, ufV o.up], []⟩) R s := by
  cases d with
  | num x y =>
    obtain ⟨a, tx, ty, rfl, ta⟩ := hv
    rw [hd.1]
    refine key_num a0 ok ta hd.2 fun r h' t' k p => hret r h' t' k ?_
    obtain ⟨k, t1, t2, e, f, ob, ho, hc, n, hd⟩ := p
    exact ⟨k, [(k, ob)], e, ⟨t1, t2, ob, n, .head _, hc, hd⟩, fun p hp => by cases List.mem_singleton.mp hp; exact ⟨ho, f⟩⟩
  | txt x =>
    obtain ⟨tx, rfl⟩ := hv
    rw [hd.1]
    obtain ⟨n, dn, up⟩ := o
    cases up with
    | none =>
      refine key_none a0 ok fun r h' t' k p => hret r h' t' k ?_
      obtain ⟨k, t1, e, f, ob, ho, hc, n, hd⟩ := p
      exact ⟨k, [(k, ob)], e, ⟨t1, ob, n, .head _, hc, hd⟩, fun p hp => by cases List.mem_singleton.mp hp; exact ⟨ho, f⟩⟩
    | some up =>
      refine key_up a0 ok (texts_len hd.2) fun r h' t' k p => hret r h' t' k ?_
      obtain ⟨k, t1, l, vs, e, f, f2, ⟨ob, ho, hc, n, hd⟩, ⟨ob2, ho2, hc2, n2, hd2⟩, j⟩ := p
      refine ⟨k, [(k, ob), (l, ob2)], e, ⟨t1, l, vs, ⟨ob, n, .head _, hc, hd⟩, ⟨ob2, n2, .tail _ (.head _), hc2, hd2⟩, j⟩, fun p hp => ?_⟩
      rcases List.mem_cons.mp hp with rfl | hp
      · exact ⟨ho, f⟩
      · cases List.mem_singleton.mp hp; exact ⟨ho2, f2⟩
/-- a call by its contract, what it made kept in the ledger -/
theorem callK {w : World} {A : Around} {s : Shared} {f : Addr} {args : List Value} {h₀ : Heap} {L : Addr} {m : Str → Option Value} {news : List (Addr × Obj)} {P : Value → List (Addr × Obj) → Prop} {Q : Value → Shared → Prop} {E : Value → Shared → Prop}
    (F : Fr h₀ L s.heap m) (N : News h₀ L s.heap news)
    (C : ∀ R, (Rets R s fun r h' => ∃ k ks, r = .ref k ∧ P (.ref k) ks ∧ Made1 s.heap h' ks) → codeAny (MM w) A (.call (.ref f) ⟨args, []⟩) R s)
    (h : ∀ k h' t' ks, P (.ref k) ks → Fr h₀ L h' m → News h₀ L h' (ks ++ news) → Q (.ref k) ⟨h', s.gens, s.drawn, t', s.os⟩) :
    wpAny (MM w) A (PySem.call (.ref f) args) Q E s := by
  refine wpAny_call (C _ fun v h' t' kp p => ?_)
  obtain ⟨k, ks, rfl, q, md⟩ := p
  refine h k h' t' ks q (F.keeps kp) fun p hp => ?_
  rcases List.mem_append.mp hp with hp | hp
  · obtain ⟨e1, e2⟩ := md p hp
    obtain ⟨oL, _, _, hL, _⟩ := id F.ns
    refine ⟨e1, fun e => ?_, ?_⟩
    · rw [e, hL] at e2; cases e2
    · cases q : h₀.get? p.1 with
      | none => rfl
      | some o' => have := F.keep _ _ q; rw [e2] at this; cases this
  · exact N.grown kp p hp
/-- the law's own order: a tuple -/
def LordAt (h : Heap) (v : Value) (o : Ord) : Prop := ∃ a, v = .ref a ∧ IsTup h a [.bool o.num, .bool o.down, ufV o.up].toArray
theorem LordAt.keeps {h h' : Heap} {v : Value} {o : Ord} (x : LordAt h v o) (k : Kp h h') : LordAt h' v o := let ⟨a, e, i⟩ := x; ⟨a, e, i.keeps k⟩
def LordsAt (h : Heap) (l : Addr) (os : List Ord) : Prop := ∃ vs, h.IsList l (List.toArray vs) ∧ All2 (LordAt h) vs os
theorem LordsAt.keeps {h h' : Heap} {l os} (x : LordsAt h l os) (k : Kp h h') : LordsAt h' l os := let ⟨vs, a, b⟩ := x; ⟨vs, isList_keeps a k, b.imp fun _ _ q => q.keeps k⟩
theorem sign_key {o : Ord} {d e : Val} (hne : rk o d ≠ rk o e) : (if (decide (rk o d < rk o e) == o.down) = true then (1 : Int) else -1) = sgn (keyI o d) (keyI o e) := by
  rw [keyI_rk, keyI_rk]
  unfold sgn
  rcases Int.lt_or_gt_of_ne hne with h | h
  · cases o.down <;> simp [h] <;> omega
  · have h' : ¬ rk o d < rk o e := by omega
    cases o.down <;> simp [h'] <;> omega
theorem sgn_zero {o : Ord} {d e : Val} (he : rk o d = rk o e) : sgn (keyI o d) (keyI o e) = 0 := by
  rw [keyI_rk, keyI_rk, he]
  unfold sgn
  simp
theorem call_key {w : World} {A : Around} {s : Shared} {v : Value} {o : Ord} {d : Val} {h₀ : Heap} {L : Addr} {m : Str → Option Value} {news : List (Addr × Obj)} {Q : Value → Shared → Prop} {E : Value → Shared → Prop}
    (F : Fr h₀ L s.heap m) (N : News h₀ L s.heap news) (a0 : Amb w s.heap) (ok : Ok A 2) (hv : ValAt s.heap v d) (hd : ValOk o.num d)
    (h : ∀ k h' t' ks, KeyIn ks k o d → Fr h₀ L h' m → News h₀ L h' (ks ++ news) → Q (.ref k) ⟨h', s.gens, s.drawn, t', s.os⟩) :
    wpAny (MM w) A (PySem.call (.ref 116) [v, .bool o.num, ufV o.up]) Q E s := by
  refine callK F N (P := fun v ks => ∃ k, v = .ref k ∧ KeyIn ks k o d) (fun R hr => law_key_ok a0 ok hv hd fun r h' t' kp p => ?_) ?_
  · obtain ⟨k, ks, e, q, md⟩ := p
    exact hr r h' t' kp ⟨k, ks, e, ⟨k, rfl, q⟩, md⟩
  · rintro k h' t' ks ⟨k', e, q⟩ F' N'
    cases e
    exact h k h' t' ks q F' N'
--MACROS
local macro_rules | `(tactic| walk_at "SUB") => `(tactic| (intro p hp; simp only [List.mem_cons, List.mem_append, hp, true_or, or_true]))
local macro_rules | `(tactic| walk_at "compareOp NotEq ref ref") => `(tactic| k_dflt (refine ne_key (by exact KeyIn.ref ‹_› ‹_› (by walk_at "SUB")) (by exact KeyIn.ref ‹_› ‹_› (by walk_at "SUB")) ‹_› ‹_› (Ok.units ‹_›) ?_))
local macro_rules | `(tactic| walk_at "compareOp Lt ref ref") => `(tactic| k_dflt (refine lt_key (by exact KeyIn.ref ‹_› ‹_› (by walk_at "SUB")) (by exact KeyIn.ref ‹_› ‹_› (by walk_at "SUB")) ‹_› ‹_› (Ok.units ‹_›) ‹_› ?_))
local macro_rules | `(tactic| walk_at "call ref") => `(tactic| k_dflt ((refine call_key (by with_reducible assumption) (by with_reducible assumption) (by walk_at "AMB") (by walk_at "OK") (by exact ValAt.keeps ‹_› (Fr.keep ‹_›)) ‹_› ?_); intro k2 h2 t2 ks2 q2 F2 N2; (try k_sweep)))
local macro_rules | `(tactic| walk_at "unpackItems ref") => `(tactic| (k_here; k_dflt (refine' unpackItemsN_ ?k1 ?k2 ?k3 ?k4 ?k5 ?_; (case k1 => k_asm); (case k2 => k_asm); (case k3 => kun_tup); (case k4 => exact Ok.h ‹_›); (case k5 => exact rfl); k_whole); intro h' F' N'; (try k_sweep)))
--END

theorem law_sign_ok {w : World} {A : Around} {R : Result → Shared → Prop} {s : Shared} {la r1 r2 : Addr} {os : List Ord} {ds es : List Val}
   (a0 : Amb w s.heap) (ok : Ok A 3) (ho : LordsAt s.heap la os) (hv : RowAt s.heap r1 ds) (hv' : RowAt s.heap r2 es) (hd : RowOk os ds) (hd' : RowOk os es) (hlen : os.length ≤ 1000)
   (hret : Rets R s fun v _ => ∃ u, v = .int (cmpR os ds es) u) :
   codeAny (MM w) A (.call (.ref 123) ⟨[.ref la, .ref r1, .ref r2], []⟩) R s := by
  have X := a0.X
  obtain ⟨mg, mb, T⟩ := a0.T
  obtain ⟨ovs, hl0, oo⟩ := ho
  obtain ⟨v1, hl1, o1⟩ := hv
  obtain ⟨v2, hl2, o2⟩ := hv'
  w_on
  refine' enter (binds := [("orders", .ref la), ("one", .ref r1), ("other", .ref r2)]) X T ok ?k6 ?k7 ?k9 ?kB ?_ ?c5 ?c6 ?c7 ?c8
  walk_at "ENTER"
  intro L h' t₁ Q okd F N hQ hQn
  have n0 := oo.length
  have n1 := o1.length
  have n2 := o2.length
  have m1 := hd.length
  have m2 := hd'.length
  walk_at "GO"
  refine range_loop (n := os.length) (L := L) rfl (fun i m _ => m "orders" = some (.ref la) ∧ m "one" = some (.ref r1) ∧ m "other" = some (.ref r2) ∧ ∀ j o d e, j < i → os[j]? = some o → ds[j]? = some d → es[j]? = some e → cmpV o d e = 0)
    okd.h (by assumption) (small_one (by omega) (by omega) (by omega) (by omega)) (by rw [rangeSize_one]; split <;> omega) (by assumption) (by assumption) ⟨rfl, rfl, rfl, fun j o d e hj => by omega⟩ ?_ ?_
  · intro i I o k t m₁ news₁ h tk hi hk hoff hJ F1 N1
    obtain ⟨j1, j2, j3, jz⟩ := hJ
    have hk' : k.toNat = i := by omega
    have eo : os[i]? = some os[i] := List.getElem?_eq_getElem hi
    have ed : ds[i]? = some (ds[i]'(by omega)) := List.getElem?_eq_getElem (by omega)
    have ee : es[i]? = some (es[i]'(by omega)) := List.getElem?_eq_getElem (by omega)
    generalize os[i] = oi at eo
    generalize ds[i]'(by omega) = di at ed
    generalize es[i]'(by omega) = ei at ee
    obtain ⟨_, x1, a, rfl, y1⟩ := oo.get i _ eo
    obtain ⟨w1, x2, y2⟩ := o1.get i _ ed
    obtain ⟨w2, x3, y3⟩ := o2.get i _ ee
    have g1 : ValOk oi.num di := by
      obtain ⟨_, q, z⟩ := hd.get i _ ed
      rw [eo] at q; cases q; exact z
    have g2 : ValOk oi.num ei := by
      obtain ⟨_, q, z⟩ := hd'.get i _ ee
      rw [eo] at q; cases q; exact z
    rw [← hk'] at x1 x2 x3
    have k0 : 0 ≤ k := by omega
    have k1 : k < 2 ^ 62 := by omega
    clear hk
    have hcv := cmpV_key g1 g2
    walk_at "GO"
    · refine' TPost.next ?F ?N news₁ ?s hoff ?r
      case F => assumption
      case N => assumption
      case s =>
        intro p hp
        simp only [List.mem_cons, List.mem_append] at hp ⊢
        exact .inr (.inr (.inr hp))
      case r =>
        refine ⟨j1, j2, j3, fun j o' d e hj a b c => ?_⟩
        rcases Nat.lt_succ_iff_lt_or_eq.mp hj with hj | rfl
        · exact jz j o' d e hj a b c
        · rw [eo] at a; rw [ed] at b; rw [ee] at c; cases a; cases b; cases c
          rw [hcv]; exact sgn_zero ‹_›
    all_goals
      dsimp only
      refine TPost.ret ?_
      dsimp only
      refine hQ _ _ (hret _ _ _ (Fr.keep (by assumption)) ⟨_, congrArg (Value.int · _) ?_⟩)
      have hk := sign_key (o := oi) (d := di) (e := ei) ‹_›
      rw [‹(decide (rk oi di < rk oi ei) == oi.down) = _›] at hk
      simp only [if_true, if_false, Bool.false_eq_true] at hk
      have hne : cmpV oi di ei ≠ 0 := by rw [hcv, ← hk]; decide
      rw [cmpR_at m1 m2 jz eo ed ee hne, hcv, ← hk]
  · intro m₁ news₁ h tk hJ F1 N1
    obtain ⟨j1, j2, j3, jz⟩ := hJ
    walk_at "GO"
    dsimp only
    exact hQ _ _ (hret _ _ _ F1.keep ⟨_, congrArg (Value.int · _) (cmpR_zero m1 m2 jz).symm⟩)

theorem addL2 {prog : Program} {w : World} {A : Around} {E : Value → Shared → Prop} {s : Shared} {h₀ : Heap} {L l b : Addr} {m : Str → Option Value} {news : List (Addr × Obj)} {its its2 : Array Value} {xs ys : List Value} {Q : Value → Shared → Prop} (F : Fr h₀ L s.heap m) (N : News h₀ L s.heap news)
    (hl : s.heap.IsList l its) (e1 : its.toList = xs) (hb : s.heap.IsList b its2) (e2 : its2.toList = ys) (hz : xs.length + ys.length ≤ 1000000)
    (h : ∀ a h', (∀ p ∈ news, p.1 < a) → Fr h₀ L h' m → News h₀ L h' ((a, listOf (xs ++ ys).toArray 0) :: news) → Q (.ref a) { s with heap := h' }) : wpAny (model prog w) A (binaryOp .Add (.ref l) (.ref b)) Q E s := by
  subst e1 e2
  have hz' : its.size + its2.size ≤ sizeLine := by rw [sizeLine_eq]; simp only [Array.length_toList] at hz; omega
  refine add_lists (vs := its.toList) (ws := its2.toList) (hsz := by rw [Array.length_toList, Array.length_toList]; exact hz') F N hl hb fun h' F' N' => h _ h' (fun p hp => Heap.lt_size (N p hp).1) F' N'
theorem sliceL {prog : Program} {w : World} {A : Around} {E : Value → Shared → Prop} {s : Shared} {h₀ : Heap} {L l : Addr} {m : Str → Option Value} {news : List (Addr × Obj)} {value slice : PySem.Expr} {its : Array Value} {zs : List Value} {vl vu : Value} {lo hi : Option Int} {Q : Value → Shared → Prop}
    (F : Fr h₀ L s.heap m) (N : News h₀ L s.heap news) (hl : s.heap.IsList l its) (pl : IsPart vl lo) (pu : IsPart vu hi) (e : (slicePick its lo hi none).toList = zs)
    (h : ∀ D h', (∀ p ∈ news, p.1 < D) → Fr h₀ L h' m → News h₀ L h' ((D, listOf zs.toArray 0) :: news) → Q (.ref D) { s with heap := h' })
    (hs : subscripted slice false (.ref l) (.ref s.heap.objs.size) = operate [.ref s.heap.objs.size, .ref l] (getItem (.ref l) (.ref s.heap.objs.size))) (ht : ∀ r, letTemporaryGo value (.ref l) r = pure ()) (hz : its.size ≤ 1000000) :
    wpAny (model prog w) A (subscriptTail value slice (.ref l) (.ref s.heap.objs.size)) Q E { s with heap := s.heap.push { cls := .type "slice", data := .fields #[vl, vu, .none] } } := by
  subst e
  refine slice_list F N hl pl pu (fun h' F' N' => ?_) hs ht (Nat.le_trans hz (by rw [sizeLine_eq]; decide))
  exact h _ h' (fun p hp => Nat.lt_succ_of_lt (Heap.lt_size (N p hp).1)) F' N'
--MACROS
local macro_rules | `(tactic| walk_at "subscriptTail Name Slice ref ref") => `(tactic| (k_here; (with_reducible show wpAny _ _ (subscriptTail _ (PySem.Expr.Slice _ _ none _) (Value.ref _) (Value.ref _)) _ _ _); k_dflt (refine' sliceL ?F ?N ?l ?p ?q ?e ?_ ?s ?t ?z; walk_at "KFN"; (case l => is_list); (case p => kmk_part); (case q => kmk_part); (case e => walk_at "TOLIST"); (case s => with_unfolding_all rfl); (case t => kmk_pure); (case z => ((try simp only [List.size_toArray, List.length_append, List.length_drop, List.length_take, List.length_cons, List.length_nil]); omega))); intro D8 h8 l8 F8 N8; (try k_sweep)))
local macro_rules | `(tactic| walk_at "TOLIST") => `(tactic| first | ((simp only [slicePick_from', slicePick_upto']; done)) | (simp only [slicePick_from', slicePick_upto']; exact rfl) | exact rfl)
local macro_rules | `(tactic| walk_at "binaryOp Add ref ref") => `(tactic| k_dflt (refine' addL2 ?F ?N ?l ?e1 ?b ?e2 ?z ?_; walk_at "FN"; walk_at "ADDC"; k_whole; intro a9 h9 l9 F9 N9; (try k_sweep)))
local macro_rules | `(tactic| walk_at "call ref") => `(tactic| k_dflt ((refine callP (by with_reducible assumption) (by with_reducible assumption) (fun R hr => law_sign_ok (by walk_at "AMB") (by walk_at "OK") (by exact LordsAt.keeps ‹_› (Fr.keep ‹_›)) (by exact RowAt.keeps ‹_› (Fr.keep ‹_›)) (by exact RowAt.keeps ‹_› (Fr.keep ‹_›)) ‹_› ‹_› ‹_› hr) ?_); walk_at "CPT"))
local macro_rules | `(tactic| walk_at "exec For Name Name cons nil") => `(tactic| (k_here; (rename Fr _ _ _ _ => lF'); (with_unfolding_all refine' For_invVF lF' ?k1 ?k2 ?_; (case k1 => exact rfl); (case k2 => exact rfl); k_whole)))
--END

theorem len_ins {α : Type} {l : List α} {x : α} {n : Nat} : (l.take n ++ [x] ++ l.drop n).length = l.length + 1 := by simp; omega
theorem law_sorted_ok {w : World} {A : Around} {R : Result → Shared → Prop} {s : Shared} {la l1 : Addr} {os : List Ord} {ps : List (List Val × Int)}
   (a0 : Amb w s.heap) (ok : Ok A 5) (ho : LordsAt s.heap la os) {v1 : List Value} (hl1 : s.heap.IsList l1 v1.toArray) (o1 : All2 (PairAt s.heap) v1 ps) (gp : ∀ p ∈ ps, RowOk os p.1) (hlen : os.length ≤ 1000) (hp1 : ps.length ≤ 1000)
   (hret : Rets R s fun v h' => ∃ l vs, v = .ref l ∧ s.heap.get? l = none ∧ h'.IsList l (List.toArray vs) ∧ ∀ P : Value → (List Val × Int) → Prop, All2 P v1 ps → All2 P vs (sortK (keyP os) ps)) :
   codeAny (MM w) A (.call (.ref 130) ⟨[.ref la, .ref l1], []⟩) R s := by
  have X := a0.X
  obtain ⟨mg, mb, T⟩ := a0.T
  w_on
  refine' enter (binds := [("orders", .ref la), ("pairs", .ref l1)]) X T ok ?k6 ?k7 ?k9 ?kB ?_ ?c5 ?c6 ?c7 ?c8
  walk_at "ENTER"
  intro L h' t₁ Q okd F N hQ hQn
  have n1 := o1.length
  walk_at "GO"
  refine' list_loop (L := L) rfl (fun i m news => ∃ (fa : Addr) (found : List Value) (k : Nat),
     m "orders" = some (.ref la) ∧ m "found" = some (.ref fa) ∧ news = [(fa, listOf found.toArray k)] ∧ found.length = i ∧
     (∀ P : Value → (List Val × Int) → Prop, All2 P v1 ps → All2 P found (sortK (keyP os) (ps.take i)))) okd.h hl1 ?lF ?lN ?l0 ?lt ?ld
  case lF => assumption
  case lN => assumption
  case l0 => exact ⟨_, [], 0, rfl, rfl, rfl, rfl, fun _ _ => .nil⟩
  · rintro i I o v m₁ news₁ h tk hv hoff ⟨fa, found, k, j1, j2, rfl, hfl, af⟩ F1 N1
    as_aux_lemma =>
      have hi : i < ps.length := by
        rcases Nat.lt_or_ge i ps.length with h | h
        · exact h
        · rw [List.getElem?_eq_none (by omega)] at hv; cases hv
      have ep : ps[i]? = some ps[i] := List.getElem?_eq_getElem hi
      have gpi := gp _ (List.getElem_mem hi)
      generalize ps[i] = p at ep gpi
      obtain ⟨v', x1, y1⟩ := o1.get i _ ep
      rw [hv] at x1; cases x1
      obtain ⟨pa, pr, pt, rfl, ip, rp⟩ := id y1
      have pf := af _ o1
      have gs : ∀ q ∈ sortK (keyP os) (ps.take i), RowOk os q.1 := fun q hq => gp q (List.mem_of_mem_take (mem_sortK.mp hq))
      have hsl : (sortK (keyP os) (ps.take i)).length = i := by rw [length_sortK, List.length_take]; omega
      have hsrt := sorted_sortK (keyP os) (ps.take i)
      have hins : insK (keyP os) p (sortK (keyP os) (ps.take i)) = sortK (keyP os) (ps.take (i + 1)) := by
        rw [List.take_add_one, ep]; simp [sortK, List.foldl_append]
      generalize sortK (keyP os) (ps.take i) = st at pf gs hsl hsrt hins af
      walk_at "GO"
      refine' while_loop (L := L) (fun n m news => ∃ (tt : Tok), m "orders" = some (.ref la) ∧ m "found" = some (.ref fa) ∧ m "pair" = some (.ref pa) ∧ m "at" = some (.int (n : Nat) tt) ∧
        news = [(I, o), (fa, listOf found.toArray k)] ∧ n ≤ i ∧ ∀ j a, n ≤ j → st[j]? = some a → keyP os p < keyP os a) i ?wF ?wN ?w0 ?wt
      case wF => assumption
      case wN => assumption
      case w0 =>
        have e0 : found.length = i := hfl
        subst e0
        refine ⟨_, j1, j2, rfl, rfl, rfl, Nat.le_refl _, fun j a hj e => ?_⟩
        rw [List.getElem?_eq_none (by omega)] at e; cases e
      case wt =>
        rintro n m₂ news₂ h2 tk2 ⟨tt, q1, q2, q3, q4, rfl, hni, hgt⟩ F2 N2
        as_aux_lemma =>
          have fin : (n = 0 ∨ ∃ a, st[n - 1]? = some a ∧ keyP os a ≤ keyP os p) → ∀ P : Value → (List Val × Int) → Prop, All2 P v1 ps → All2 P (found.take n ++ [.ref pa] ++ found.drop n) (sortK (keyP os) (ps.take (i + 1))) := by
            intro h3 P b1
            rw [← hins, ← ins_right (by omega) hgt hsrt h3]
            exact (((af P b1).take n).append (.one (b1.same hv ep))).append ((af P b1).drop n)
          rcases Nat.eq_zero_or_pos n with hn | hn
          · walk_at "GO"
            have fin' := fin (.inl hn)
            refine WTest.ff ?_
            walk_at "GO"
            rename_i a9 h9 l9 hh9 FF9 NN9
            refine' TPost.next ?Fa ?Na [(a9, listOf (found.take n ++ [Value.ref pa] ++ found.drop n).toArray 0)] ?sa ?oa ?ra
            case Fa => assumption
            case Na => assumption
            case ra => exact ⟨_, _, 0, q1, rfl, rfl, by rw [len_ins, hfl], fin'⟩
            case sa =>
              intro p hp
              simp only [List.mem_cons, List.not_mem_nil, or_false] at hp ⊢
              rcases hp with hp | hp <;> simp [hp]
            case oa =>
              rintro p hp
              simp only [List.mem_cons, List.not_mem_nil, or_false] at hp
              subst hp
              have l9 := l9 (I, o) (by simp)
              exact Nat.ne_of_gt l9
          · have es : st[n - 1]? = some (st[n - 1]'(by omega)) := List.getElem?_eq_getElem (by omega)
            have gq := gs _ (List.getElem_mem (l := st) (n := n - 1) (by omega))
            generalize st[n - 1]'(by omega) = q at es gq
            obtain ⟨w1, x2, y2⟩ := pf.get (n - 1) _ es
            obtain ⟨qa, qr, qt, rfl, iq, rq⟩ := id y2
            have x3 : found[(((n : Nat) : Int) - 1).toNat]? = some (.ref qa) := by rw [← x2]; congr 1; omega
            walk_at "GO"
            · refine WTest.tt ?_
              walk_at "GO"
              refine' WPost.next (n - 1) ?cF1 ?cN1 ?ca1 ?cr1
              case cF1 => assumption
              case cN1 => assumption
              case ca1 => omega
              case cr1 =>
                refine ⟨_, q1, q2, q3, congrArg (fun x => some (Value.int x _)) ?_, rfl, by omega, fun j a hj e => ?_⟩
                · omega
                · rcases Nat.eq_or_lt_of_le hj with rfl | hj
                  · rw [es] at e; cases e
                    have h0 := ‹0 < cmpR os q.fst p.fst›
                    rw [cmpR_key gq gpi] at h0
                    unfold keyP
                    unfold sgn at h0
                    split at h0
                    · omega
                    · split at h0 <;> omega
                  · exact hgt j a (by omega) e
            · have fin' := fin (.inr ⟨q, es, by
                have h0 := ‹¬ 0 < cmpR os q.fst p.fst›
                rw [cmpR_key gq gpi] at h0
                unfold keyP
                unfold sgn at h0
                split at h0
                · omega
                · split at h0 <;> omega⟩)
              refine WTest.ff ?_
              walk_at "GO"
              rename_i a9 h9 l9 hh9 FF9 NN9
              refine' TPost.next ?Fb ?Nb [(a9, listOf (found.take n ++ [Value.ref pa] ++ found.drop n).toArray 0)] ?sb ?ob ?rb
              case Fb => assumption
              case Nb => assumption
              case rb => exact ⟨_, _, 0, q1, rfl, rfl, by rw [len_ins, hfl], fin'⟩
              case sb =>
                intro p hp
                simp only [List.mem_cons, List.not_mem_nil, or_false] at hp ⊢
                rcases hp with hp | hp <;> simp [hp]
              case ob =>
                rintro p hp
                simp only [List.mem_cons, List.not_mem_nil, or_false] at hp
                subst hp
                have l9 := l9 (I, o) (by simp)
                exact Nat.ne_of_gt l9
  · rintro m₁ news₁ h tk ⟨fa, found, k, j1, j2, rfl, hfl, af⟩ F1 N1
    as_aux_lemma =>
      rw [List.take_of_length_le (by omega)] at af
      walk_at "GO"
      dsimp only
      exact hQ _ _ (hret _ _ _ F1.keep ⟨fa, found, rfl, News.fresh N1 (.head _), News.isList N1 (.head _), af⟩)

/-- a heap with one place left out: the ground of a def that stores there -/
def hole (h : Heap) (a : Addr) : Heap := { h with objs := h.objs.modify a fun o => { o with data := .freed } }
theorem hole_size {h : Heap} {a : Addr} : (hole h a).objs.size = h.objs.size := by simp [hole]
theorem hole_at {h : Heap} {a : Addr} : (hole h a).get? a = none := by
  unfold hole Heap.get?
  simp only [Array.getElem?_modify, if_true]
  cases h.objs[a]? with
  | none => rfl
  | some o => rfl
theorem hole_ne {h : Heap} {a b : Addr} (hb : b ≠ a) : (hole h a).get? b = h.get? b := by
  unfold hole Heap.get?
  simp only [Array.getElem?_modify, if_neg (Ne.symm hb)]
theorem hole_kp {h : Heap} {a : Addr} : Kp (hole h a) h := fun b o e => by
  by_cases hb : b = a
  · subst hb; rw [hole_at] at e; cases e
  · rwa [hole_ne hb] at e
theorem kp_hole {g h : Heap} {a : Addr} (k : Kp g h) (ha : g.get? a = none) : Kp g (hole h a) := fun b o e => by
  have hb : b ≠ a := fun q => by rw [q, ha] at e; cases e
  rw [hole_ne hb]; exact k b o e
/-- the law's source of draws -/
def Src (h : Heap) (a : Addr) : Prop := ∃ x y tx ty k, h.get? a = some (listOf #[.int x tx, .int y ty] k) ∧ 0 ≤ y ∧ y < 2147483648
/-- all but one place is kept -/
def KpBut (a : Addr) (h h' : Heap) : Prop := ∀ b o, b ≠ a → h.get? b = some o → h'.get? b = some o
theorem KpBut.of {a : Addr} {h h' : Heap} (k : Kp (hole h a) h') : KpBut a h h' := fun b o hb e => k b o (by rw [hole_ne hb]; exact e)
theorem KpBut.to {a : Addr} {h h' : Heap} (k : KpBut a h h') : Kp (hole h a) h' := fun b o e => by
  by_cases hb : b = a
  · subst hb; rw [hole_at] at e; cases e
  · rw [hole_ne hb] at e; exact k b o hb e
theorem KpBut.from {a : Addr} {g h h' : Heap} (k : KpBut a h h') (kg : Kp g h) (ha : g.get? a = none) : Kp g h' := fun b o e => k b o (fun q => by rw [q, ha] at e; cases e) (kg b o e)
/-- what a def gives back that stores at one place -/
abbrev RetsS (R : Result → Shared → Prop) (s : Shared) (a : Addr) (P : Value → Heap → Prop) : Prop :=
  ∀ v h' t', KpBut a s.heap h' → P v h' → R (.ok (.ret v)) ⟨h', s.gens, s.drawn, t', s.os⟩
/-- a frame over a ground with a place left out -/
theorem fr_hole {s h : Heap} {L a : Addr} {m : Str → Option Value} {o : Obj} (F : Fr s L h m) (ha : s.get? a = some o) : Fr (hole s a) L h m ∧ News (Mine.hole s a) L h [(a, o)] := by
  refine ⟨⟨F.ns, fun b o e => F.keep b o (hole_kp b o e), by rw [hole_size]; exact F.above⟩, fun p hp => ?_⟩
  cases List.mem_singleton.mp hp
  exact ⟨F.keep _ _ ha, Nat.ne_of_lt (Nat.lt_of_lt_of_le (Heap.lt_size ha) F.above), hole_at⟩

theorem fmod_lo (e : Int) {b : Int} (h : 0 < b) : -(2 ^ 64) < e.fmod b := by
  have := Int.fmod_nonneg_of_pos e h; omega
theorem fmod_hi (e : Int) {b : Int} (h : 0 < b) (h2 : b < 2 ^ 64) : e.fmod b < 2 ^ 64 := by
  have := Int.fmod_lt_of_pos e h; omega
--MACROS
local macro_rules | `(tactic| walk_at "binaryOp Mult int int") => `(tactic| k_dflt (refine PyProof.Rows.mul_int ?_ (IntMulOk.of_left (intBits_le_64 (by exact fmod_lo _ (by decide)) (by exact fmod_hi _ (by decide) (by decide))))))
--END
theorem take_ok {w : World} {A : Around} {R : Result → Shared → Prop} {s : Shared} {a : Addr} {n : Int} {tn : Tok}
   (a0 : Amb w (hole s.heap a)) (ok : Ok A 1) (src : Src s.heap a) (h0 : 0 < n) (h1 : n ≤ 1000)
   (hret : RetsS R s a fun v h' => Src h' a ∧ ∃ r t, v = .int r t ∧ 0 ≤ r ∧ r < n) :
   codeAny (MM w) A (.call (.ref 97) ⟨[.ref a, .int n tn], []⟩) R s := by
  have a1 := a0.keeps hole_kp
  have X := a1.X
  obtain ⟨mg, mb, T⟩ := a1.T
  obtain ⟨x, y, tx, ty, k, hs, hy0, hy1⟩ := src
  w_on
  refine' enter (binds := [("source", .ref a), ("top", .int n tn)]) X T ok ?k6 ?k7 ?k9 ?kB ?_ ?c5 ?c6 ?c7 ?c8
  walk_at "ENTER"
  intro L h' t₁ Q okd F N hQ hQn
  obtain ⟨F, N⟩ := fr_hole F hs
  clear X T a1 mg mb
  have X := a0.X
  obtain ⟨mg, mb, T⟩ := a0.T
  walk_at "GO"
  · dsimp only
    refine hQ _ _ (hret _ _ _ (KpBut.of (Fr.keep (by assumption))) ⟨⟨_, _, _, _, _, (‹News (hole s.heap a) L _ _› _ (.head _)).1, hy0, hy1⟩, _, _, rfl, Int.fmod_nonneg_of_pos _ h0, Int.fmod_lt_of_pos _ h0⟩)
  · dsimp only
    refine hQ _ _ (hret _ _ _ (KpBut.of (Fr.keep (by assumption))) ⟨⟨_, _, _, _, _, (‹News (hole s.heap a) L _ _› _ (.head _)).1, Int.fmod_nonneg_of_pos _ (by decide), ?_⟩, _, _, rfl, Int.fmod_nonneg_of_pos _ h0, Int.fmod_lt_of_pos _ h0⟩)
    have := Int.fmod_lt_of_pos ([x, y].getD (Int.toNat 1) 0 * 39373 + 7) (show (0 : Int) < 2147483647 by decide)
    omega

/-- one place of a ledger, to be filled anew -/
inductive Slot (a : Addr) (o : Obj) : List (Addr × Obj) → (Obj → List (Addr × Obj)) → Prop where
  | head {r} : (∀ p ∈ r, p.1 ≠ a) → Slot a o ((a, o) :: r) (fun o' => (a, o') :: r)
  | tail {p r f} : p.1 ≠ a → Slot a o r f → Slot a o (p :: r) (fun o' => p :: f o')
theorem Slot.mem {a : Addr} {o : Obj} {r f} (h : Slot a o r f) : (a, o) ∈ r := by
  induction h with
  | head _ => exact .head _
  | tail _ _ ih => exact .tail _ ih
theorem Slot.after {a : Addr} {o o' : Obj} {r f} (h : Slot a o r f) : ∀ p ∈ f o', p = (a, o') ∨ (p ∈ r ∧ p.1 ≠ a) := by
  induction h with
  | head hr =>
    intro p hp
    rcases List.mem_cons.mp hp with rfl | hp
    · exact .inl rfl
    · exact .inr ⟨.tail _ hp, hr p hp⟩
  | tail hn u ih =>
    intro p hp
    rcases List.mem_cons.mp hp with rfl | hp
    · exact .inr ⟨.head _, hn⟩
    · rcases ih p hp with h | ⟨h, h2⟩
      · exact .inl h
      · exact .inr ⟨.tail _ h, h2⟩
theorem Slot.news {h₀ h h' : Heap} {L a : Addr} {o o' : Obj} {news f} (U : Slot a o news f) (N : News h₀ L h news) (k : KpBut a h h') (e : h'.get? a = some o') : News h₀ L h' (f o') := fun p hp => by
  rcases U.after p hp with rfl | ⟨hm, hn⟩
  · exact ⟨e, (N _ U.mem).2⟩
  · exact ⟨k _ _ hn (N p hm).1, (N p hm).2⟩
theorem Slot.fr {h₀ h h' : Heap} {L a : Addr} {o : Obj} {m : Str → Option Value} {news f} (U : Slot a o news f) (N : News h₀ L h news) (k : KpBut a h h') (F : Fr h₀ L h m) : Fr h₀ L h' m :=
  have hn := N _ U.mem
  ⟨F.ns.at' fun o' e => k _ _ (Ne.symm hn.2.1) e, fun b o' e => k.from F.keep hn.2.2 b o' e, F.above⟩
theorem off_nil {a : Addr} : ∀ p ∈ ([] : List (Addr × Obj)), p.1 ≠ a := fun _ h => nomatch h
theorem off_cons {a : Addr} {p : Addr × Obj} {r : List (Addr × Obj)} (h : p.1 ≠ a) (h' : ∀ q ∈ r, q.1 ≠ a) : ∀ q ∈ p :: r, q.1 ≠ a := fun q hq => by
  rcases List.mem_cons.mp hq with rfl | hq
  · exact h
  · exact h' q hq
theorem off_append {a : Addr} {r r' : List (Addr × Obj)} (h : ∀ q ∈ r, q.1 ≠ a) (h' : ∀ q ∈ r', q.1 ≠ a) : ∀ q ∈ r ++ r', q.1 ≠ a := fun q hq => by
  rcases List.mem_append.mp hq with hq | hq
  · exact h q hq
  · exact h' q hq
/-- a call that stores at one place of the ledger -/
theorem callS {w : World} {A : Around} {s : Shared} {f a : Addr} {o : Obj} {args : List Value} {h₀ : Heap} {L : Addr} {m : Str → Option Value} {news : List (Addr × Obj)} {fn : Obj → List (Addr × Obj)} {P : Value → Heap → Prop} {Q : Value → Shared → Prop} {E : Value → Shared → Prop}
    (F : Fr h₀ L s.heap m) (N : News h₀ L s.heap news) (U : Slot a o news fn)
    (C : ∀ R, RetsS R s a (fun v h' => Src h' a ∧ P v h') → codeAny (MM w) A (.call (.ref f) ⟨args, []⟩) R s)
    (h : ∀ v h' t' x y tx ty k, KpBut a s.heap h' → P v h' → 0 ≤ y → y < 2147483648 → Fr h₀ L h' m → News h₀ L h' (fn (listOf #[.int x tx, .int y ty] k)) → Q v ⟨h', s.gens, s.drawn, t', s.os⟩) :
    wpAny (MM w) A (PySem.call (.ref f) args) Q E s :=
  wpAny_call (C _ fun v h' t' kp p => by
    obtain ⟨⟨x, y, tx, ty, k, e, y0, y1⟩, p⟩ := p
    exact h v h' t' x y tx ty k kp p y0 y1 (U.fr N kp F) (U.news N kp e))
theorem Slot.src {h₀ h : Heap} {L a : Addr} {x y : Int} {tx ty : Tok} {k : Nat} {news f} (U : Slot a (listOf #[.int x tx, .int y ty] k) news f) (N : News h₀ L h news) (y0 : 0 ≤ y) (y1 : y < 2147483648) : Src h a := ⟨x, y, tx, ty, k, (N _ U.mem).1, y0, y1⟩
theorem Slot.amb {w : World} {h₀ h : Heap} {L a : Addr} {o : Obj} {m : Str → Option Value} {news f} (U : Slot a o news f) (N : News h₀ L h news) (F : Fr h₀ L h m) (a0 : Amb w h₀) : Amb w (hole h a) := a0.keeps (kp_hole F.keep (N _ U.mem).2.2)
theorem call_take {w : World} {A : Around} {s : Shared} {a : Addr} {n x y : Int} {tn tx ty : Tok} {k : Nat} {h₀ : Heap} {L : Addr} {m : Str → Option Value} {news : List (Addr × Obj)} {fn : Obj → List (Addr × Obj)} {Q : Value → Shared → Prop} {E : Value → Shared → Prop}
    (F : Fr h₀ L s.heap m) (N : News h₀ L s.heap news) (U : Slot a (listOf #[.int x tx, .int y ty] k) news fn) (a0 : Amb w h₀) (ok : Ok A 1) (y0 : 0 ≤ y) (y1 : y < 2147483648) (h0 : 0 < n) (h1 : n ≤ 1000)
    (h : ∀ r t h' t' x y tx ty k, 0 ≤ r → r < n → 0 ≤ y → y < 2147483648 → Fr h₀ L h' m → News h₀ L h' (fn (listOf #[.int x tx, .int y ty] k)) → Q (.int r t) ⟨h', s.gens, s.drawn, t', s.os⟩) :
    wpAny (MM w) A (PySem.call (.ref 97) [.ref a, .int n tn]) Q E s := by
  refine callS F N U (P := fun v _ => ∃ r t, v = .int r t ∧ 0 ≤ r ∧ r < n) (fun R hr => take_ok (U.amb N F a0) ok (U.src N y0 y1) h0 h1 hr) ?_
  rintro v h' t' x y tx ty k kp ⟨r, t, rfl, r0, r1⟩ y0 y1 F' N'
  exact h r t h' t' x y tx ty k r0 r1 y0 y1 F' N'
--MACROS
local macro_rules | `(tactic| walk_at "SA") => `(tactic| (walk_at "FN"; (case U => walk_at "SLOT"); (case a0 => walk_at "AMB0"); (case ok => walk_at "OK"); (case y0 => assumption); (case y1 => assumption)))
local macro_rules | `(tactic| walk_at "H01") => `(tactic| ((case h0 => first | decide | omega | (simp only [List.length_cons, List.length_nil]; omega)); (case h1 => first | decide | omega | (simp only [List.length_cons, List.length_nil]; omega))))
local macro_rules | `(tactic| walk_at "NEQ") => `(tactic| first | assumption | exact Ne.symm ‹_› | exact Nat.ne_of_gt (by (try dsimp only); omega) | exact Nat.ne_of_lt (by (try dsimp only); omega) | exact Nat.ne_of_gt (by (try dsimp only); refine (‹∀ p ∈ _, p.1 < _›) (_, _) (by simp only [List.mem_cons, List.mem_append, true_or, or_true])))
local macro_rules | `(tactic| walk_at "OFF") => `(tactic| first | with_reducible assumption | exact off_nil | (refine off_cons ?x ?y; (case x => walk_at "NEQ"); (case y => walk_at "OFF")) | (refine off_append ?x ?y; (case x => walk_at "OFF"); (case y => walk_at "OFF")))
local macro_rules | `(tactic| walk_at "SLOT") => `(tactic| first | (refine Slot.head ?_; walk_at "OFF") | (refine' Slot.tail ?x ?y; (case x => walk_at "NEQ"); (case y => walk_at "SLOT")))
local macro_rules | `(tactic| walk_at "AMB0") => `(tactic| assumption)
local macro_rules | `(tactic| walk_at "call ref") => `(tactic| k_dflt ((refine' call_take ?F ?N ?U ?a0 ?ok ?y0 ?y1 ?h0 ?h1 ?_; walk_at "SA"; walk_at "H01"); intro r9 t9 h9 tk9 x9 y9 tx9 ty9 k9 r90 r91 y90 y91 F9 N9; (try dsimp only at N9); (try k_sweep)))
local macro_rules | `(tactic| walk_at "subscriptTail Name Call ref int") => `(tactic| k_dflt (refine' itemL ?l ?a ?b ?c ?_ ?e; (case l => is_list); (case c => assumption); (case a => omega); (case b => omega); (case e => with_unfolding_all rfl); k_whole))
--END
theorem one_ok {w : World} {A : Around} {R : Result → Shared → Prop} {s : Shared} {a l : Addr} {vs : List Value}
   (a0 : Amb w (hole s.heap a)) (ok : Ok A 2) (src : Src s.heap a) (hl : s.heap.IsList l vs.toArray) (hla : l ≠ a) (h0 : 0 < vs.length) (h1 : vs.length ≤ 1000)
   (hret : RetsS R s a fun v h' => Src h' a ∧ v ∈ vs) :
   codeAny (MM w) A (.call (.ref 104) ⟨[.ref a, .ref l], []⟩) R s := by
  have a1 := a0.keeps hole_kp
  have X := a1.X
  obtain ⟨mg, mb, T⟩ := a1.T
  obtain ⟨x, y, tx, ty, k, hs, hy0, hy1⟩ := id src
  have hl1 : (hole s.heap a).IsList l vs.toArray := let ⟨o, ho, r⟩ := hl; ⟨o, by rw [hole_ne hla]; exact ho, r⟩
  w_on
  refine' enter (binds := [("source", .ref a), ("things", .ref l)]) X T ok ?k6 ?k7 ?k9 ?kB ?_ ?c5 ?c6 ?c7 ?c8
  walk_at "ENTER"
  intro L h' t₁ Q okd F N hQ hQn
  obtain ⟨F, N⟩ := fr_hole F hs
  clear X T a1 mg mb
  have X := a0.X
  obtain ⟨mg, mb, T⟩ := a0.T
  walk_at "GO"
  rename_i r t h2 tk2 x2 y2 tx2 ty2 k2 r0 r1 y20 y21 F2 N2
  have hr : r.toNat < vs.length := by omega
  have hx : vs[r.toNat]? = some vs[r.toNat] := List.getElem?_eq_getElem hr
  have hm : vs[r.toNat] ∈ vs := List.getElem_mem hr
  generalize vs[r.toNat] = v at hx hm
  walk_at "GO"
  dsimp only
  refine hQ _ _ (hret _ _ _ (KpBut.of F2.keep) ⟨⟨_, _, _, _, _, (N2 _ (.head _)).1, y20, y21⟩, hm⟩)

theorem call_one {w : World} {A : Around} {s : Shared} {a l : Addr} {vs : List Value} {x y : Int} {tx ty : Tok} {k : Nat} {h₀ : Heap} {L : Addr} {m : Str → Option Value} {news : List (Addr × Obj)} {fn : Obj → List (Addr × Obj)} {Q : Value → Shared → Prop} {E : Value → Shared → Prop}
    (F : Fr h₀ L s.heap m) (N : News h₀ L s.heap news) (U : Slot a (listOf #[.int x tx, .int y ty] k) news fn) (a0 : Amb w h₀) (ok : Ok A 2) (y0 : 0 ≤ y) (y1 : y < 2147483648)
    (hl : s.heap.IsList l vs.toArray) (hla : l ≠ a) (h0 : 0 < vs.length) (h1 : vs.length ≤ 1000)
    (h : ∀ v h' t' x y tx ty k, v ∈ vs → 0 ≤ y → y < 2147483648 → Fr h₀ L h' m → News h₀ L h' (fn (listOf #[.int x tx, .int y ty] k)) → Q v ⟨h', s.gens, s.drawn, t', s.os⟩) :
    wpAny (MM w) A (PySem.call (.ref 104) [.ref a, .ref l]) Q E s := by
  refine callS F N U (P := fun v _ => v ∈ vs) (fun R hr => one_ok (U.amb N F a0) ok (U.src N y0 y1) hl hla h0 h1 hr) ?_
  intro v h' t' x y tx ty k _ hv y0 y1 F' N'
  exact h v h' t' x y tx ty k hv y0 y1 F' N'
theorem ints_mem {vs : List Value} {ns : List Int} (h : IntsAre vs ns) {v : Value} (hv : v ∈ vs) : ∃ b t, v = .int b t ∧ b ∈ ns := by
  induction h with
  | nil => cases hv
  | cons n u _ ih =>
    rcases List.mem_cons.mp hv with rfl | hv
    · exact ⟨_, _, rfl, .head _⟩
    · obtain ⟨b, t, e, hm⟩ := ih hv
      exact ⟨b, t, e, .tail _ hm⟩
theorem call_one_ints {w : World} {A : Around} {s : Shared} {a l : Addr} {vs : List Value} {ns : List Int} {x y : Int} {tx ty : Tok} {k : Nat} {h₀ : Heap} {L : Addr} {m : Str → Option Value} {news : List (Addr × Obj)} {fn : Obj → List (Addr × Obj)} {Q : Value → Shared → Prop} {E : Value → Shared → Prop}
    (F : Fr h₀ L s.heap m) (N : News h₀ L s.heap news) (U : Slot a (listOf #[.int x tx, .int y ty] k) news fn) (a0 : Amb w h₀) (ok : Ok A 2) (y0 : 0 ≤ y) (y1 : y < 2147483648)
    (hl : s.heap.IsList l vs.toArray) (hi : IntsAre vs ns) (hla : l ≠ a) (h0 : 0 < vs.length) (h1 : vs.length ≤ 1000)
    (h : ∀ b t h' t' x y tx ty k, b ∈ ns → 0 ≤ y → y < 2147483648 → Fr h₀ L h' m → News h₀ L h' (fn (listOf #[.int x tx, .int y ty] k)) → Q (.int b t) ⟨h', s.gens, s.drawn, t', s.os⟩) :
    wpAny (MM w) A (PySem.call (.ref 104) [.ref a, .ref l]) Q E s := by
  refine call_one F N U a0 ok y0 y1 hl hla h0 h1 ?_
  intro v h' t' x y tx ty k hv y0 y1 F' N'
  obtain ⟨b, t, rfl, hb⟩ := ints_mem hi hv
  exact h b t h' t' x y tx ty k hb y0 y1 F' N'
--MACROS
local macro_rules | `(tactic| walk_at "INTS") => `(tactic| first | assumption | exact IntsAre.nil | (refine' IntsAre.cons _ _ ?x; (case x => walk_at "INTS")))
local macro_rules | `(tactic| walk_at "call ref") => `(tactic| k_dflt ((refine' call_one ?F ?N ?U ?a0 ?ok ?y0 ?y1 ?l ?hla ?h0 ?h1 ?_; walk_at "SA"; (case l => is_list); (case hla => walk_at "NEQ"); walk_at "H01"); intro v9 h9 tk9 x9 y9 tx9 ty9 k9 hv9 y90 y91 F9 N9; (try dsimp only at N9); (try k_sweep)))
local macro_rules | `(tactic| walk_at "call ref") => `(tactic| k_dflt ((refine' call_one_ints ?F ?N ?U ?a0 ?ok ?y0 ?y1 ?l ?hi ?hla ?h0 ?h1 ?_; walk_at "SA"; (case l => is_list); (case hi => walk_at "INTS"); (case hla => walk_at "NEQ"); walk_at "H01"); intro b9 t9 h9 tk9 x9 y9 tx9 ty9 k9 hb9 y90 y91 F9 N9; (try dsimp only at N9); (try simp only [List.mem_cons, List.not_mem_nil, or_false] at hb9); (try k_sweep)))
--END

theorem hole_fresh {h : Heap} {a k : Addr} (h0 : (hole h a).get? k = none) (hk : k ≠ a) : h.get? k = none := by rw [← hole_ne hk]; exact h0
theorem number_end {R : Result → Shared → Prop} {s : Shared} {a k : Addr} {h' : Heap} {L : Addr} {m : Str → Option Value} {news : List (Addr × Obj)} {x y x1 y1 : Int} {tx ty t1 t2 : Tok} {n : Nat} {tk : Nat}
   (hret : RetsS R s a fun v h' => Src h' a ∧ ∃ x y tx ty k, v = .ref k ∧ NumOk x y ∧ s.heap.get? k = none ∧ IsTup h' k [.int x tx, .int y ty].toArray)
   (F : Fr (hole s.heap a) L h' m) (N : News (hole s.heap a) L h' news) (hm1 : (a, listOf #[.int x1 t1, .int y1 t2] n) ∈ news) (y0 : 0 ≤ y1) (y2 : y1 < 2147483648)
   (hm2 : (k, ({ cls := .type "tuple", data := .seq #[.int x tx, .int y ty] } : Obj)) ∈ news) (hk : k ≠ a) (hn : NumOk x y) : R (.ok (.ret (.ref k))) ⟨h', s.gens, s.drawn, tk, s.os⟩ :=
  hret _ _ _ (KpBut.of F.keep) ⟨⟨_, _, _, _, _, (N _ hm1).1, y0, y2⟩, x, y, tx, ty, k, rfl, hn, hole_fresh (N _ hm2).2.2 hk, N.isTup hm2⟩

theorem numOk_of {r b : Int} (h0 : 0 ≤ r) (h1 : r < 13) (hb : b = 1 ∨ b = 1 ∨ b = 2 ∨ b = 3) : NumOk (r - 6) b := by unfold NumOk; omega
theorem number_ok {w : World} {A : Around} {R : Result → Shared → Prop} {s : Shared} {a : Addr}
   (a0 : Amb w (hole s.heap a)) (ok : Ok A 3) (src : Src s.heap a)
   (hret : RetsS R s a fun v h' => Src h' a ∧ ∃ x y tx ty k, v = .ref k ∧ NumOk x y ∧ s.heap.get? k = none ∧ IsTup h' k [.int x tx, .int y ty].toArray) :
   codeAny (MM w) A (.call (.ref 111) ⟨[.ref a], []⟩) R s := by
  have a1 := a0.keeps hole_kp
  have X := a1.X
  obtain ⟨mg, mb, T⟩ := a1.T
  obtain ⟨x, y, tx, ty, k, hs, hy0, hy1⟩ := id src
  w_on
  refine' enter (binds := [("source", .ref a)]) X T ok ?k6 ?k7 ?k9 ?kB ?_ ?c5 ?c6 ?c7 ?c8
  walk_at "ENTER"
  intro L h' t₁ Q okd F N hQ hQn
  obtain ⟨F, N⟩ := fr_hole F hs
  clear X T a1 mg mb
  have X := a0.X
  obtain ⟨mg, mb, T⟩ := a0.T
  walk_at "GO"
  · rename_i v9 h9 tk9 x9 y9 tx9 ty9 k9 hv9 y90 y91 F9 N9
    simp only [List.mem_cons, List.not_mem_nil, or_false] at hv9
    rcases hv9 with rfl | rfl | rfl | rfl
    all_goals (refine hQ _ _ (number_end (s := s) (a := a) hret F9 N9 (by news_mem) y90 y91 (by news_mem) (by walk_at "NEQ") (by first | exact numOk_of ‹_› ‹_› (by decide) | (unfold NumOk; decide) | (unfold NumOk; omega))))
  all_goals
    rename News _ _ _ _ => N9
    rename Fr _ _ _ _ => F9
    refine hQ _ _ (number_end (s := s) (a := a) hret F9 N9 (by news_mem) (by assumption) (by assumption) (by news_mem) (by walk_at "NEQ") (by first | exact numOk_of ‹_› ‹_› ‹_› | (unfold NumOk; omega)))

--MACROS
local macro_rules | `(tactic| walk_at "MMC") => `(tactic| ((case hh => exact Ok.h ‹_›); walk_at "FN"))
local macro_rules | `(tactic| walk_at "MMS") => `(tactic| (with_reducible show wpAny _ _ (PySem.call (Value.builtin _) [Value.int _ _, Value.int _ _]) _ _ _))
local macro_rules | `(tactic| walk_at "call builtin:max") => `(tactic| (k_here; walk_at "MMS"; k_dflt (refine' max_two_N ?hh ?F ?N ?_; walk_at "MMC"); intro h9 tk9 F9 N9; (try k_sweep)))
local macro_rules | `(tactic| walk_at "call builtin:min") => `(tactic| (k_here; walk_at "MMS"; k_dflt (refine' min_two_N ?hh ?F ?N ?_; walk_at "MMC"); intro h9 tk9 F9 N9; (try k_sweep)))
--END
theorem pool_ok {w : World} {A : Around} {R : Result → Shared → Prop} {s : Shared} {l : Addr} {vs : List Value} {ns : List Int} {k : Int} {tk : Tok}
   (a0 : Amb w s.heap) (ok : Ok A 1) (hl : s.heap.IsList l vs.toArray) (hi : IntsAre vs ns) (hn : vs.length ≤ 100) (k0 : 0 ≤ k) (k1 : k ≤ 100)
   (hret : Rets R s fun v h' => ∃ a, v = .ref a ∧ s.heap.get? a = none ∧ Src h' a) :
   codeAny (MM w) A (.call (.ref 90) ⟨[.ref l, .int k tk], []⟩) R s := by
  have X := a0.X
  obtain ⟨mg, mb, T⟩ := a0.T
  w_on
  refine' enter (binds := [("script", .ref l), ("k", .int k tk)]) X T ok ?k6 ?k7 ?k9 ?kB ?_ ?c5 ?c6 ?c7 ?c8
  walk_at "ENTER"
  intro L h' t₁ Q okd F N hQ hQn
  have hlen := hi.length
  walk_at "GO"
  all_goals
    rename News _ _ _ _ => N9
    rename Fr _ _ _ _ => F9
    exact hQ _ _ (hret _ _ _ F9.keep ⟨_, rfl, News.fresh N9 (.head _), _, _, _, _, _, (N9 _ (.head _)).1, Int.fmod_nonneg_of_pos _ (by decide), Int.lt_trans (Int.fmod_lt_of_pos _ (by decide)) (by decide)⟩)

/-- an object of the class Order in a ledger -/
def OrdIn (news : List (Addr × Obj)) (a : Addr) (o : Ord) : Prop :=
  ∃ dx n h1 h2 h3 t1 t2 t3, (a, instObj 32 dx) ∈ news ∧ (dx, dictOf [⟨h1, .str "is_number" t1, .bool o.num⟩, ⟨h2, .str "is_descending" t2, .bool o.down⟩, ⟨h3, .str "upper_first" t3, ufV o.up⟩] n) ∈ news
theorem OrdIn.at {h₀ h : Heap} {L a : Addr} {news : List (Addr × Obj)} {o : Ord} (x : OrdIn news a o) (N : News h₀ L h news) : OrdAt h a o := by
  obtain ⟨dx, n, h1, h2, h3, t1, t2, t3, m1, m2⟩ := x
  exact ⟨dx, n, h1, h2, h3, t1, t2, t3, (N _ m1).1, (N _ m2).1⟩
theorem OrdIn.mono {news news' : List (Addr × Obj)} {a : Addr} {o : Ord} (x : OrdIn news a o) (s : ∀ p ∈ news, p ∈ news') : OrdIn news' a o := by
  obtain ⟨dx, n, h1, h2, h3, t1, t2, t3, m1, m2⟩ := x
  exact ⟨dx, n, h1, h2, h3, t1, t2, t3, s _ m1, s _ m2⟩
theorem Ok.make {A : Around} {n : Nat} (a : Ok A (n + 1)) (C : Addr) (vals : List Value) : Ok (A.under (.builtin "type.__call__" ⟨.ref C :: vals, []⟩)) n :=
  ⟨a.h, by have := a.d; rw [depth_under_make]; omega, by
    have := a.u
    show A.units + _ + 64 + 8 * n < cLine
    have e : (Code.builtin "type.__call__" ⟨.ref C :: vals, []⟩).cUnits = 1 := rfl
    omega⟩
theorem fr_hole2 {s h : Heap} {L a b : Addr} {m : Str → Option Value} {o p : Obj} (F : Fr s L h m) (ha : s.get? a = some o) (hb : s.get? b = some p) (hab : b ≠ a) : Fr (hole (hole s a) b) L h m ∧ News (hole (hole s a) b) L h [(b, p), (a, o)] := by
  obtain ⟨F1, N1⟩ := fr_hole F ha
  obtain ⟨F2, N2⟩ := fr_hole F1 (show (hole s a).get? b = some p by rw [hole_ne hab]; exact hb)
  refine ⟨F2, fun q hq => ?_⟩
  rcases List.mem_cons.mp hq with rfl | hq
  · exact N2 _ (.head _)
  · cases List.mem_singleton.mp hq
    have := N1 _ (.head _)
    exact ⟨this.1, this.2.1, by rw [hole_ne hab.symm]; exact hole_at⟩
theorem init_ok {w : World} {A : Around} {R : Result → Shared → Prop} {s : Shared} {x dx : Addr} {o : Ord}
   (a0 : Amb w (hole (hole s.heap dx) x)) (ok : Ok A 1) (hx : s.heap.get? x = some (instObj 32 dx)) (hd : s.heap.get? dx = some emptyDict) (hne : x ≠ dx)
   (hret : ∀ h' t' dd, KpBut dx s.heap h' → h'.get? dx = some dd → (∀ news, (x, instObj 32 dx) ∈ news → (dx, dd) ∈ news → OrdIn news x o) → R (.ok (.ret .none)) ⟨h', s.gens, s.drawn, t', s.os⟩) :
   codeAny (MM w) A (.call (.ref 29) ⟨[.ref x, .bool o.num, .bool o.down, ufV o.up], []⟩) R s := by
  have a1 := (a0.keeps hole_kp).keeps hole_kp
  have X := a1.X
  obtain ⟨mg, mb, T⟩ := a1.T
  w_on
  refine' enter (binds := [("self", .ref x), ("is_number", .bool o.num), ("is_descending", .bool o.down), ("upper_first", ufV o.up)]) X T ok ?k6 ?k7 ?k9 ?kB ?_ ?c5 ?c6 ?c7 ?c8
  (case k6 => k_is)
  (case k7 => k_is)
  (case c6 => exact rfl)
  (case c7 => exact rfl)
  (case c8 => exact rfl)
  (case k9 => exact binds_K X rfl (by k_is) rfl rfl rfl)
  (case kB => exact locs rfl)
  (case c5 => decide)
  intro L h' t₁ Q okd F N hQ hQn
  obtain ⟨F, N⟩ := fr_hole2 F hd hx hne
  clear X T a1 mg mb
  have X := a0.X
  obtain ⟨mg, mb, T⟩ := a0.T
  walk_at "GO"
  rename News _ _ _ _ => N9
  rename Fr _ _ _ _ => F9
  refine hQn _ (hret _ _ _ (fun b ob hb e => ?_) (N9 _ (.tail _ (.head _))).1 fun news m1 m2 => ⟨dx, _, _, _, _, _, _, _, m1, m2⟩)
  by_cases hbx : b = x
  · subst hbx
    rw [hx] at e; cases e
    exact (N9 _ (.head _)).1
  · exact F9.keep b ob (by rw [hole_ne hbx, hole_ne hb]; exact e)
/-- Order(..) made -/
theorem order_ok {w : World} {A : Around} {E : Value → Shared → Prop} {s : Shared} {o : Ord} {h₀ : Heap} {L : Addr} {m : Str → Option Value} {news : List (Addr × Obj)} {Q : Value → Shared → Prop}
   (F : Fr h₀ L s.heap m) (N : News h₀ L s.heap news) (a0 : Amb w h₀) (ok : Ok A 2)
   (h : ∀ x h' t' ks, OrdIn ks x o → (∀ p ∈ ks, ∀ q ∈ news, q.1 < p.1) → Fr h₀ L h' m → News h₀ L h' (ks ++ news) → Q (.ref x) ⟨h', s.gens, s.drawn, t', s.os⟩) :
   wpAny (MM w) A (PySem.call (.ref 32) [.bool o.num, .bool o.down, ufV o.up]) Q E s := by
  refine wpAny_call ?_
  refine make_K (fI := 29) F N (a0.keeps F.keep).X ?m ?i ?f ?_
  case m => k_is
  case i => k_is
  case f => k_is
  intro x dx h1 F1 N1 l1 l2
  have hne : x ≠ dx := Nat.ne_of_gt l2
  have kx : h₀.get? x = none := (N1 _ (.head _)).2.2
  have kd : h₀.get? dx = none := (N1 _ (.tail _ (.head _))).2.2
  refine init_ok (o := o) (dx := dx) (a0.keeps (kp_hole (kp_hole F1.keep kd) kx)) (ok.make _ _) (N1 _ (.head _)).1 (N1 _ (.tail _ (.head _))).1 hne ?_
  intro h' t' dd kp hdd hO
  refine ⟨rfl, ?_⟩
  have hL : L ≠ dx := (N1 _ (.tail _ (.head _))).2.1.symm
  refine h x h' t' [(x, instObj 32 dx), (dx, dd)] (hO _ (.head _) (.tail _ (.head _))) ?_ ?_ ?_
  · intro p hp q hq
    simp only [List.mem_cons, List.not_mem_nil, or_false] at hp
    rcases hp with rfl | rfl
    · exact Nat.lt_trans (l1 q hq) l2
    · exact l1 q hq
  · exact ⟨F1.ns.at' fun o e => kp _ _ hL e, fun b o e => kp.from F1.keep kd b o e, F1.above⟩
  · intro p hp
    simp only [List.cons_append, List.nil_append, List.mem_cons] at hp
    rcases hp with rfl | rfl | hp
    · exact ⟨kp _ _ hne (N1 _ (.head _)).1, (N1 _ (.head _)).2⟩
    · exact ⟨hdd, (N1 _ (.tail _ (.head _))).2⟩
    · have hp' := N1 p (.tail _ (.tail _ hp))
      exact ⟨kp _ _ (Nat.ne_of_lt (l1 p hp)) hp'.1, hp'.2⟩
--MACROS
local macro_rules | `(tactic| walk_at "call ref") => `(tactic| k_dflt ((refine' order_ok ?F ?N ?a0 ?ok ?_; walk_at "FN"; (case a0 => walk_at "AMB0"); (case ok => walk_at "OK")); intro x9 h9 tk9 ks9 or9 lt9 F9 N9; (try k_sweep)))
--END

section
variable {w : World} {A : Around} {E : Value → Shared → Prop} {s : Shared} {env : Env}
/-- a comprehension whose element stores at one place -/
theorem comp_go_hole_assign {h₀ : Heap} {L l a : Addr} {o : Obj} {m : Str → Option Value} {news : List (Addr × Obj)} {fn : Obj → List (Addr × Obj)} {vs : List Value} {elt target iter : PySem.Expr} {scope : Scope} {cl : List (Str × Addr)} {pos py : Pos} {y : Str} {Q : Value → Shared → Prop}
    (F : Fr h₀ L s.heap m) (N : News h₀ L s.heap news) (U : Slot a o news fn) (hL : env.locals = L) (hy : env.kindOf y = some .local) (hp : (env.scope.kind == .class || (env.scope.kind == .module && env.locals != env.globals)) = false)
    (hh : A.handled = none) (hcell : ∀ y ∈ scope.names, y.2 ≠ .cell) (hkind : scope.kind = .function)
    (hl : s.heap.IsList l vs.toArray) (hla : l ≠ a) (hsz : vs.length ≤ 1000000)
    (J : Nat → List Value → Obj → List (Addr × Obj) → Prop) (h0 : J 0 [] o [])
    (turn : ∀ i v ys o₁ rest C D I oI k h tk m, vs[i]? = some v → J i ys o₁ rest → h.IsListIter I l (i + 1) → Fr (hole s.heap a) C h m → News (hole s.heap a) C h ((D, listOf ys.toArray k) :: (I, oI) :: (a, o₁) :: rest) →
      (∀ p ∈ rest, p.1 ≠ a) → (∀ p ∈ rest, p.1 ≠ D ∧ p.1 ≠ I) → a ≠ D → a ≠ I → D ≠ I →
      wpAny (MM w) A (letOwnedTupleGo target (.ref I) v) (fun _ s₁ => wpAny (MM w) A (assign target (compEnvC scope cl C env) v) (fun _ s₂ =>
        wpAny (MM w) A (eval elt (compEnvC scope cl C env)) (CEnd (hole s.heap a) C D I oI ys k (fun ys' ms => ∃ o' rest', ms = (a, o') :: rest' ∧ (∀ p ∈ rest', p.1 ≠ a) ∧ J (i + 1) ys' o' rest') s) (fun _ _ => False) s₂) (fun _ _ => False) s₁) (fun _ _ => False) ⟨h, s.gens, s.drawn, tk, s.os⟩)
    (done : ∀ D ys o₁ rest h tk k, J vs.length ys o₁ rest → ys.length = vs.length → Fr h₀ L h (fun z => if z = y then some (.ref D) else m z) → News h₀ L h ((D, listOf ys.toArray k) :: (rest ++ fn o₁)) → (∀ p ∈ rest, p.1 ≠ D) →
      (∀ p ∈ (D, listOf ys.toArray k) :: rest, ∀ q ∈ news, p.1 ≠ q.1) → Q .none ⟨h, s.gens, s.drawn, tk, s.os⟩) :
    CompGo w A env elt target iter scope cl pos (some (assign (.Name y py) env)) Q E (.ref l) s := by
  subst hL
  unfold CompGo
  have hl1 : (hole s.heap a).IsList l vs.toArray := let ⟨o, ho, r⟩ := hl; ⟨o, by rw [hole_ne hla]; exact ho, r⟩
  refine comp_core (g := hole s.heap a) (ms := [(a, o)]) hh hcell hkind (Nat.le_of_eq hole_size) hole_kp (fun p hp => ?_) hl1 hsz (fun i ys ms => ∃ o' rest', ms = (a, o') :: rest' ∧ (∀ p ∈ rest', p.1 ≠ a) ∧ J i ys o' rest') ⟨o, [], rfl, off_nil, h0⟩ ?_ ?_
  · cases List.mem_singleton.mp hp
    exact ⟨(N _ U.mem).1, hole_at⟩
  · rintro i v ys ms₁ C D I oI k h tk m hv ⟨o', rest, rfl, offa, hJ⟩ hit FC NC hoff hDI _
    exact turn i v ys o' rest C D I oI k h tk m hv hJ hit FC NC offa (fun p hp => hoff p (.tail _ hp)) (hoff _ (.head _)).1 (hoff _ (.head _)).2 hDI
  rintro D C ys ms₁ h tk k m₁ ⟨o₁, rest, rfl, offa, hJ⟩ hys FC NC hoff hD hC hDC
  show wpAny _ A (assign (.Name y py) env (.ref D)) _ _ _
  have kp : KpBut a s.heap h := KpBut.of FC.keep
  have ha : h.get? a = some o₁ := (NC _ (.tail _ (.head _))).1
  have hDa : D ≠ a := (hoff _ (.head _)).symm
  have F₁ : Fr h₀ env.locals h m := U.fr N kp F
  have hLa : env.locals ≠ a := (N _ U.mem).2.1.symm
  obtain ⟨oL, _, _, hoL, _⟩ := id F.ns
  have fresh : ∀ p ∈ (D, listOf ys.toArray k) :: rest, h.get? p.1 = some p.2 ∧ p.1 ≠ C ∧ s.heap.get? p.1 = none := fun p hp => by
    have hpa : p.1 ≠ a := by
      rcases List.mem_cons.mp hp with rfl | hp
      · exact hDa
      · exact offa p hp
    have z := NC p (by
      rcases List.mem_cons.mp hp with rfl | hp
      · exact .head _
      · exact .tail _ (.tail _ hp))
    exact ⟨z.1, z.2.1, by rw [← hole_ne hpa]; exact z.2.2⟩
  have N₁ : News h₀ env.locals h ((D, listOf ys.toArray k) :: (rest ++ fn o₁)) := fun p hp => by
    rw [← List.cons_append] at hp
    rcases List.mem_append.mp hp with hp | hp
    · have z := fresh p hp
      refine ⟨z.1, fun e => ?_, ?_⟩
      · have := z.2.2; rw [e, hoL] at this; cases this
      · cases q : h₀.get? p.1 with
        | none => rfl
        | some o' => have := F.keep _ _ q; rw [z.2.2] at this; cases this
    · exact U.news N kp ha p hp
  have hLC : env.locals ≠ C := fun q => absurd F.ns.lt (by rw [q]; exact Nat.not_lt.mpr hC)
  refine wpAny_assign_Name (wpAny_storeName_local hy F₁.ns (fun h₂ hn₂ hs₂ => ?_) hp)
  refine ⟨_, FC.ns.sameBut hs₂ (Ne.symm hLC), fun h₃ hs₃ => ?_⟩
  have F₂ := F₁.set hn₂ hs₂
  have N₂ := N₁.set hs₂
  have hC₀ : h₀.get? C = none := by
    cases q : h₀.get? C with
    | none => rfl
    | some o => exact absurd (Heap.lt_size (F.keep _ _ q)) (Nat.not_lt.mpr hC)
  have hne : ∀ p ∈ (D, listOf ys.toArray k) :: (rest ++ fn o₁), p.1 ≠ C := fun p hp => by
    rw [← List.cons_append] at hp
    rcases List.mem_append.mp hp with hp | hp
    · exact (fresh p hp).2.1
    · have lt : p.1 < s.heap.objs.size := by
        rcases U.after p hp with rfl | ⟨hm, _⟩
        · exact Heap.lt_size (N _ U.mem).1
        · exact Heap.lt_size (N p hm).1
      exact fun q => absurd lt (by rw [q]; exact Nat.not_lt.mpr hC)
  refine done D ys o₁ rest h₃ _ k hJ hys (F₂.change hs₃ hLC.symm hC₀) (fun p hp => ⟨(hs₃.2 _ (hne p hp)).trans (N₂ p hp).1, (N₂ p hp).2⟩) (fun p hp => hoff p (.tail _ hp)) fun p hp q hq e => ?_
  have := (fresh p hp).2.2
  rw [e, (N q hq).1] at this; cases this
end

/-- a call that gives a fresh list -/
theorem callF {w : World} {A : Around} {s : Shared} {f : Addr} {args : List Value} {h₀ : Heap} {L : Addr} {m : Str → Option Value} {news : List (Addr × Obj)} {P : List Value → Prop} {Q : Value → Shared → Prop} {E : Value → Shared → Prop}
    (F : Fr h₀ L s.heap m) (N : News h₀ L s.heap news)
    (C : ∀ R, (Rets R s fun v h' => ∃ l vs, v = .ref l ∧ s.heap.get? l = none ∧ h'.IsList l (List.toArray vs) ∧ P vs) → codeAny (MM w) A (.call (.ref f) ⟨args, []⟩) R s)
    (h : ∀ l vs ob h' t', P vs → ListIn [(l, ob)] l vs → (∀ p ∈ news, p.1 ≠ l) → Fr h₀ L h' m → News h₀ L h' ((l, ob) :: news) → Q (.ref l) ⟨h', s.gens, s.drawn, t', s.os⟩) :
    wpAny (MM w) A (PySem.call (.ref f) args) Q E s := by
  refine wpAny_call (C _ fun v h' t' kp p => ?_)
  obtain ⟨l, vs, rfl, fr, ⟨ob, hob, hc, n, hd⟩, p⟩ := p
  obtain ⟨oL, _, _, hoL, _⟩ := id F.ns
  refine h l vs ob h' t' p ⟨ob, n, .head _, hc, hd⟩ (fun q hq e => ?_) (F.keeps kp) (news_add hoL F.keep (N.grown kp) fr hob)
  have := (N q hq).1; rw [e, fr] at this; cases this
/-- the law's source -/
theorem call_pool {w : World} {A : Around} {s : Shared} {l : Addr} {vs : List Value} {ns : List Int} {k : Int} {tk : Tok} {h₀ : Heap} {L : Addr} {m : Str → Option Value} {news : List (Addr × Obj)} {Q : Value → Shared → Prop} {E : Value → Shared → Prop}
    (F : Fr h₀ L s.heap m) (N : News h₀ L s.heap news) (a0 : Amb w h₀) (ok : Ok A 1) (hl : h₀.IsList l vs.toArray) (hi : IntsAre vs ns) (hn : vs.length ≤ 100) (k0 : 0 ≤ k) (k1 : k ≤ 100)
    (h : ∀ a h' t' x y tx ty k, 0 ≤ y → y < 2147483648 → (∀ p ∈ news, p.1 ≠ a) → Fr h₀ L h' m → News h₀ L h' ((a, listOf #[.int x tx, .int y ty] k) :: news) → Q (.ref a) ⟨h', s.gens, s.drawn, t', s.os⟩) :
    wpAny (MM w) A (PySem.call (.ref 90) [.ref l, .int k tk]) Q E s := by
  refine wpAny_call (pool_ok (a0.keeps F.keep) ok (isList_keeps hl F.keep) hi hn k0 k1 fun v h' t' kp p => ?_)
  obtain ⟨a, rfl, fr, x, y, tx, ty, kk, hob, y0, y1⟩ := p
  obtain ⟨oL, _, _, hoL, _⟩ := id F.ns
  refine h a h' t' x y tx ty kk y0 y1 (fun q hq e => ?_) (F.keeps kp) (news_add hoL F.keep (N.grown kp) fr hob)
  have := (N q hq).1; rw [e, fr] at this; cases this
/-- a fraction drawn -/
theorem call_number {w : World} {A : Around} {s : Shared} {a : Addr} {x y : Int} {tx ty : Tok} {k : Nat} {h₀ : Heap} {L : Addr} {m : Str → Option Value} {news : List (Addr × Obj)} {fn : Obj → List (Addr × Obj)} {Q : Value → Shared → Prop} {E : Value → Shared → Prop}
    (F : Fr h₀ L s.heap m) (N : News h₀ L s.heap news) (U : Slot a (listOf #[.int x tx, .int y ty] k) news fn) (a0 : Amb w h₀) (ok : Ok A 3) (y0 : 0 ≤ y) (y1 : y < 2147483648)
    (h : ∀ r ob u v h' t' x y tx ty k, NumOk u v → (∃ t1 t2, TupIn [(r, ob)] r [.int u t1, .int v t2]) → (∀ p ∈ news, p.1 ≠ r) → 0 ≤ y → y < 2147483648 → Fr h₀ L h' m → News h₀ L h' ((r, ob) :: fn (listOf #[.int x tx, .int y ty] k)) → Q (.ref r) ⟨h', s.gens, s.drawn, t', s.os⟩) :
    wpAny (MM w) A (PySem.call (.ref 111) [.ref a]) Q E s := by
  refine callS F N U (P := fun v h' => ∃ x y tx ty k, v = .ref k ∧ NumOk x y ∧ s.heap.get? k = none ∧ IsTup h' k [.int x tx, .int y ty].toArray) (fun R hr => number_ok (U.amb N F a0) ok (U.src N y0 y1) hr) ?_
  rintro v h' t' x y tx ty k kp ⟨u1, u2, t1, t2, r, rfl, hn, fr, ob, hob, hc, n, hd⟩ y0 y1 F' N'
  obtain ⟨oL, _, _, hoL, _⟩ := id F.ns
  refine h r ob u1 u2 h' t' x y tx ty k hn ⟨t1, t2, ob, n, .head _, hc, hd⟩ (fun q hq e => ?_) y0 y1 F' (news_add hoL F.keep N' fr hob)
  have := (N q hq).1; rw [e, fr] at this; cases this
/-- two equal lists of ints -/
theorem ne_same {prog : Program} {w : World} {A : Around} {E : Value → Shared → Prop} {s : Shared} {l b : Addr} {vs ws : List Value} {ns : List Int} {Q : Value → Shared → Prop} (hl : s.heap.IsList l vs.toArray) (hb : s.heap.IsList b ws.toArray) (hi : IntsAre vs ns) (hj : IntsAre ws ns) (hu : A.units + 64 < cLine) (h : Q (.bool false) s) :
    wpAny (model prog w) A (compareOp .NotEq (.ref l) (.ref b)) Q E s := by
  refine cmp_ofNotEq ?_
  have n1 := hi.length
  have n2 := hj.length
  refine SeqAt.RcNeAt.lists (e := fun _ => true) hl hb (by simp; omega) (by omega) (fun j h1 h2 => ?_) prog w E Q ?_
  · have j1 : j < ns.length := by simpa [n1] using h1
    have e := List.getElem?_eq_getElem j1
    obtain ⟨t, f1⟩ := ints_get hi h1 e
    obtain ⟨u, f2⟩ := ints_get hj h2 e
    rw [f1, f2]
    have := SeqAt.EqAt.int_int (A := A.in1) (s := s) ns[j] t ns[j] u
    rwa [beq_self_eq_true] at this
  · have e : (!(List.range vs.toArray.size).all fun _ => true) = false := by simp
    rw [e]; exact h

theorem keyP_turn (os : List Ord) : keyP (os.map turnO) = fun p => - keyP os p := by
  funext p
  exact keyR_turn os p.1
theorem items_idem (os : List Ord) (ps : List (List Val × Int)) : (sortK (keyP os) (sortK (keyP os) ps)).map (·.2) = (sortK (keyP os) ps).map (·.2) := by rw [sortK_idem]
theorem items_turn (os : List Ord) (ps : List (List Val × Int)) : (sortK (keyP (os.map turnO)) ps.reverse).map (·.2) = ((sortK (keyP os) ps).map (·.2)).reverse := by
  rw [keyP_turn, sortK_turn, List.map_reverse]
/-- the law's values in a ledger -/
def LordIn (news : List (Addr × Obj)) (v : Value) (o : Ord) : Prop := ∃ a, v = .ref a ∧ TupIn news a [.bool o.num, .bool o.down, ufV o.up]
def ValIn (news : List (Addr × Obj)) (v : Value) : Val → Prop
  | .num x y => ∃ a tx ty, v = .ref a ∧ TupIn news a [.int x tx, .int y ty]
  | .txt s => ∃ t, v = .str s t
def RowIn (news : List (Addr × Obj)) (r : Addr) (ds : List Val) : Prop := ∃ vs, ListIn news r vs ∧ All2 (ValIn news) vs ds
def PairIn (news : List (Addr × Obj)) (v : Value) (p : List Val × Int) : Prop := ∃ a r t, v = .ref a ∧ TupIn news a [.ref r, .int p.2 t] ∧ RowIn news r p.1
theorem LordIn.mono {news news' : List (Addr × Obj)} {v o} (x : LordIn news v o) (s : ∀ p ∈ news, p ∈ news') : LordIn news' v o := let ⟨a, e, i⟩ := x; ⟨a, e, i.mono s⟩
theorem ValIn.mono {news news' : List (Addr × Obj)} {v d} (x : ValIn news v d) (s : ∀ p ∈ news, p ∈ news') : ValIn news' v d := by
  cases d with
  | num a b => obtain ⟨a, tx, ty, e, i⟩ := x; exact ⟨a, tx, ty, e, i.mono s⟩
  | txt _ => exact x
theorem RowIn.mono {news news' : List (Addr × Obj)} {r ds} (x : RowIn news r ds) (s : ∀ p ∈ news, p ∈ news') : RowIn news' r ds := let ⟨vs, i, a⟩ := x; ⟨vs, i.mono s, a.imp fun _ _ q => q.mono s⟩
theorem PairIn.mono {news news' : List (Addr × Obj)} {v p} (x : PairIn news v p) (s : ∀ p ∈ news, p ∈ news') : PairIn news' v p := let ⟨a, r, t, e, i, w⟩ := x; ⟨a, r, t, e, i.mono s, w.mono s⟩
section
variable {h₀ h : Heap} {L : Addr} {news : List (Addr × Obj)}
theorem LordIn.at {v : Value} {o : Ord} (x : LordIn news v o) (N : News h₀ L h news) : LordAt h v o := let ⟨a, e, i⟩ := x; ⟨a, e, i.isTup N⟩
theorem ValIn.at {v : Value} {d : Val} (x : ValIn news v d) (N : News h₀ L h news) : ValAt h v d := by
  cases d with
  | num a b => obtain ⟨a, tx, ty, e, i⟩ := x; exact ⟨a, tx, ty, e, i.isTup N⟩
  | txt _ => exact x
theorem RowIn.at {r : Addr} {ds : List Val} (x : RowIn news r ds) (N : News h₀ L h news) : RowAt h r ds := let ⟨vs, i, a⟩ := x; ⟨vs, i.isList N, a.imp fun _ _ q => q.at N⟩
theorem PairIn.at {v : Value} {p : List Val × Int} (x : PairIn news v p) (N : News h₀ L h news) : PairAt h v p := let ⟨a, r, t, e, i, w⟩ := x; ⟨a, r, t, e, i.isTup N, w.at N⟩
end
theorem All2.mem {α β : Type} {P : α → β → Prop} {as : List α} {bs : List β} (h : All2 P as bs) {b : β} (hb : b ∈ bs) : ∃ a ∈ as, P a b := by
  induction h with
  | nil => cases hb
  | cons p _ ih =>
    rcases List.mem_cons.mp hb with rfl | hb
    · exact ⟨_, .head _, p⟩
    · obtain ⟨a, ha, q⟩ := ih hb
      exact ⟨a, .tail _ ha, q⟩

theorem range_nat {h : Heap} {r : Addr} {K : Int} {t u v : Tok} (B : Nat) (hr : IsRange h r 0 K 1 t u v) (h0 : 0 ≤ K) (h1 : K ≤ B) (hB : B ≤ 1000) :
    ∃ n : Nat, K = n ∧ IsRange h r 0 (n : Int) 1 t u v ∧ n ≤ B ∧ Builtin.Range.small 0 (n : Int) 1 = true ∧ Builtin.Range.rangeSize 0 (n : Int) 1 = (n : Int) := by
  have e : K = (K.toNat : Int) := by omega
  refine ⟨K.toNat, e, e ▸ hr, by omega, small_one (by omega) (by omega) (by omega) (by omega), ?_⟩
  rw [rangeSize_one]; split <;> omega
theorem newList_L {M : Model} {A : Around} {E : Value → Shared → Prop} {s : Shared} {h₀ : Heap} {L : Addr} {m : Str → Option Value} {news : List (Addr × Obj)} {vs : List Value} {Q : Value → Shared → Prop} (F : Fr h₀ L s.heap m) (N : News h₀ L s.heap news) (hz : vs.length ≤ 1000)
    (h : ∀ l h', Fr h₀ L h' m → News h₀ L h' ((l, listOf vs.toArray 0) :: news) → (∀ p ∈ news, p.1 < l) → Q (.ref l) { s with heap := h' }) : wpAny M A (newList vs) Q E s :=
  newList_K (hsz := Nat.le_trans hz (by rw [sizeLine_eq]; decide)) F N h
theorem order_ok3 {w : World} {A : Around} {E : Value → Shared → Prop} {s : Shared} {b1 b2 : Bool} {u : Option Bool} {h₀ : Heap} {L : Addr} {m : Str → Option Value} {news : List (Addr × Obj)} {Q : Value → Shared → Prop}
   (F : Fr h₀ L s.heap m) (N : News h₀ L s.heap news) (a0 : Amb w h₀) (ok : Ok A 2)
   (h : ∀ x h' t' ks, OrdIn ks x ⟨b1, b2, u⟩ → (∀ p ∈ ks, ∀ q ∈ news, q.1 < p.1) → Fr h₀ L h' m → News h₀ L h' (ks ++ news) → Q (.ref x) ⟨h', s.gens, s.drawn, t', s.os⟩) :
   wpAny (MM w) A (PySem.call (.ref 32) [.bool b1, .bool b2, ufV u]) Q E s := order_ok (o := ⟨b1, b2, u⟩) F N a0 ok h
def TOrdIn (news : List (Addr × Obj)) (v : Value) (o : Ord) : Prop := ∃ a, v = .ref a ∧ OrdIn news a o
theorem TOrdIn.mono {news news' : List (Addr × Obj)} {v o} (x : TOrdIn news v o) (s : ∀ p ∈ news, p ∈ news') : TOrdIn news' v o := let ⟨a, e, i⟩ := x; ⟨a, e, i.mono s⟩
--MACROS
local macro_rules | `(tactic| walk_at "NEQ") => `(tactic| first | assumption | exact Ne.symm ‹_› | exact Nat.ne_of_gt (by (try dsimp only); omega) | exact Nat.ne_of_lt (by (try dsimp only); omega) | exact Nat.ne_of_gt ((‹∀ p : Addr × Obj, p ∈ _ → p.1 < _›) (_, _) (by news_mem)) | exact Nat.ne_of_lt ((‹∀ p : Addr × Obj, p ∈ _ → p.1 < _›) (_, _) (by news_mem)))
local macro_rules | `(tactic| walk_at "OFF") => `(tactic| first | with_reducible assumption | exact off_nil | (refine off_cons ?x ?y; (case x => walk_at "NEQ"); (case y => walk_at "OFF")) | (refine off_append ?x ?y; (case x => walk_at "OFF"); (case y => walk_at "OFF")) | exact fun p hp => Nat.ne_of_lt ((‹∀ p : Addr × Obj, p ∈ _ → p.1 < _›) p (by simp only [List.mem_cons, List.mem_append, hp, true_or, or_true])))
local macro_rules | `(tactic| walk_at "call type:range") => `(tactic| ((rename Fr _ _ _ _ => F'); (rename News _ _ _ _ => N'); (with_unfolding_all refine range1_rows F' N' ?_); intro _ _ _ _ _ _ _ _ _))
local macro_rules | `(tactic| walk_at "SLOTF") => `(tactic| first | (refine UpdF.head ?_; walk_at "OFF") | (refine' UpdF.tail ?x ?y; (case x => walk_at "NEQ"); (case y => walk_at "SLOTF")))
local macro_rules | `(tactic| walk_at "storeName") => `(tactic| (k_here; (fail_if_success (with_reducible show wpAny _ _ (storeName (compEnvC _ _ _ _) _ _) _ _ _)); k_dflt (refine' storeX_C ?F ?N ?c ?U ?d ?_ ?a ?b; (case a => exact rfl); (case b => exact rfl); walk_at "KFN"; (case c => exact rfl); (case U => walk_at "SLOTF"); (case d => k_asm); k_whole); intro h' o' F' N' d'; (try dsimp only at N'); (try k_sweep)))
local macro_rules | `(tactic| walk_at "SLOTU") => `(tactic| first | (refine Upd.head ?_; walk_at "OFF") | (refine' Upd.tail ?x ?y; (case x => walk_at "NEQ"); (case y => walk_at "SLOTU")))
local macro_rules | `(tactic| walk_at "newList") => `(tactic| (k_here; k_dflt (refine' newList_L ?F ?N ?z ?_; walk_at "FN"; (case z => simp only [List.length_cons, List.length_nil]; omega)); intro l8 h8 F8 N8 l9; (try k_sweep)))
local macro_rules | `(tactic| walk_at "call builtin:list.append") => `(tactic| (k_here; k_dflt (refine' append_K ?F ?N ?U ?_ ?z; walk_at "FN"; (case U => walk_at "SLOTU"); (case z => (rw [sizeLine_eq]; simp only [List.size_toArray]; omega))); intro h8 F8 N8; (try dsimp only at N8); (try k_sweep)))
local macro_rules | `(tactic| walk_at "assign Tuple") => `(tactic| (k_here; (with_reducible show wpAny _ _ (assign (PySem.Expr.Tuple _ _ _) _ (Value.ref _)) _ _ _); k_dflt (refine' unpackN_ ?F ?N ?T ?k1 ?k2 ?k3 ?_; walk_at "KFN"; (case T => kun_tup); walk_at "UNPC"); intro h' F' N'; (try k_sweep)))
local macro_rules | `(tactic| walk_at "call ref") => `(tactic| k_dflt ((refine' call_number ?F ?N ?U ?a0 ?ok ?y0 ?y1 ?_; walk_at "SA"); intro r9 ob9 u9 w9 h9 tk9 x9 y9 tx9 ty9 k9 hn9 ht9 hx9 y90 y91 F9 N9; (try dsimp only at N9); (try k_sweep)))
local macro_rules | `(tactic| walk_at "call ref") => `(tactic| k_dflt ((refine' order_ok3 ?F ?N ?a0 ?ok ?_; walk_at "FN"; (case a0 => walk_at "AMB0"); (case ok => walk_at "OK")); intro x9 h9 tk9 ks9 or9 lt9 F9 N9; (try k_sweep)))
local macro_rules | `(tactic| walk_at "LISTIN") => `(tactic| first | (refine' ListIn.isList (ListIn.mono ?x ?y) ?z; (case x => with_reducible assumption); (case z => with_reducible assumption); (case y => walk_at "SUB")) | is_list)
local macro_rules | `(tactic| walk_at "KRV") => `(tactic| (k_here; (with_reducible show wpAny _ _ (subscriptTail _ (PySem.Expr.Slice none none (some _) _) (Value.ref _) (Value.ref _)) _ _ _); k_dflt (refine' krv_lit ?F ?N ?l ?k ?e ?_ ?s ?t ?z; walk_at "KFN"; (case l => walk_at "LISTIN"); (case k => exact IsPart.int _ _); (case e => exact rfl); (case s => with_unfolding_all rfl); (case t => kmk_pure); (case z => exact Nat.le_trans (m := 1000) (by (try simp only [List.size_toArray]); omega) (by rw [sizeLine_eq]; decide))); intro D8 h8 F8 N8 l8; (try k_sweep)))
local macro_rules | `(tactic| walk_at "subscriptTail Name Slice ref ref") => `(tactic| walk_at "KRV")
local macro_rules | `(tactic| walk_at "subscriptTail ListComp Slice ref ref") => `(tactic| walk_at "KRV")
local macro_rules | `(tactic| walk_at "STEPR") => `(tactic| ((fail_if_success (with_reducible show wpAny _ _ (PySem.call (Value.ref 130) _) _ _ _)); (fail_if_success (with_reducible show wpAny _ _ (PySem.call (Value.ref 83) _) _ _ _)); walk_at "GUARD"; walk1))
local macro_rules | `(tactic| walk_at "GOR") => `(tactic| repeat' (first | walk_at "STEPR" | (dsimp only; walk_at "STEPR") | fail "no step"))
local macro_rules | `(tactic| walk_at "eval Name") => `(tactic| (k_here; (fail_if_success (walk_at "INCOMP")); k_dflt (refine' nameX_C ?N ?c ?m ?d ?_ ?a ?b; (case a => exact rfl); (case b => exact rfl); (case N => with_reducible assumption); (case c => exact rfl); (case m => k_mem); (case d => with_reducible assumption); k_whole)))
--END
theorem menu_uf {v : Value} (h : v ∈ [Value.none, Value.bool true, Value.bool false]) : ∃ u, v = ufV u := by
  simp only [List.mem_cons, List.not_mem_nil, or_false] at h
  rcases h with rfl | rfl | rfl
  · exact ⟨none, rfl⟩
  · exact ⟨some true, rfl⟩
  · exact ⟨some false, rfl⟩
theorem allLt_mem {D : Addr} : ∀ {ts : List (Addr × Obj)}, AllLt D ts → ∀ p ∈ ts, p.1 < D
  | [], _, _, h => nomatch h
  | _ :: _, h, p, hp => by
    rcases List.mem_cons.mp hp with rfl | hp
    · exact h.1
    · exact allLt_mem h.2 p hp
theorem texts_ok {t0 t1 t2 t3 t4 t5 t6 t7 : Tok} {v : Value} (h : v ∈ [Value.str "" t0, Value.str "a" t1, Value.str "A" t2, Value.str "ab" t3, Value.str "aB" t4, Value.str "AB" t5, Value.str "b" t6, Value.str "Ba" t7]) : ∃ s t, v = .str s t ∧ s ∈ texts := by
  simp only [List.mem_cons, List.not_mem_nil, or_false] at h
  rcases h with rfl | rfl | rfl | rfl | rfl | rfl | rfl | rfl <;> exact ⟨_, _, rfl, by decide +kernel⟩
theorem isList_hole {h : Heap} {a l : Addr} {vs : Array Value} (x : h.IsList l vs) (hla : l ≠ a) : (hole h a).IsList l vs := let ⟨o, ho, r⟩ := x; ⟨o, by rw [hole_ne hla]; exact ho, r⟩
theorem isTup_hole {h : Heap} {a l : Addr} {vs : Array Value} (x : IsTup h l vs) (hla : l ≠ a) : IsTup (hole h a) l vs := let ⟨o, ho, r⟩ := x; ⟨o, by rw [hole_ne hla]; exact ho, r⟩
set_option maxHeartbeats 40000000 in
theorem law_ok {w : World} {A : Around} {R : Result → Shared → Prop} {s : Shared} {l : Addr} {vs : List Value} {ns : List Int}
   (a0 : Amb w s.heap) (ok : Ok A 10) (hl : s.heap.IsList l vs.toArray) (hi : IntsAre vs ns) (hn : vs.length ≤ 63)
   (hret : Rets R s fun v _ => v = .bool true) :
   codeAny (MM w) A (.call (.ref 135) ⟨[.ref l], []⟩) R s := by
  have X := a0.X
  obtain ⟨mg, mb, T⟩ := a0.T
  w_on
  refine' enterC (binds := [("script", .ref l)]) X T ok ?k6 ?k7 ?k9 ?kB ?c5 ?_ ?c6 ?c7 ?c8
  walk_at "ENTERC"
  intro L h' t₁ cells Q okd F N Y hQ hQn
  have hY := CellsAre.two Y
  obtain ⟨o1, o2, rfl, d1, d2⟩ := hY
  clear Y
  have hlen := hi.length
  walk_at "GO"
  all_goals (try k_data)
  (rename IsRange _ _ _ _ _ _ _ _ => hr)
  obtain ⟨n, hK, hr, hn2, hsm, hsz⟩ := range_nat 2 hr (by split <;> (try split) <;> omega) (by split <;> (try split) <;> omega) (by decide)
  clear hK
  refine' range_loop (n := n) (L := L) rfl (fun i m news => m "script" = some (.ref l) ∧ ∃ oT oS cT cS, news = [(L + 1 + 1, oT), (L + 1, oS)] ∧ oT.data = .cell cT ∧ oS.data = .cell cS)
    okd.h hr hsm hsz ?rF ?rN ?r0 ?rt ?rd
  case rF => assumption
  case rN => assumption
  case r0 => exact ⟨by rfl, o1, o2, _, _, rfl, d1, d2⟩
  case rt =>
    rintro i I oI kk t m₁ news₁ h tk hi2 hk hoff ⟨j1, oT, oS, cT, cS, rfl, dT, dS⟩ F1 N1
    clear d1 d2 hr hsm hsz
    walk_at "GO"
    all_goals (try k_data)
    refine call_pool F1 N1 a0 (by walk_at "OK") hl hi (by omega) (by omega) (by omega) ?_
    intro a h2 t2 x y tx ty k2 y0 y1 hna F2 N2
    have nIT : I ≠ L + 1 + 1 := (hoff (L + 1 + 1, oT) (.head _)).symm
    have nIS : I ≠ L + 1 := (hoff (L + 1, oS) (.tail _ (.head _))).symm
    have naI : I ≠ a := hna (I, oI) (.head _)
    have naT : L + 1 + 1 ≠ a := hna (_, oT) (.tail _ (.head _))
    have naS : L + 1 ≠ a := hna (_, oS) (.tail _ (.tail _ (.head _)))
    have nTS : L + 1 + 1 ≠ L + 1 := Nat.succ_ne_self _
    clear hna hoff F1 N1
    walk_at "GO"
    all_goals (try k_data)
    as_aux_lemma =>
      rename_i h3 oS2 dS2 tk1 oL h22 lL h11 r9 t9 h9 tk9 x9 y9 tx9 ty9 k9 r90 r91 y90 y91 F9 N9 hh tkk tt uu vv hr2 F3 N3 kp3
      obtain ⟨n2, hK2, hr2, hn3, hsm2, hsz2⟩ := range_nat 2 hr2 (by omega) (by omega) (by decide)
      clear hK2 r90 r91
      have nLa : oL ≠ a := Nat.ne_of_gt (lL (a, _) (.head _))
      have nLI : oL ≠ I := Nat.ne_of_gt (lL (I, oI) (.tail _ (.head _)))
      have nLT : oL ≠ L + 1 + 1 := Nat.ne_of_gt (lL (L + 1 + 1, oT) (.tail _ (.tail _ (.head _))))
      have nLS : oL ≠ L + 1 := Nat.ne_of_gt (lL (L + 1, _) (.tail _ (.tail _ (.tail _ (.head _)))))
      refine' range_loop (n := n2) (L := L) rfl (fun i m news => m "script" = some (.ref l) ∧ m "orders" = some (.ref oL) ∧ ∃ (ov : List Value) (os : List Ord) (kL : Nat) (x y : Int) (tx ty : Tok) (kk : Nat) (ts : List (Addr × Obj)),
          news = (oL, listOf ov.toArray kL) :: (a, listOf #[.int x tx, .int y ty] kk) :: (I, oI) :: (L + 1 + 1, oT) :: (L + 1, oS2) :: ts ∧ 0 ≤ y ∧ y < 2147483648 ∧ All2 (LordIn ts) ov os ∧ os.length = i ∧
          (∀ p ∈ ts, p.1 ≠ oL) ∧ (∀ p ∈ ts, p.1 ≠ a) ∧ (∀ p ∈ ts, p.1 ≠ I) ∧ (∀ p ∈ ts, p.1 ≠ L + 1 + 1) ∧ (∀ p ∈ ts, p.1 ≠ L + 1))
        okd.h hr2 hsm2 hsz2 ?oF ?oN ?o0 ?ot ?od
      case oF => assumption
      case oN => assumption
      case o0 => exact ⟨j1, rfl, [], [], 0, _, _, _, _, _, [], rfl, y90, y91, .nil, rfl, off_nil, off_nil, off_nil, off_nil, off_nil⟩
      case ot =>
        rintro i2 I2 oI2 kk2 t2 m₂ news₂ h4 tk4 hi3 hk2 hoff2 ⟨q1, q2, ov, os, kL, x2, y2, tx2, ty2, k3, ts, rfl, y20, y21, hO, hOl, f1, f2, f3, f4, f5⟩ F4 N4
        have n2L : I2 ≠ oL := (hoff2 (oL, _) (.head _)).symm
        have n2a : I2 ≠ a := (hoff2 (a, _) (.tail _ (.head _))).symm
        have hoL : ov.length ≤ 2 := by have := hO.length; omega
        walk_at "GO"
        all_goals (try k_data)
        rename_i rA tA hA tkA xA yA txA tyA kA rA0 rA1 yA0 yA1 rB tB hB tkB xB yB txB tyB kB rB0 rB1 yB0 yB1 l8 h81 l9 v9 h9 tk9 x9 y9 tx9 ty9 k9 hv9 y90 y91 D hD lD h8 F8 N8
        obtain ⟨up, rfl⟩ := menu_uf hv9
        obtain ⟨u1, u2, u3, u4, u5, u6, u7, u8⟩ := lD
        have u8' : ∀ p ∈ ts, p.1 ≠ D := fun p hp => Nat.ne_of_lt (allLt_mem u8 p hp)
        refine' TPost.next F8 N8 ((oL, listOf (ov.toArray.push (.ref D)) (kL + 1)) :: (a, listOf #[Value.int x9 tx9, Value.int y9 ty9] k9) :: (I, oI) :: (L + 1 + 1, oT) :: (L + 1, oS2) :: (D, { cls := .type "tuple", data := .seq #[Value.bool (rA == 0), Value.bool (rB == 0), ufV up] }) :: ts) ?s ?o ?r
        case s =>
          intro p hp
          simp only [List.mem_cons] at hp ⊢
          rcases hp with h | h | h | h | h | h | h | h <;> simp only [h, true_or, or_true]
        case o =>
          have hI := hoff2 (I, oI) (.tail _ (.tail _ (.head _)))
          have hT := hoff2 (L + 1 + 1, oT) (.tail _ (.tail _ (.tail _ (.head _))))
          have hS := hoff2 (L + 1, oS2) (.tail _ (.tail _ (.tail _ (.tail _ (.head _)))))
          exact off_cons n2L.symm (off_cons n2a.symm (off_cons hI (off_cons hT (off_cons hS (off_cons (Nat.ne_of_gt u2) fun p hp => hoff2 p (.tail _ (.tail _ (.tail _ (.tail _ (.tail _ hp))))))))))
        case r =>
          refine ⟨q1, q2, ov ++ [.ref D], os ++ [⟨rA == 0, rB == 0, up⟩], kL + 1, x9, y9, tx9, ty9, k9, (D, { cls := .type "tuple", data := .seq #[Value.bool (rA == 0), Value.bool (rB == 0), ufV up] }) :: ts, by simp, y90, y91,
            (hO.imp fun _ _ q => q.mono fun p hp => .tail _ hp).append (.one ⟨D, rfl, _, 0, .head _, rfl, rfl⟩), by simp; omega, off_cons (Nat.ne_of_gt u3) f1, off_cons (Nat.ne_of_gt u4) f2, off_cons (Nat.ne_of_gt u5) f3, off_cons (Nat.ne_of_gt u6) f4, off_cons (Nat.ne_of_gt u7) f5⟩
      case od =>
        rintro m₂ news₂ h4 tk4 ⟨q1, q2, ov, os, kL, x2, y2, tx2, ty2, k3, ts, rfl, y20, y21, hO, hOl, f1, f2, f3, f4, f5⟩ F4 N4
        as_aux_lemma =>
          have hOs : os.length ≤ 2 := by omega
          have hovl := hO.length
          clear hOl hn3 hsz2
          obtain ⟨rest, hrest⟩ : ∃ rest : List (Addr × Obj), rest = (oL, listOf ov.toArray kL) :: ts := ⟨_, rfl⟩
          have N5 : News s.heap L h4 ((a, listOf #[Value.int x2 tx2, Value.int y2 ty2] k3) :: (L + 1 + 1, oT) :: (I, oI) :: (L + 1, oS2) :: rest) := fun p hp => N4 p (by
            rw [hrest] at hp
            simp only [List.mem_cons] at hp ⊢
            rcases hp with h | h | h | h | h | h <;> simp only [h, true_or, or_true])
          have hOL : ListIn rest oL ov := by rw [hrest]; exact ⟨_, kL, .head _, rfl, rfl⟩
          have hO2 : All2 (LordIn rest) ov os := by rw [hrest]; exact hO.imp fun _ _ q => q.mono fun p hp => .tail _ hp
          have e1 : ∀ p ∈ rest, p.1 ≠ a := by rw [hrest]; exact off_cons nLa f2
          have e2 : ∀ p ∈ rest, p.1 ≠ I := by rw [hrest]; exact off_cons nLI f3
          have e3 : ∀ p ∈ rest, p.1 ≠ L + 1 + 1 := by rw [hrest]; exact off_cons nLT f4
          have e4 : ∀ p ∈ rest, p.1 ≠ L + 1 := by rw [hrest]; exact off_cons nLS f5
          clear f1 f2 f3 f4 f5 hrest hO N4 nLI nLT nLS
          walk_at "GO"
          all_goals (try k_data)
          as_aux_lemma =>
            rename_i pL h81 l91 tL h82 l92 tU h83 l1U h84 h85 h86 oT2 dT2 r9 t9 h9 tk9 x9 y9 tx9 ty9 k9 r90 r91 y90 y91 F9 N9 h87 tk7 tt1 uu1 vv1 hr3 F3 N3 kp3
            obtain ⟨n3, hK3, hr3, hn4, hsm3, hsz3⟩ := range_nat 8 hr3 (by omega) (by omega) (by decide)
            clear hK3 r90 r91
            have npa : pL ≠ a := Nat.ne_of_gt (l91 (a, _) (.head _))
            have npT : pL ≠ L + 1 + 1 := Nat.ne_of_gt (l91 (L + 1 + 1, _) (.tail _ (.head _)))
            have npI : pL ≠ I := Nat.ne_of_gt (l91 (I, _) (.tail _ (.tail _ (.head _))))
            have npS : pL ≠ L + 1 := Nat.ne_of_gt (l91 (L + 1, _) (.tail _ (.tail _ (.tail _ (.head _)))))
            have npr : ∀ p ∈ rest, p.1 ≠ pL := fun p hp => Nat.ne_of_lt (l91 p (.tail _ (.tail _ (.tail _ (.tail _ hp)))))
            have ntp : tL ≠ pL := Nat.ne_of_gt (l92 (pL, _) (.head _))
            have nta : tL ≠ a := Nat.ne_of_gt (l92 (a, _) (.tail _ (.head _)))
            have ntT : tL ≠ L + 1 + 1 := Nat.ne_of_gt (l92 (L + 1 + 1, _) (.tail _ (.tail _ (.head _))))
            have ntI : tL ≠ I := Nat.ne_of_gt (l92 (I, _) (.tail _ (.tail _ (.tail _ (.head _)))))
            have ntS : tL ≠ L + 1 := Nat.ne_of_gt (l92 (L + 1, _) (.tail _ (.tail _ (.tail _ (.tail _ (.head _))))))
            clear l91 l92 l1U kp3
            generalize htv : [Value.str "" tk4, Value.str "a" (tk4 + 1), Value.str "A" (tk4 + 1 + 1), Value.str "ab" (tk4 + 1 + 1 + 1), Value.str "aB" (tk4 + 1 + 1 + 1 + 1), Value.str "AB" (tk4 + 1 + 1 + 1 + 1 + 1), Value.str "b" (tk4 + 1 + 1 + 1 + 1 + 1 + 1), Value.str "Ba" (tk4 + 1 + 1 + 1 + 1 + 1 + 1 + 1)] = tv at N3 N9
            have htl : tv.length = 8 := by rw [← htv]; rfl
            have htx : ∀ v ∈ tv, ∃ s t, v = Value.str s t ∧ s ∈ texts := fun v hv => texts_ok (by rw [htv]; exact hv)
            clear htv
            obtain ⟨rest2, hrest2⟩ : ∃ r : List (Addr × Obj), r = (tL, listOf tv.toArray 0) :: rest := ⟨_, rfl⟩
            have N5 : News s.heap L h87 ((pL, listOf #[] 0) :: (a, listOf #[.int x9 tx9, .int y9 ty9] k9) :: (L + 1 + 1, oT2) :: (I, oI) :: (L + 1, oS2) :: rest2) := fun p hp => N3 p (by
              rw [hrest2] at hp
              simp only [List.mem_cons] at hp ⊢
              rcases hp with h | h | h | h | h | h | h <;> simp only [h, true_or, or_true])
            have hTX : ListIn rest2 tL tv := by rw [hrest2]; exact ⟨_, 0, .head _, rfl, rfl⟩
            have hOL2 : ListIn rest2 oL ov := by rw [hrest2]; exact hOL.mono fun p hp => .tail _ hp
            have hO3 : All2 (LordIn rest2) ov os := by rw [hrest2]; exact hO2.imp fun _ _ q => q.mono fun p hp => .tail _ hp
            have d1 : ∀ p ∈ rest2, p.1 ≠ pL := by rw [hrest2]; exact off_cons ntp npr
            have d2 : ∀ p ∈ rest2, p.1 ≠ a := by rw [hrest2]; exact off_cons nta e1
            have d3 : ∀ p ∈ rest2, p.1 ≠ L + 1 + 1 := by rw [hrest2]; exact off_cons ntT e3
            have d4 : ∀ p ∈ rest2, p.1 ≠ I := by rw [hrest2]; exact off_cons ntI e2
            have d5 : ∀ p ∈ rest2, p.1 ≠ L + 1 := by rw [hrest2]; exact off_cons ntS e4
            clear hrest2 hOL hO2 e1 e2 e3 e4 N3 N9 npr
            refine' range_loop (n := n3) (L := L) rfl (fun i m news => m "script" = some (.ref l) ∧ m "orders" = some (.ref oL) ∧ m "pairs" = some (.ref pL) ∧ ∃ (pv : List Value) (ps : List (List Val × Int)) (kp : Nat) (x y : Int) (tx ty : Tok) (kk : Nat) (ts : List (Addr × Obj)),
                news = (pL, listOf pv.toArray kp) :: (a, listOf #[.int x tx, .int y ty] kk) :: (L + 1 + 1, oT2) :: (I, oI) :: (L + 1, oS2) :: ts ∧ 0 ≤ y ∧ y < 2147483648 ∧ (∀ p ∈ rest2, p ∈ ts) ∧ All2 (PairIn ts) pv ps ∧ ps.length = i ∧ (∀ p ∈ ps, RowOk os p.1) ∧
                (∀ p ∈ ts, p.1 ≠ pL) ∧ (∀ p ∈ ts, p.1 ≠ a) ∧ (∀ p ∈ ts, p.1 ≠ L + 1 + 1) ∧ (∀ p ∈ ts, p.1 ≠ I) ∧ (∀ p ∈ ts, p.1 ≠ L + 1))
              okd.h hr3 hsm3 hsz3 ?oF ?oN ?o0 ?ot ?od
            case oF => assumption
            case oN => exact N5
            case o0 => exact ⟨q1, q2, rfl, [], [], 0, _, _, _, _, _, rest2, rfl, y90, y91, fun p hp => hp, .nil, rfl, fun p hp => (nomatch hp), d1, d2, d3, d4, d5⟩
            case ot =>
              clear d1 d2 d3 d4 d5 N5 hr3 hsm3 hsz3 F3 F9 q1 q2
              rintro i2 I2 oI2 kk2 t2 m₃ news₃ h5 tk5 hi4 hk2 hoff2 ⟨q1, q2, q3, pv, ps, kp, x2, y2, tx2, ty2, k3, ts, rfl, y20, y21, hsub, hP, hPl, hPo, f1, f2, f3, f4, f5⟩ F4 N4
              have n2p : I2 ≠ pL := (hoff2 (pL, _) (.head _)).symm
              have n2a : I2 ≠ a := (hoff2 (a, _) (.tail _ (.head _))).symm
              walk_at "GO"
              all_goals (try k_data)
              refine comp_assign (by with_unfolding_all rfl) (by with_unfolding_all rfl) (by rfl) (by decide) (by intro x; rfl) ?_
              walk_at "GO"
              all_goals (try k_data)
              as_aux_lemma =>
                have sub6 : ∀ p ∈ rest2, p ∈ (I2, oI2) :: (pL, listOf pv.toArray kp) :: (a, listOf #[.int x2 tx2, .int y2 ty2] k3) :: (L + 1 + 1, oT2) :: (I, oI) :: (L + 1, oS2) :: ts := fun p hp => .tail _ (.tail _ (.tail _ (.tail _ (.tail _ (.tail _ (hsub p hp))))))
                have hlO : h5.IsList oL ov.toArray := (hOL2.mono sub6).isList N4
                have ag : Amb w (hole h5 a) := a0.keeps (kp_hole F4.keep (N4 (a, _) (.tail _ (.tail _ (.head _)))).2.2)
                have Xg := ag.X
                obtain ⟨mg', mb', Tg⟩ := ag.T
                have gS : (hole h5 a).get? (L + 1) = some oS2 := by rw [hole_ne naS]; exact (N4 (L + 1, oS2) (.tail _ (.tail _ (.tail _ (.tail _ (.tail _ (.head _))))))).1
                have gT : (hole h5 a).get? (L + 1 + 1) = some oT2 := by rw [hole_ne naT]; exact (N4 (L + 1 + 1, oT2) (.tail _ (.tail _ (.tail _ (.head _))))).1
                have htg : (hole h5 a).IsList tL tv.toArray := isList_hole ((hTX.mono sub6).isList N4) nta
                refine' comp_go_hole_assign (L := L) (a := a) F4 N4 ?zU rfl rfl rfl okd.h (by decide) rfl hlO nLa (by omega)
                  (fun i ys o rs => ∃ (x y : Int) (tx ty : Tok) (kk : Nat) (ds : List Val), o = listOf #[.int x tx, .int y ty] kk ∧ 0 ≤ y ∧ y < 2147483648 ∧ All2 (ValIn rs) ys ds ∧ RowOk (os.take i) ds) ?z0 ?zt ?zd
                case zU => walk_at "SLOT"
                case z0 => exact ⟨x2, y2, tx2, ty2, k3, [], rfl, y20, y21, .nil, .nil⟩
                case zt =>
                  rintro i v ys o₁ rs C D Ic oIc k h tk m hv ⟨x5, y5, tx5, ty5, k5, ds, rfl, y50, y51, hV, hR⟩ hit FC NC offa offDI naD naIc nDI
                  dsimp only at FC NC
                  have hi5 : i < os.length := by
                    rcases Nat.lt_or_ge i ov.length with h | h
                    · omega
                    · rw [List.getElem?_eq_none h] at hv; cases hv
                  have eo : os[i]? = some os[i] := List.getElem?_eq_getElem hi5
                  generalize os[i] = oi at eo
                  obtain ⟨v', hv', t5, e5, tin⟩ := hO3.get i _ eo
                  rw [hv] at hv'; cases hv'
                  cases e5
                  have it : IsTup (hole h5 a) t5 [Value.bool oi.num, Value.bool oi.down, ufV oi.up].toArray := by
                    refine isTup_hole ((tin.mono sub6).isTup N4) ?_
                    obtain ⟨o, n, hm, _⟩ := tin
                    exact f2 (t5, o) (hsub _ hm)
                  clear F4 N4 X T sub6
                  refine wpAny_pure ?_
                  refine wpAny_assign_Name ?_
                  walk_at "GO"
                  all_goals (try k_data)
                  all_goals (try k_unfold)
                  · have hnum := ‹oi.num = true›
                    rename_i r9 ob9 u9 w9 h9 tk9 x9 y9 tx9 ty9 k9 hn9 ht9 hx9 y90 y91 F9 N9
                    have h9D : r9 ≠ D := (hx9 (D, _) (.head _)).symm
                    have h9I : r9 ≠ Ic := (hx9 (Ic, _) (.tail _ (.head _))).symm
                    have h9a : r9 ≠ a := (hx9 (a, _) (.tail _ (.tail _ (.head _)))).symm
                    refine' CEnd.intro F9 N9 ((a, listOf #[Value.int x9 tx9, Value.int y9 ty9] k9) :: (r9, ob9) :: rs) ?cs1 ?co1 ?cr1
                    case cs1 =>
                      intro p hp
                      simp only [List.mem_cons] at hp ⊢
                      rcases hp with h | h | h | h | h <;> simp only [h, true_or, or_true]
                    case co1 =>
                      intro p hp
                      rcases List.mem_cons.mp hp with rfl | hp
                      · exact ⟨naD, naIc⟩
                      rcases List.mem_cons.mp hp with rfl | hp
                      · exact ⟨h9D, h9I⟩
                      exact offDI p hp
                    case cr1 =>
                      obtain ⟨t1, t2, ht⟩ := ht9
                      have hv1 : ValIn ((r9, ob9) :: rs) (.ref r9) (.num u9 w9) := ⟨r9, t1, t2, rfl, ht.mono fun p hp => by cases List.mem_singleton.mp hp; exact .head _⟩
                      refine ⟨_, (r9, ob9) :: rs, rfl, off_cons h9a offa, x9, y9, tx9, ty9, k9, ds ++ [.num u9 w9], rfl, y90, y91, (hV.imp fun _ _ q => q.mono fun p hp => .tail _ hp).append (.one hv1), ?_⟩
                      rw [List.take_add_one, eo]
                      have hk1 : ValOk oi.num (.num u9 w9) := ⟨hnum, hn9⟩
                      exact hR.append (.one hk1)
                  · have hnum := ‹oi.num = false›
                    rename_i v9 h9 tk9 x9 y9 tx9 ty9 k9 hv9 y90 y91 F9 N9
                    obtain ⟨st, tst, rfl, hst⟩ := htx _ hv9
                    refine' CEnd.intro F9 N9 ((a, listOf #[Value.int x9 tx9, Value.int y9 ty9] k9) :: rs) ?ds1 ?do1 ?dr1
                    case ds1 => exact fun p hp => hp
                    case do1 =>
                      intro p hp
                      rcases List.mem_cons.mp hp with rfl | hp
                      · exact ⟨naD, naIc⟩
                      exact offDI p hp
                    case dr1 =>
                      have hv1 : ValIn rs (.str st tst) (.txt st) := ⟨tst, rfl⟩
                      have hk1 : ValOk oi.num (.txt st) := ⟨hnum, hst⟩
                      refine ⟨_, rs, rfl, offa, x9, y9, tx9, ty9, k9, ds ++ [.txt st], rfl, y90, y91, hV.append (.one hv1), ?_⟩
                      rw [List.take_add_one, eo]
                      exact hR.append (.one hk1)
                case zd =>
                  clear Xg Tg ag gS gT htg hlO
                  dsimp only
                  rintro D ys o₁ rs h tk k ⟨x5, y5, tx5, ty5, k5, ds, rfl, y50, y51, hV, hR⟩ hys FC NC offD fresh
                  as_aux_lemma =>
                    have hRo : RowOk os ds := by
                      rw [List.take_of_length_le (by omega)] at hR
                      exact hR
                    clear hR
                    obtain ⟨ts2, hts2⟩ : ∃ r : List (Addr × Obj), r = (D, listOf ys.toArray k) :: (rs ++ ts) := ⟨_, rfl⟩
                    have N5 : News s.heap L h ((I2, oI2) :: (pL, listOf pv.toArray kp) :: (a, listOf #[.int x5 tx5, .int y5 ty5] k5) :: (L + 1 + 1, oT2) :: (I, oI) :: (L + 1, oS2) :: ts2) := fun p hp => NC p (by
                      rw [hts2] at hp
                      simp only [List.mem_cons, List.mem_append] at hp ⊢
                      rcases hp with h | h | h | h | h | h | h | h | h <;> simp only [h, true_or, or_true])
                    have off : ∀ b o, (b, o) ∈ (I2, oI2) :: (pL, listOf pv.toArray kp) :: (a, listOf #[.int x2 tx2, .int y2 ty2] k3) :: (L + 1 + 1, oT2) :: (I, oI) :: (L + 1, oS2) :: ts → (∀ p ∈ ts, p.1 ≠ b) → ∀ p ∈ ts2, p.1 ≠ b := by
                      intro b o hb ht
                      rw [hts2]
                      exact off_cons (fresh _ (.head _) _ hb) (off_append (fun p hp => fresh _ (.tail _ hp) _ hb) ht)
                    have g1 := off pL _ (.tail _ (.head _)) f1
                    have g2 := off a _ (.tail _ (.tail _ (.head _))) f2
                    have g3 := off (L + 1 + 1) _ (.tail _ (.tail _ (.tail _ (.head _)))) f3
                    have g4 := off I _ (.tail _ (.tail _ (.tail _ (.tail _ (.head _))))) f4
                    have g5 := off (L + 1) _ (.tail _ (.tail _ (.tail _ (.tail _ (.tail _ (.head _)))))) f5
                    have g6 := off I2 _ (.head _) (fun p hp => hoff2 p (.tail _ (.tail _ (.tail _ (.tail _ (.tail _ hp))))))
                    have hrow : RowIn ts2 D ds := by
                      rw [hts2]
                      exact ⟨ys, ⟨_, k, .head _, rfl, rfl⟩, hV.imp fun _ _ q => q.mono fun p hp => .tail _ (List.mem_append_left _ hp)⟩
                    have hsub3 : ∀ p ∈ rest2, p ∈ ts2 := fun p hp => by rw [hts2]; exact .tail _ (List.mem_append_right _ (hsub p hp))
                    have hP2 : All2 (PairIn ts2) pv ps := hP.imp fun _ _ q => q.mono fun p hp => by rw [hts2]; exact .tail _ (List.mem_append_right _ hp)
                    have hpv : pv.length ≤ 8 := by have := hP.length; omega
                    clear off fresh NC hts2 hP hV offD F4 N4
                    walk_at "GO"
                    all_goals (try k_data)
                    rename_i D2 hD2 lD h8 F8 N8
                    obtain ⟨u2, u3, u4, u5, u6, u7, u8⟩ := lD
                    refine' TPost.next F8 N8 ((pL, listOf (pv.toArray.push (.ref D2)) (kp + 1)) :: (a, listOf #[.int x5 tx5, .int y5 ty5] k5) :: (L + 1 + 1, oT2) :: (I, oI) :: (L + 1, oS2) :: (D2, { cls := .type "tuple", data := .seq #[Value.ref D, Value.int kk2 t2] }) :: ts2) ?s ?o ?r
                    case s =>
                      intro p hp
                      simp only [List.mem_cons] at hp ⊢
                      rcases hp with h | h | h | h | h | h | h | h <;> simp only [h, true_or, or_true]
                    case o =>
                      have hT := hoff2 (L + 1 + 1, oT2) (.tail _ (.tail _ (.head _)))
                      have hI := hoff2 (I, oI) (.tail _ (.tail _ (.tail _ (.head _))))
                      have hS := hoff2 (L + 1, oS2) (.tail _ (.tail _ (.tail _ (.tail _ (.head _)))))
                      exact off_cons n2p.symm (off_cons n2a.symm (off_cons hT (off_cons hI (off_cons hS (off_cons (Nat.ne_of_gt u2) g6)))))
                    case r =>
                      have hp1 : PairIn ((D2, ({ cls := .type "tuple", data := .seq #[Value.ref D, Value.int kk2 t2] } : Obj)) :: ts2) (.ref D2) (ds, kk2) := ⟨D2, D, t2, rfl, ⟨_, 0, .head _, rfl, rfl⟩, hrow.mono fun p hp => .tail _ hp⟩
                      refine ⟨q1, q2, q3, pv ++ [.ref D2], ps ++ [(ds, kk2)], kp + 1, x5, y5, tx5, ty5, k5, _ :: ts2, by simp, y50, y51, fun p hp => .tail _ (hsub3 p hp), (hP2.imp fun _ _ q => q.mono fun p hp => .tail _ hp).append (.one hp1), by simp; omega, ?_,
                        off_cons (Nat.ne_of_gt u3) g1, off_cons (Nat.ne_of_gt u4) g2, off_cons (Nat.ne_of_gt u5) g3, off_cons (Nat.ne_of_gt u6) g4, off_cons (Nat.ne_of_gt u7) g5⟩
                      intro p hp
                      rcases List.mem_append.mp hp with hp | hp
                      · exact hPo p hp
                      · cases List.mem_singleton.mp hp
                        exact hRo


            case od =>
              rintro m₃ news₃ h5 tk5 ⟨q1', q2', q3', pv, ps, kp, x2', y2', tx2', ty2', k3', ts, rfl, y20', y21', hsub, hP, hPl, hPo, f1, f2, f3, f4, f5⟩ F5 N6
              clear d1 d2 d3 d4 d5 N5 hr3 hsm3 hsz3 F3 F9 q1 q2
              as_aux_lemma =>
                have hpsl : ps.length ≤ 8 := by omega
                clear hPl hn4
                have hpvl := hP.length
                have sub5 : ∀ p ∈ ts, p ∈ (pL, listOf pv.toArray kp) :: (a, listOf #[.int x2' tx2', .int y2' ty2'] k3') :: (L + 1 + 1, oT2) :: (I, oI) :: (L + 1, oS2) :: ts := fun p hp => .tail _ (.tail _ (.tail _ (.tail _ (.tail _ hp))))
                walk_at "GO"
                all_goals (try k_data)
                refine comp_assign (by with_unfolding_all rfl) (by with_unfolding_all rfl) (by rfl) (by decide) (by intro x; rfl) ?_
                walk_at "GO"
                all_goals (try k_data)
                have a5 : Amb w h5 := a0.keeps F5.keep
                have X5 := a5.X
                obtain ⟨mg5, mb5, T5⟩ := a5.T
                refine' comp_go_pure_assign (L := L) F5 N6 rfl rfl rfl okd.h (by decide) rfl ((hOL2.mono fun p hp => sub5 p (hsub p hp)).isList N6) (by omega) (fun i ys ms => All2 (TOrdIn ms) ys (os.take i)) .nil ?zt ?zd
                case zt =>
                  rintro i v ys ms₁ C D Ic oIc k h tk m hv hJ hit FC NC hoffc nDI hD
                  dsimp only at FC NC
                  have hi5 : i < os.length := by
                    rcases Nat.lt_or_ge i ov.length with h | h
                    · omega
                    · rw [List.getElem?_eq_none h] at hv; cases hv
                  have eo : os[i]? = some os[i] := List.getElem?_eq_getElem hi5
                  generalize os[i] = oi at eo
                  obtain ⟨v', hv', t5, e5, tin⟩ := hO3.get i _ eo
                  rw [hv] at hv'; cases hv'
                  cases e5
                  have it : IsTup h5 t5 [Value.bool oi.num, Value.bool oi.down, ufV oi.up].toArray := (tin.mono fun p hp => sub5 p (hsub p hp)).isTup N6
                  clear F5 N6 X T sub5
                  refine wpAny_pure ?_
                  refine wpAny_assign_Name ?_
                  walk_at "GO"
                  all_goals (try k_data)
                  all_goals (try k_unfold)
                  rename_i x9 h9 tk9 ks9 or9 lt9 F9 N9
                  have hk9 : ∀ p ∈ ks9, p.1 ≠ D ∧ p.1 ≠ Ic := fun p hp => ⟨Nat.ne_of_gt (lt9 p hp (D, _) (.head _)), Nat.ne_of_gt (lt9 p hp (Ic, _) (.tail _ (.head _)))⟩
                  refine CEnd.intro F9 N9 (ks9 ++ ms₁) ?_ ?_ ?_
                  · intro p hp
                    simp only [List.mem_cons, List.mem_append] at hp ⊢
                    rcases hp with h | h | h | h <;> simp only [h, true_or, or_true]
                  · intro p hp
                    rcases List.mem_append.mp hp with hp | hp
                    · exact hk9 p hp
                    · exact hoffc p hp
                  · rw [List.take_add_one, eo]
                    have hv1 : TOrdIn (ks9 ++ ms₁) (.ref x9) oi := ⟨x9, rfl, or9.mono fun p hp => List.mem_append_left _ hp⟩
                    exact (hJ.imp fun _ _ q => q.mono fun p hp => List.mem_append_right _ hp).append (.one hv1)
                case zd =>
                  clear X5 T5 mg5 mb5 a5
                  dsimp only
                  rintro D1 to ms₁ h tk k hJ hto F6 N7 hoffd hD1
                  rw [List.take_of_length_le (by omega)] at hJ
                  as_aux_lemma =>
                    obtain ⟨all, hall⟩ : ∃ r : List (Addr × Obj), r = (D1, listOf to.toArray k) :: (ms₁ ++ (pL, listOf pv.toArray kp) :: (a, listOf #[.int x2' tx2', .int y2' ty2'] k3') :: (L + 1 + 1, oT2) :: (I, oI) :: (L + 1, oS2) :: ts) := ⟨_, rfl⟩
                    rw [← hall] at N7
                    have mT : (L + 1 + 1, oT2) ∈ all := by rw [hall]; exact .tail _ (List.mem_append_right _ (.tail _ (.tail _ (.head _))))
                    have mI : (I, oI) ∈ all := by rw [hall]; exact .tail _ (List.mem_append_right _ (.tail _ (.tail _ (.tail _ (.head _)))))
                    have mS : (L + 1, oS2) ∈ all := by rw [hall]; exact .tail _ (List.mem_append_right _ (.tail _ (.tail _ (.tail _ (.tail _ (.head _))))))
                    have mts : ∀ p ∈ ts, p ∈ all := fun p hp => by rw [hall]; exact .tail _ (List.mem_append_right _ (sub5 p hp))
                    have aTo : ListIn all D1 to := by rw [hall]; exact ⟨_, k, .head _, rfl, rfl⟩
                    have aPa : ListIn all pL pv := by rw [hall]; exact ⟨_, kp, .tail _ (List.mem_append_right _ (.head _)), rfl, rfl⟩
                    have aOr : ListIn all oL ov := hOL2.mono fun p hp => mts p (hsub p hp)
                    have bTo : All2 (TOrdIn all) to os := hJ.imp fun _ _ q => q.mono fun p hp => by rw [hall]; exact .tail _ (List.mem_append_left _ hp)
                    have bPa : All2 (PairIn all) pv ps := hP.imp fun _ _ q => q.mono mts
                    have bOr : All2 (LordIn all) ov os := hO3.imp fun _ _ q => q.mono fun p hp => mts p (hsub p hp)
                    clear hall hJ hP hO3 hOL2 hTX hsub mts sub5 N6 f1 f2 f3 f4 f5 hoffd hD1 F5
                    walk_at "GOR"
                    all_goals (try k_data)
                    have hsl : (sortK (keyP os) ps).length = ps.length := length_sortK
                    refine callF F6 N7 (P := fun dv => ∀ P : Value → (List Val × Int) → Prop, All2 P pv ps → All2 P dv (sortK (keyP os) ps)) (fun R hr => law_sorted_ok (a0.keeps F6.keep) (by walk_at "OK") ⟨ov, aOr.isList N7, bOr.imp fun _ _ q => q.at N7⟩ (aPa.isList N7) (bPa.imp fun _ _ q => q.at N7) hPo (by omega) (by omega) hr) ?_
                    intro dl dv dob h8 t8 hdv ddl hned F7 N8
                    obtain ⟨al, hal⟩ : ∃ r : List (Addr × Obj), r = (dl, dob) :: all := ⟨_, rfl⟩
                    rw [← hal] at N8
                    have up : ∀ p ∈ all, p ∈ al := fun p hp => by rw [hal]; exact .tail _ hp
                    have mT := up _ mT
                    have mI := up _ mI
                    have mS := up _ mS
                    have aTo := aTo.mono up
                    have aPa := aPa.mono up
                    have bTo : All2 (TOrdIn al) to os := bTo.imp fun _ _ q => q.mono up
                    have bPa : All2 (PairIn al) pv ps := bPa.imp fun _ _ q => q.mono up
                    have aOr := aOr.mono up
                    have bOr : All2 (LordIn al) ov os := bOr.imp fun _ _ q => q.mono up
                    have aDu : ListIn al dl dv := ddl.mono fun p hp => by rw [hal]; cases List.mem_singleton.mp hp; exact .head _
                    have bDu : All2 (PairIn al) dv (sortK (keyP os) ps) := hdv _ bPa
                    have hdl := bDu.length
                    clear hal ddl hdv hned up N7 F6
                    walk_at "GOR"
                    all_goals (try k_data)
                    (rename Fr _ _ _ _ => Fa)
                    (rename News _ _ _ _ => Na)
                    refine callF Fa Na (P := fun xs => IntsAre xs ((sortK (keyP os) ps).map (·.2))) (fun R hr => sorted_ok (a0.keeps Fa.keep) (by walk_at "OK") ⟨to, (aTo.mono (by walk_at "SUB")).isList Na, bTo.imp fun _ _ ⟨a, e, i⟩ => ⟨a, e, (i.mono (by walk_at "SUB")).at Na⟩⟩ ⟨pv, (aPa.mono (by walk_at "SUB")).isList Na, bPa.imp fun _ _ q => (q.mono (by walk_at "SUB")).at Na⟩ hPo (by omega) (by omega) hr) ?_
                    intro xl xv xob h9 t9 hxv dxl hnex Fb Nb
                    walk_at "GOR"
                    all_goals (try k_data)
                    refine comp_eval (cl := []) (by with_unfolding_all rfl) (by rfl) (by decide) (by intro x; rfl) ?_
                    walk_at "GOR"
                    all_goals (try k_data)
                    (rename Fr _ _ _ _ => FcA)
                    (rename News _ _ _ _ => NcA)
                    refine' comp_go_pure (L := L) FcA NcA okd.h (by decide) rfl ((aDu.mono (by walk_at "SUB")).isList NcA) (by omega) (fun i ys ms => ms = [] ∧ IntsAre ys (((sortK (keyP os) ps).take i).map (·.2))) ⟨rfl, .nil⟩ ?ztA ?zdA
                    case ztA =>
                      rintro i v ys ms₁ C D Ic oIc k h tk m hv ⟨rfl, hJ⟩ hit FC NC hoff hDI hD
                      dsimp only at FC NC
                      have hi6 : i < (sortK (keyP os) ps).length := by
                        rcases Nat.lt_or_ge i dv.length with h | h
                        · omega
                        · rw [List.getElem?_eq_none h] at hv; cases hv
                      have ep : (sortK (keyP os) ps)[i]? = some ((sortK (keyP os) ps)[i]) := List.getElem?_eq_getElem hi6
                      generalize (sortK (keyP os) ps)[i] = p6 at ep
                      obtain ⟨pa6, pr6, pt6, e6, ip6, rp6⟩ := bDu.same hv ep
                      subst e6
                      have ip7 := (ip6.mono (show ∀ p ∈ al, p ∈ _ by walk_at "SUB")).isTup NcA
                      (try dsimp only at ip7)
                      clear FcA NcA
                      refine wpAny_letOwnedTupleGo_listiter hit ?_
                      walk_at "GOR"
                      all_goals (try k_data)
                      all_goals (try k_unfold)
                      refine' CEnd.intro ?cF1 ?cN1 [] ?cs1 ?co1 ?cr1
                      case cF1 => assumption
                      case cN1 => assumption
                      case cs1 => exact fun p hp => hp
                      case co1 => exact fun p hp => nomatch hp
                      case cr1 =>
                        refine ⟨rfl, ?_⟩
                        rw [List.take_add_one, ep, List.map_append]
                        exact hJ.append (.cons _ _ .nil)
                    case zdA =>
                      rintro DA ysA ms₁ hA tkA kA ⟨rfl, hJA⟩ hysA _ FdA NdA _ _
                      rw [List.take_of_length_le (by omega)] at hJA
                      dsimp only [List.nil_append] at NdA
                      have hx : Heap.IsList hA xl xv.toArray := (dxl.mono (show ∀ p ∈ _, p ∈ (DA, listOf ysA.toArray kA) :: (xl, xob) :: al from fun p hp => by cases List.mem_singleton.mp hp; exact .tail _ (.head _))).isList NdA
                      refine ne_same hx (NdA.isList (.head _)) hxv hJA (Ok.units okd) ?_
                      clear hx hxv dxl hnex
                      walk_at "GOR"
                      all_goals (try k_data)
                      have N9 : News s.heap L hA al := fun p hp => NdA p (.tail _ (.tail _ hp))
                      clear hJA hysA NdA FcA NcA Na Fa
                      as_aux_lemma =>
                        refine callF FdA N9 (P := fun xs => IntsAre xs ((sortK (keyP os) ps).map (·.2))) (fun R hr => sorted_ok (ps := sortK (keyP os) ps) (os := os) (a0.keeps (Fr.keep FdA)) (by walk_at "OK") ⟨to, (aTo.mono (by walk_at "SUB")).isList N9, bTo.imp fun _ _ ⟨a, e, i⟩ => ⟨a, e, (i.mono (by walk_at "SUB")).at N9⟩⟩ ⟨dv, (aDu.mono (by walk_at "SUB")).isList N9, bDu.imp fun _ _ q => (q.mono (by walk_at "SUB")).at N9⟩ (fun p hp => hPo p (mem_sortK.mp hp)) (by omega) (by omega) (by rw [items_idem]; exact hr)) ?_
                        intro xl xv xob h9 t9 hxv dxl hnex Fb Nb
                        walk_at "GOR"
                        all_goals (try k_data)
                        refine comp_eval (cl := []) (by with_unfolding_all rfl) (by rfl) (by decide) (by intro x; rfl) ?_
                        walk_at "GOR"
                        all_goals (try k_data)
                        (rename Fr _ _ _ _ => FcB)
                        (rename News _ _ _ _ => NcB)
                        refine' comp_go_pure (L := L) FcB NcB okd.h (by decide) rfl ((aDu.mono (by walk_at "SUB")).isList NcB) (by omega) (fun i ys ms => ms = [] ∧ IntsAre ys (((sortK (keyP os) ps).take i).map (·.2))) ⟨rfl, .nil⟩ ?ztB ?zdB
                        case ztB =>
                          rintro i v ys ms₁ C D Ic oIc k h tk m hv ⟨rfl, hJ⟩ hit FC NC hoff hDI hD
                          dsimp only at FC NC
                          have hi6 : i < (sortK (keyP os) ps).length := by
                            rcases Nat.lt_or_ge i dv.length with h | h
                            · omega
                            · rw [List.getElem?_eq_none h] at hv; cases hv
                          have ep : (sortK (keyP os) ps)[i]? = some ((sortK (keyP os) ps)[i]) := List.getElem?_eq_getElem hi6
                          generalize (sortK (keyP os) ps)[i] = p6 at ep
                          obtain ⟨pa6, pr6, pt6, e6, ip6, rp6⟩ := bDu.same hv ep
                          subst e6
                          have ip7 := (ip6.mono (show ∀ p ∈ al, p ∈ _ by walk_at "SUB")).isTup NcB
                          (try dsimp only at ip7)
                          clear FcB NcB
                          refine wpAny_letOwnedTupleGo_listiter hit ?_
                          walk_at "GOR"
                          all_goals (try k_data)
                          all_goals (try k_unfold)
                          refine' CEnd.intro ?cF1 ?cN1 [] ?cs1 ?co1 ?cr1
                          case cF1 => assumption
                          case cN1 => assumption
                          case cs1 => exact fun p hp => hp
                          case co1 => exact fun p hp => nomatch hp
                          case cr1 =>
                            refine ⟨rfl, ?_⟩
                            rw [List.take_add_one, ep, List.map_append]
                            exact hJ.append (.cons _ _ .nil)
                        case zdB =>
                          rintro DB ysB ms₁ hB tkB kB ⟨rfl, hJB⟩ hysB _ FdB NdB _ _
                          rw [List.take_of_length_le (by omega)] at hJB
                          dsimp only [List.nil_append] at NdB
                          have hx : Heap.IsList hB xl xv.toArray := (dxl.mono (show ∀ p ∈ _, p ∈ (DB, listOf ysB.toArray kB) :: (xl, xob) :: al from fun p hp => by cases List.mem_singleton.mp hp; exact .tail _ (.head _))).isList NdB
                          refine ne_same hx (NdB.isList (.head _)) hxv hJB (Ok.units okd) ?_
                          have N10 : News s.heap L hB al := fun p hp => NdB p (.tail _ (.tail _ hp))
                          clear hx hxv dxl hnex hJB hysB NdB FcB NcB FdA N9
                          walk_at "GOR"
                          all_goals (try k_data)
                          refine comp_assign (by with_unfolding_all rfl) (by with_unfolding_all rfl) (by rfl) (by decide) (by intro x; rfl) ?_
                          walk_at "GOR"
                          all_goals (try k_data)
                          as_aux_lemma =>
                            have a6 : Amb w hB := a0.keeps FdB.keep
                            have X6 := a6.X
                            obtain ⟨mg6, mb6, T6⟩ := a6.T
                            have hovl2 := bOr.length
                            refine' comp_go_pure_assign (L := L) FdB N10 rfl rfl rfl okd.h (by decide) rfl (aOr.isList N10) (by omega) (fun i ys ms => All2 (TOrdIn ms) ys ((os.map turnO).take i)) .nil ?zt ?zd
                            case zt =>
                              rintro i v ys ms₁ C D Ic oIc k h tk m hv hJ hit FC NC hoffc nDI hD
                              dsimp only at FC NC
                              have hi5 : i < os.length := by
                                rcases Nat.lt_or_ge i ov.length with h | h
                                · omega
                                · rw [List.getElem?_eq_none h] at hv; cases hv
                              have eo : os[i]? = some os[i] := List.getElem?_eq_getElem hi5
                              generalize os[i] = oi at eo
                              obtain ⟨v', hv', t5, e5, tin⟩ := bOr.get i _ eo
                              rw [hv] at hv'; cases hv'
                              cases e5
                              have it : IsTup hB t5 [Value.bool oi.num, Value.bool oi.down, ufV oi.up].toArray := tin.isTup N10
                              clear FdB N10 X T
                              refine wpAny_pure ?_
                              refine wpAny_assign_Name ?_
                              walk_at "GOR"
                              all_goals (try k_data)
                              all_goals (try k_unfold)
                              rename_i x9 h9 tk9 ks9 or9 lt9 F9 N9
                              have hk9 : ∀ p ∈ ks9, p.1 ≠ D ∧ p.1 ≠ Ic := fun p hp => ⟨Nat.ne_of_gt (lt9 p hp (D, _) (.head _)), Nat.ne_of_gt (lt9 p hp (Ic, _) (.tail _ (.head _)))⟩
                              refine CEnd.intro F9 N9 (ks9 ++ ms₁) ?_ ?_ ?_
                              · intro p hp
                                simp only [List.mem_cons, List.mem_append] at hp ⊢
                                rcases hp with h | h | h | h <;> simp only [h, true_or, or_true]
                              · intro p hp
                                rcases List.mem_append.mp hp with hp | hp
                                · exact hk9 p hp
                                · exact hoffc p hp
                              · rw [List.take_add_one, List.getElem?_map, eo]
                                have hv1 : TOrdIn (ks9 ++ ms₁) (.ref x9) (turnO oi) := ⟨x9, rfl, or9.mono fun p hp => List.mem_append_left _ hp⟩
                                exact (hJ.imp fun _ _ q => q.mono fun p hp => List.mem_append_right _ hp).append (.one hv1)
                            case zd =>
                              clear X6 T6 mg6 mb6 a6
                              dsimp only
                              rintro D2 tu ms₁ h tk k hJ htu F6 N7 hoffd hD1
                              rw [List.take_of_length_le (by simp; omega)] at hJ
                              obtain ⟨al2, hal2⟩ : ∃ r : List (Addr × Obj), r = (D2, listOf tu.toArray k) :: (ms₁ ++ al) := ⟨_, rfl⟩
                              rw [← hal2] at N7
                              have up : ∀ p ∈ al, p ∈ al2 := fun p hp => by rw [hal2]; exact .tail _ (List.mem_append_right _ hp)
                              have mT := up _ mT
                              have mI := up _ mI
                              have mS := up _ mS
                              have aPa := aPa.mono up
                              have aDu := aDu.mono up
                              have bPa : All2 (PairIn al2) pv ps := bPa.imp fun _ _ q => q.mono up
                              have bDu : All2 (PairIn al2) dv (sortK (keyP os) ps) := bDu.imp fun _ _ q => q.mono up
                              have aTu : ListIn al2 D2 tu := by rw [hal2]; exact ⟨_, k, .head _, rfl, rfl⟩
                              have bTu : All2 (TOrdIn al2) tu (os.map turnO) := hJ.imp fun _ _ q => q.mono fun p hp => by rw [hal2]; exact .tail _ (List.mem_append_left _ hp)
                              clear hal2 hJ hoffd hD1 up N10 FdB bTo aTo bOr aOr
                              walk_at "GOR"
                              all_goals (try k_data)
                              as_aux_lemma =>
                                rename_i D8 h8 F8 N8 l8
                                have hD8 : h8.IsList D8 pv.reverse.toArray := N8.isList (.head _)
                                refine callF F8 N8 (P := fun xs => IntsAre xs (((sortK (keyP os) ps).map (·.2)).reverse)) (fun R hr => sorted_ok (ps := ps.reverse) (os := os.map turnO) (a0.keeps (Fr.keep F8)) (by walk_at "OK") ⟨tu, (aTu.mono (by walk_at "SUB")).isList N8, bTu.imp fun _ _ ⟨a, e, i⟩ => ⟨a, e, (i.mono (by walk_at "SUB")).at N8⟩⟩ ⟨pv.reverse, hD8, bPa.reverse.imp fun _ _ q => (q.mono (by walk_at "SUB")).at N8⟩ (fun p hp => rowOk_turn (hPo p (List.mem_reverse.mp hp))) (by simp; omega) (by simp; omega) (by rw [items_turn]; exact hr)) ?_
                                intro xl xv xob h9 t9 hxv dxl hnex Fb Nb
                                have N9 : News s.heap L h9 ((xl, xob) :: al2) := fun p hp => Nb p (by
                                  rcases List.mem_cons.mp hp with rfl | hp
                                  · exact .head _
                                  · exact .tail _ (.tail _ hp))
                                clear Nb l8 hD8 N8 F8
                                walk_at "GOR"
                                all_goals (try k_data)
                                refine comp_eval (cl := []) (by with_unfolding_all rfl) (by rfl) (by decide) (by intro x; rfl) ?_
                                walk_at "GOR"
                                all_goals (try k_data)
                                (rename Fr _ _ _ _ => FcC)
                                (rename News _ _ _ _ => NcC)
                                refine' comp_go_pure (L := L) FcC NcC okd.h (by decide) rfl ((aDu.mono (by walk_at "SUB")).isList NcC) (by omega) (fun i ys ms => ms = [] ∧ IntsAre ys (((sortK (keyP os) ps).take i).map (·.2))) ⟨rfl, .nil⟩ ?ztC ?zdC
                                case ztC =>
                                  rintro i v ys ms₁ C D Ic oIc k h tk m hv ⟨rfl, hJ⟩ hit FC NC hoff hDI hD
                                  dsimp only at FC NC
                                  have hi6 : i < (sortK (keyP os) ps).length := by
                                    rcases Nat.lt_or_ge i dv.length with h | h
                                    · omega
                                    · rw [List.getElem?_eq_none h] at hv; cases hv
                                  have ep : (sortK (keyP os) ps)[i]? = some ((sortK (keyP os) ps)[i]) := List.getElem?_eq_getElem hi6
                                  generalize (sortK (keyP os) ps)[i] = p6 at ep
                                  obtain ⟨pa6, pr6, pt6, e6, ip6, rp6⟩ := bDu.same hv ep
                                  subst e6
                                  have ip7 := (ip6.mono (show ∀ p ∈ al2, p ∈ _ by walk_at "SUB")).isTup NcC
                                  (try dsimp only at ip7)
                                  clear FcC NcC
                                  refine wpAny_letOwnedTupleGo_listiter hit ?_
                                  walk_at "GOR"
                                  all_goals (try k_data)
                                  all_goals (try k_unfold)
                                  refine' CEnd.intro ?cF1 ?cN1 [] ?cs1 ?co1 ?cr1
                                  case cF1 => assumption
                                  case cN1 => assumption
                                  case cs1 => exact fun p hp => hp
                                  case co1 => exact fun p hp => nomatch hp
                                  case cr1 =>
                                    refine ⟨rfl, ?_⟩
                                    rw [List.take_add_one, ep, List.map_append]
                                    exact hJ.append (.cons _ _ .nil)
                                case zdC =>
                                  rintro DC ysC ms₁ hC tkC kC ⟨rfl, hJC⟩ hysC _ FdC NdC _ _
                                  rw [List.take_of_length_le (by omega)] at hJC
                                  dsimp only [List.nil_append] at NdC
                                  walk_at "GOR"
                                  all_goals (try k_data)
                                  rename_i D9 hE F9 NE l9
                                  have hx : Heap.IsList hE xl xv.toArray := (dxl.mono (show ∀ p ∈ _, p ∈ (D9, listOf ysC.toArray.toList.reverse.toArray 0) :: (DC, listOf ysC.toArray kC) :: (xl, xob) :: al2 from fun p hp => by cases List.mem_singleton.mp hp; exact .tail _ (.tail _ (.head _)))).isList NE
                                  have hx9 : Heap.IsList hE D9 ysC.reverse.toArray := NE.isList (.head _)
                                  refine ne_same hx hx9 hxv hJC.reverse (Ok.units okd) ?_
                                  clear hx hx9 hxv dxl hnex
                                  walk_at "GOR"
                                  all_goals (try k_data)
                                  refine' TPost.next F9 NE [(L + 1 + 1, oT2), (L + 1, oS2)] ?s ?o ?r
                                  case s =>
                                    intro p hp
                                    simp only [List.mem_cons, List.not_mem_nil, or_false] at hp
                                    rcases hp with rfl | rfl | rfl
                                    · exact .tail _ (.tail _ (.tail _ mI))
                                    · exact .tail _ (.tail _ (.tail _ mT))
                                    · exact .tail _ (.tail _ (.tail _ mS))
                                  case o => exact off_cons nIT.symm (off_cons nIS.symm off_nil)
                                  case r => exact ⟨q1', oT2, oS2, _, _, rfl, dT2, dS2⟩








  case rd =>
    rintro m₁ news₁ h tk _ F1 N1
    walk_at "GO"
    all_goals (try k_data)
    dsimp only
    exact hQ _ _ (hret _ _ _ F1.keep rfl)

/-- the law's call: from the walk of its body to the statement -/
theorem law_end (H : ∀ {w : World} {A : Around} {R : Result → Shared → Prop} {s : Shared} {l : Addr} {vs : List Value} {ns : List Int}, Amb w s.heap → Ok A 10 → s.heap.IsList l vs.toArray → IntsAre vs ns → vs.length ≤ 63 →
    (Rets R s fun v _ => v = .bool true) → codeAny (MM w) A (.call (.ref 135) ⟨[.ref l], []⟩) R s) : PySem.Challenge.rw_nu0049_01.Holds := by
  w_on
  refine Mine.hd ?_
  k_fill
  intro w s₀ s₁ mg mb G Y fa o pm cd doc dV kV ho hd hcd hD hmg hg args vals as hpre hlay hrd hwl hlo
  have KX := kIn_of Y
  clear hcd hD hd Y
  refine Ground.open G ?_
  intro T B D TE TW
  have TR := topRead_of T
  have e : mg (PySem.Str.ofString "law") = some (.ref 135) := mg_of KX T.g (by k_is)
  have e2 := hmg.symm.trans e
  injection e2 with e3
  injection e3 with e4
  subst e4
  clear hmg e TE TW B D
  wrow_args hpre hlay hrd hwl hlo
  rename IntsAre _ _ => hI
  rename Heap.IsList _ _ _ => hL
  rename ¬ _ < _ => hc
  rename_i ns l vs as _ _ _ _ _ _
  refine wpAny_call (H ⟨KX, mg, mb, TR⟩ ⟨rfl, by decide +kernel, by decide +kernel⟩ hL hI (by rw [hI.length]; omega) ?_)
  rintro v h' t' kp rfl
  refine GoodW.toG ⟨.inl ⟨.bool true, .bool true, [], rfl, raisesW_false ?_, .bool _, ?_, fun _ => ⟨List.nodup_nil, fun _ h => nomatch h⟩⟩, kp, rfl, hg⟩
  · wrow_none_raised
  · wrow_post

end Mine
theorem PySem.Challenge.cw_nu0049_01_holds : PySem.Challenge.rw_nu0049_01.Holds := by
  exact Mine.law_end fun a0 ok hl hi hn hret => Mine.law_ok a0 ok hl hi hn hret
