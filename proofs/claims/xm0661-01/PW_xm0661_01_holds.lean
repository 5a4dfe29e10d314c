import PyProof.Rows.All
import Wide.All
import OpenK.AllK
import Wide.FinOn
import PySem.Challenge.RW_xm0661_01
open PySem PySem.W PyProof.Rows
set_option Elab.async false
set_option maxRecDepth 100000
set_option linter.unusedVariables false
local macro_rules | `(tactic| walk_at "binaryOp Mult int int") => `(tactic| k_extra "m:binaryOp Mult int int")
local macro_rules | `(tactic| walk_at "call ref") => `(tactic| k_extra "m:call ref")
local macro_rules | `(tactic| walk_at "subscriptTail") => `(tactic| k_extra "m:subscriptTail")
local macro_rules | `(tactic| walk_at "call builtin:len") => `(tactic| k_extra "m:call builtin:len")
local macro_rules | `(tactic| walk_at "exec For") => `(tactic| k_extra "m:exec For")
local macro_rules | `(tactic| walk_at "pyIter str") => `(tactic| k_extra "m:pyIter str")
local macro_rules | `(tactic| walk_at "eval ListComp") => `(tactic| k_extra "m:eval ListComp")
local macro_rules | `(tactic| walk_at "compareOp Eq ref ref") => `(tactic| k_extra "m:compareOp Eq ref ref")
local macro_rules | `(tactic| walk_at "compareOp NotEq ref ref") => `(tactic| k_extra "m:compareOp NotEq ref ref")
local macro_rules | `(tactic| walk_at "exec Assign cons ListComp") => `(tactic| k_extra "m:exec Assign cons ListComp")
local macro_rules | `(tactic| walk_at "CompSrcT") => `(tactic| k_extra "m:CompSrcT")
local macro_rules | `(tactic| walk_at "exec While") => `(tactic| k_extra "m:exec While")
local macro_rules | `(tactic| walk_at "WhileStep2") => `(tactic| k_extra "m:WhileStep2")
local macro_rules | `(tactic| walk_at "getMethod type:Exception") => `(tactic| k_extra "m:getMethod type:Exception")
local macro_rules | `(tactic| walk_at "call builtin:Exception.__init__") => `(tactic| k_extra "m:call builtin:Exception.__init__")
local macro_rules | `(tactic| walk_at "setAttr ref") => `(tactic| k_extra "m:setAttr ref")
local macro_rules | `(tactic| walk_at "exec Raise some none") => `(tactic| k_extra "m:exec Raise some none")
local macro_rules | `(tactic| walk_at "leaving ref") => `(tactic| k_extra "m:leaving ref")
local macro_rules | `(tactic| walk_at "noteFrame ref") => `(tactic| k_extra "m:noteFrame ref")
local macro_rules | `(tactic| walk_at "getAttr ref") => `(tactic| k_extra "m:getAttr ref")
local macro_rules | `(tactic| walk_at "exec For Name Call cons nil") => `(tactic| k_extra "m:exec For Name Call cons nil")
local macro_rules | `(tactic| walk_at "pyIter ref") => `(tactic| k_extra "m:pyIter ref")
local macro_rules | `(tactic| walk_at "InvEndN") => `(tactic| k_extra "m:InvEndN")
section
open PySem PySem.W PyProof.Rows
set_option maxHeartbeats 8000000
namespace Mine
def foo : Str := Str.ofString "a"
theorem foo_eq : foo = foo := rfl
name_quick tw6823986343258562910 for Mine.foo by Mine.foo_eq
name_quick tw8075568018651887793 for Mine.foo by Mine.foo_eq
name_quick tw8596489363040539036 for Mine.foo by Mine.foo_eq
name_quick tw2091960640491084115 for Mine.foo by Mine.foo_eq
name_quick tw12122571135941518997 for Mine.foo by Mine.foo_eq
name_quick tw16510406782170844458 for Mine.foo by Mine.foo_eq
name_quick tw14473539162793888280 for Mine.foo by Mine.foo_eq
name_quick tw1678274191532866277 for Mine.foo by Mine.foo_eq
name_quick tw14979626087600564940 for Mine.foo by Mine.foo_eq
name_quick tw8134100103159753870 for Mine.foo by Mine.foo_eq
name_quick tw8542242679196749389 for Mine.foo by Mine.foo_eq
name_quick tw17111948838632640456 for Mine.foo by Mine.foo_eq
name_quick tw7800248229988161889 for Mine.foo by Mine.foo_eq
open_top hd for PySem.Challenge.rw_xm0661_01
end Mine
end

section
open PySem PySem.W PyProof.Rows PySem.Calls
set_option maxHeartbeats 8000000
namespace Mine
/-- a call of the def at f: what it hands back and what becomes of the ledger -/
def CallSpec (w : World) (f : Addr) (vs : List Value) (news : List (Addr × Obj)) (dd uu : Nat) (R : Value → List (Addr × Obj) → Prop) : Prop :=
  ∀ (mean : ExcName → Option Value) (mg mb : Str → Option Value) (dp un : Nat) (gd : Option (List Code)) (cn : Str) (cs : Scope) (a : Addr) (ccd : Value) (cl : List (Str × Addr)) (outer : List Env) (A₀ : Around) (base h₀ : Heap) (L : Addr) (m : Str → Option Value) (s : Shared) (Q E : Value → Shared → Prop),
    Below A₀ base outer h₀ → Fr h₀ L s.heap m → (hd.heap_39 w.params).In h₀ → News h₀ L s.heap news → Top hd.view_39 (looseW hd.view_39 [Str.ofString "SyntaxFault"]) mean mg mb h₀ → cs.kind = .function →
    dp + dd < recursionLimit → un + uu < cLine →
    (∀ v news' h' tk', R v news' → Fr h₀ L h' m → News h₀ L h' news' → Q v { s with heap := h', toks := tk' }) →
    wpAny (model PySem.Challenge.rw_xm0661_01.row.prog w) (ktrTop dp un gd cn cs L a ccd cl outer) (call (.ref f) vs) Q E s

theorem CallSpec.use {w : World} {f : Addr} {vs : List Value} {news : List (Addr × Obj)} {dd uu : Nat} {R : Value → List (Addr × Obj) → Prop} (S : CallSpec w f vs news dd uu R)
  {mean : ExcName → Option Value} {mg mb : Str → Option Value} {dp un : Nat} {gd : Option (List Code)} {cn : Str} {cs : Scope} {a : Addr} {ccd : Value} {cl : List (Str × Addr)} {outer : List Env} {A₀ : Around} {base h₀ : Heap} {L : Addr} {m : Str → Option Value} {s : Shared} {Q E : Value → Shared → Prop}
  (B : Below A₀ base outer h₀) (F : Fr h₀ L s.heap m) (X : (hd.heap_39 w.params).In h₀) (N : News h₀ L s.heap news) (T : Top hd.view_39 (looseW hd.view_39 [Str.ofString "SyntaxFault"]) mean mg mb h₀) (hk : cs.kind = .function)
  (hd : dp + dd < recursionLimit) (hu : un + uu < cLine)
  (h : ∀ v news' h' tk', R v news' → Fr h₀ L h' m → News h₀ L h' news' → Q v { s with heap := h', toks := tk' }) :
    wpAny (model PySem.Challenge.rw_xm0661_01.row.prog w) (ktrTop dp un gd cn cs L a ccd cl outer) (call (.ref f) vs) Q E s := S _ _ _ _ _ _ _ _ _ _ _ _ _ _ _ _ _ _ _ _ B F X N T hk hd hu h

theorem CallSpec.go {w : World} {f : Addr} {vs : List Value} {news : List (Addr × Obj)} {dd uu : Nat} {R : Value → List (Addr × Obj) → Prop}
  {mean : ExcName → Option Value} {mg mb : Str → Option Value} {dp un : Nat} {gd : Option (List Code)} {cn : Str} {cs : Scope} {a : Addr} {ccd : Value} {cl : List (Str × Addr)} {outer : List Env} {A₀ : Around} {base h₀ : Heap} {L : Addr} {m : Str → Option Value} {s : Shared} {Q E : Value → Shared → Prop}
  (N : News h₀ L s.heap news := by assumption) (B : Below A₀ base outer h₀ := by assumption) (F : Fr h₀ L s.heap m := by assumption) (X : (hd.heap_39 w.params).In h₀ := by assumption) (T : Top hd.view_39 (looseW hd.view_39 [Str.ofString "SyntaxFault"]) mean mg mb h₀ := by assumption) (hk : cs.kind = .function := by first | rfl | assumption) (hd : dp + dd < recursionLimit := by ktr_room) (hu : un + uu < cLine := by ktr_units)
  (S : CallSpec w f vs news dd uu R)
  (h : ∀ v news' h' tk', R v news' → Fr h₀ L h' m → News h₀ L h' news' → Q v { s with heap := h', toks := tk' }) :
    wpAny (model PySem.Challenge.rw_xm0661_01.row.prog w) (ktrTop dp un gd cn cs L a ccd cl outer) (call (.ref f) vs) Q E s := S.use B F X N T hk hd hu h

theorem News.perm {h₀ h : Heap} {L : Addr} {l l' : List (Addr × Obj)} (N : News h₀ L h l) (hs : ∀ p ∈ l', p ∈ l) : News h₀ L h l' := fun p hp => N p (hs p hp)

abbrev srcObj (x y : Int) (tx ty : Tok) (n : Nat) : Obj := listOf [.int x tx, .int y ty].toArray n
def SrcOk (x y : Int) : Prop := 0 ≤ x ∧ 0 ≤ y ∧ y < 2147483647

theorem fmod_bd (z p : Int) (hp : 0 < p) : 0 ≤ z.fmod p ∧ z.fmod p < p := ⟨Int.fmod_nonneg_of_pos _ hp, Int.fmod_lt_of_pos _ hp⟩
theorem fdiv_bd (z p : Int) (hp : 0 < p) (hz : 0 ≤ z) : 0 ≤ z.fdiv p := by
  rw [Int.fdiv_eq_ediv_of_nonneg _ (Int.le_of_lt hp)]; exact Int.ediv_nonneg hz (Int.le_of_lt hp)
theorem mulOk_own (x z : Int) : IntMulOk ([x, z.fmod 2147483647].getD (Int.toNat 1) 0) ([x, z.fmod 2147483647].getD (Int.toNat 1) 0) := by
  have h := fmod_bd z 2147483647 (by decide)
  show IntMulOk (z.fmod 2147483647) (z.fmod 2147483647)
  exact PySem.IntMulOk.of_left (PySem.intBits_le_64 (by omega) (by omega))

section take
local macro_rules | `(tactic| k_all) => `(tactic| (with_reducible assumption))
theorem take_core {w : World} {src : Addr} {x y top : Int} {tx ty tt : Tok} {n : Nat} {rest : List (Addr × Obj)} (hne : ∀ p ∈ rest, p.1 ≠ src)
   (hs : SrcOk x y) (ht : 0 < top) (ht2 : top < 100) :
   CallSpec w 277 [.ref src, .int top tt] ((src, listOf [.int x tx, .int y ty].toArray n) :: rest) 1 8
    (fun v nw => ∃ r tr x' y' tx' ty' n', v = .int r tr ∧ 0 ≤ r ∧ r < top ∧ SrcOk x' y' ∧ nw = (src, srcObj x' y' tx' ty' n') :: rest) := by
  w_top off
  k_with_none
  (k_with "m:binaryOp Mult int int" => (refine PyProof.Rows.mul_int ?_ (mulOk_own _ _)))
  unfold CallSpec
  k_fill
  intro mean mg mb dp un gd cn cs a ccd cl outer A₀ base h₀ L m s Q E B F X N T hk hd hu hret
  have ⟨hs1, hs2, hs3⟩ := hs
  refine wpAny_call ?_
  k_dflt cell_enter
  k_steps
  · have hpos : (0 : Int) < x := by assumption
    have h1 := fmod_bd x top ht
    refine' hret _ _ _ _ ?a ?b ?c
    (case b => assumption)
    (case c => assumption)
    exact ⟨_, _, x.fdiv top, y, _, _, _, rfl, h1.1, h1.2, ⟨fdiv_bd _ _ ht hs.1, hs.2⟩, rfl⟩
  · have h2 := fmod_bd (y * 39373 + 7) 2147483647 (by decide)
    have h1 := fun z => fmod_bd z top ht
    refine' hret _ _ _ _ ?a2 ?b2 ?c2
    (case b2 => assumption)
    (case c2 => assumption)
    exact ⟨_, _, x, (y * 39373 + 7).fmod 2147483647, _, _, _, rfl, (h1 _).1, (h1 _).2, ⟨hs.1, h2⟩, rfl⟩
end take

theorem take_spec {w : World} {src : Addr} {x y top : Int} {tx ty tt : Tok} {n : Nat} {news : List (Addr × Obj)} {U : Obj → List (Addr × Obj)} (hU : UpdF src (srcObj x y tx ty n) news U)
   (hs : SrcOk x y) (ht : 0 < top) (ht2 : top < 100) :
   CallSpec w 277 [.ref src, .int top tt] news 1 8
    (fun v nw => ∃ r tr x' y' tx' ty' n', v = .int r tr ∧ 0 ≤ r ∧ r < top ∧ SrcOk x' y' ∧ nw = U (srcObj x' y' tx' ty' n')) := by
  intro mean mg mb dp un gd cn cs a ccd cl outer A₀ base h₀ L m s Q E B F X N T hk hd hu hret
  obtain ⟨pre, post, rfl, hg, ha, hb⟩ := hU.split
  have N1 : News h₀ L s.heap ((src, srcObj x y tx ty n) :: (pre ++ post)) := News.perm N fun p hp => by
    rcases List.mem_cons.mp hp with rfl | hp
    · simp
    · rcases List.mem_append.mp hp with h | h <;> simp [h]
  refine (take_core (fun p hp => (List.mem_append.mp hp).elim (ha p) (hb p)) hs ht ht2).use B F X N1 T hk hd hu ?_
  · rintro v news' h' tk' ⟨r, tr, x', y', tx', ty', n', rfl, h0, h1, h2, rfl⟩ F' N'
    refine hret _ _ h' tk' ⟨r, tr, x', y', tx', ty', n', rfl, h0, h1, h2, rfl⟩ F' (News.perm N' fun p hp => ?_)
    rw [hg] at hp
    rcases List.mem_append.mp hp with h | h
    · simp [h]
    · rcases List.mem_cons.mp h with rfl | h <;> simp_all
end Mine
end

section
open PySem PySem.W PyProof.Rows PySem.Calls
set_option maxHeartbeats 8000000
namespace Mine
section one
theorem my_item {prog : Program} {w : World} {A : Around} {E : Value → Shared → Prop} {s : Shared} {value slice : PySem.Expr} {l : Addr} {vs : List Value} {k : Int} {u : Tok} {Q : Value → Shared → Prop}
    (hl : s.heap.IsList l vs.toArray) (h0 : 0 ≤ k) (h1 : k < vs.length) (hhi : vs.length < 100) (h : ∀ v, v ∈ vs → Q v s)
    (hs : subscripted slice false (.ref l) (.int k u) = operate [.ref l, .int k u] (getItem (.ref l) (.int k u)) := by with_unfolding_all rfl) :
    wpAny (model prog w) A (subscriptTail value slice (.ref l) (.int k u)) Q E s := by
  have hk : k.toNat < vs.length := by omega
  have hx : vs.toArray[k.toNat]? = some (vs[k.toNat]) := by simp [hk]
  exact tail_any hl.typeIs slot_list_getitem.lookup (wpAny_getItem_list hl h0 (by omega) hx (h _ (List.getElem_mem hk))) hs
theorem toArr_len (vs : List Value) : (vs.toArray.size : Int) = vs.length := by simp
local macro_rules | `(tactic| k_all) => `(tactic| (with_reducible assumption))
local macro_rules | `(tactic| k_all) => `(tactic| (refine List.forall_mem_cons.mpr ⟨by with_reducible assumption, by with_reducible assumption⟩))
theorem my_len {prog : Program} {w : World} {A : Around} {E : Value → Shared → Prop} {s : Shared} {l : Addr} {vs : List Value} {Q : Value → Shared → Prop} (hl : s.heap.IsList l vs.toArray) (hfit : vs.length < 100)
    (h : Q (.int vs.length (s.toks + 1)) { s with toks := s.toks + 1 + 1 }) : wpAny (model prog w) A (call (.builtin "len") [.ref l]) Q E s :=
  call_len_list hl (by rw [toArr_len]; omega) (by rw [toArr_len]; exact h)
theorem one_core {w : World} {src th : Addr} {x y : Int} {tx ty : Tok} {n k : Nat} {vs : List Value} {rest : List (Addr × Obj)} (hne : ∀ p ∈ rest, p.1 ≠ src) (hth : (th, listOf vs.toArray k) ∈ rest)
   (hs : SrcOk x y) (hv : 0 < vs.length) (hv2 : vs.length < 100) :
   CallSpec w 284 [.ref src, .ref th] ((src, srcObj x y tx ty n) :: rest) 2 16
    (fun v nw => v ∈ vs ∧ ∃ x' y' tx' ty' n', SrcOk x' y' ∧ nw = (src, srcObj x' y' tx' ty' n') :: rest) := by
  w_top off
  k_with_none
  (k_with "m:call ref" => (k_here; k_dflt (refine' CallSpec.go (S := (take_spec (by k_updF) (by assumption) (by omega) (by omega))) (h := ?_); intro v9 nw9 h9 tk9 ⟨r9, tr9, x9, y9, tx9, ty9, n9, e9, hr9, hr9', hs9, f9⟩ F9 N9; subst e9; subst f9; (try dsimp only at N9))))
  (k_with "m:subscriptTail" => (
  k_here
  (with_reducible show wpAny _ _ (subscriptTail _ _ (Value.ref _) (Value.int _ _)) _ _ _)
  with_unfolding_all refine' my_item ?k1 ?k2 ?k3 ?k4 ?_ ?k6
  (case k2 => assumption)
  (case k1 => (refine' News.isList (n := ?e1) (d := ?e2) (sl := ?e3) ?u ?v; (case u => assumption); (case v => exact List.Mem.tail _ (by assumption))))
  (case k3 => omega)
  (case k4 => assumption)
  (case k6 => with_unfolding_all rfl)
  k_whole
  intro v9 hv9))
  (k_with "m:call builtin:len" => (
  k_here
  (with_reducible show wpAny _ _ (call (Value.builtin "len") [Value.ref _]) _ _ _)
  with_unfolding_all refine' my_len ?k1 ?k2 ?_
  (case k2 => assumption)
  (case k1 => (refine' News.isList (n := ?e1) (d := ?e2) (sl := ?e3) ?u ?v; (case u => assumption); (case v => exact List.Mem.tail _ (by assumption))))
  k_whole))
  unfold CallSpec
  k_fill
  intro mean mg mb dp un gd cn cs a ccd cl outer A₀ base h₀ L m s Q E B F X N T hk hd hu hret
  refine wpAny_call ?_
  k_dflt cell_enter
  k_steps
  refine' hret _ _ _ _ ?a ?b ?c
  (case b => assumption)
  (case c => assumption)
  exact ⟨by assumption, _, _, _, _, _, by assumption, rfl⟩
end one
theorem UpdF.front {src : Addr} {o : Obj} {news : List (Addr × Obj)} {U : Obj → List (Addr × Obj)} (hU : UpdF src o news U) :
    ∃ rest, (∀ p ∈ rest, p.1 ≠ src) ∧ (∀ p, p ∈ news ↔ p ∈ (src, o) :: rest) ∧ (∀ o' p, p ∈ U o' ↔ p ∈ (src, o') :: rest) := by
  obtain ⟨pre, post, rfl, hg, ha, hb⟩ := hU.split
  refine ⟨pre ++ post, fun p hp => (List.mem_append.mp hp).elim (ha p) (hb p), fun p => ?_, fun o' p => ?_⟩
  · simp only [List.mem_append, List.mem_cons]; grind
  · rw [hg]; simp only [List.mem_append, List.mem_cons]; grind
theorem one_spec {w : World} {src th : Addr} {x y : Int} {tx ty : Tok} {n k : Nat} {vs : List Value} {news : List (Addr × Obj)} {U : Obj → List (Addr × Obj)} (hU : UpdF src (srcObj x y tx ty n) news U) (hth : (th, listOf vs.toArray k) ∈ news) (hne : th ≠ src)
   (hs : SrcOk x y) (hv : 0 < vs.length) (hv2 : vs.length < 100) :
   CallSpec w 284 [.ref src, .ref th] news 2 16
    (fun v nw => v ∈ vs ∧ ∃ x' y' tx' ty' n', SrcOk x' y' ∧ nw = U (srcObj x' y' tx' ty' n')) := by
  intro mean mg mb dp un gd cn cs a ccd cl outer A₀ base h₀ L m s Q E B F X N T hk hd hu hret
  obtain ⟨rest, h1, h2, h3⟩ := UpdF.front hU
  have N1 : News h₀ L s.heap ((src, srcObj x y tx ty n) :: rest) := News.perm N fun p hp => (h2 p).mpr hp
  have hth' : (th, listOf vs.toArray k) ∈ rest := by
    rcases List.mem_cons.mp ((h2 _).mp hth) with h | h
    · exact absurd (congrArg Prod.fst h) hne
    · exact h
  refine (one_core h1 hth' hs hv hv2).use B F X N1 T hk hd hu ?_
  rintro v news' h' tk' ⟨hv, x', y', tx', ty', n', h2, rfl⟩ F' N'
  exact hret _ _ h' tk' ⟨hv, x', y', tx', ty', n', h2, rfl⟩ F' (News.perm N' fun p hp => (h3 _ p).mp hp)
end Mine
end

section
open PySem PySem.W PyProof.Rows PySem.Calls
set_option maxHeartbeats 8000000
namespace Mine
/-- the sign's number -/
def cp (a : Str) : Nat := a.cps.getD 0 0
def figure (a : Str) : Bool := decide (48 ≤ cp a ∧ cp a ≤ 57)
def letter (a : Str) : Bool := decide (65 ≤ cp a ∧ cp a ≤ 90) || decide (97 ≤ cp a ∧ cp a ≤ 122)
def marks (a : Str) : Bool := decide (cp a = 46 ∨ cp a = 95 ∨ cp a = 45)
def notFig (a : Str) : Bool := !figure a
def notEnc (a : Str) : Bool := !(letter a || figure a || marks a)
theorem in_of {z : Str} {l : List Nat} (hz : z.cps.toList = l) (c : Nat) : (Builtin.Str.occurrences z ⟨#[c]⟩ 0 z.length 1).isEmpty = !decide (c ∈ l) := by
  rw [← hz, ← StrLaws.found_one, Bool.not_not]
theorem occ_fig {a x : Str} (ha : a ∈ signs x) : (Builtin.Str.occurrences (Str.ofString "0123456789") a 0 (Str.ofString "0123456789").length 1).isEmpty = notFig a := by
  obtain ⟨c, _, rfl⟩ := List.mem_map.mp ha
  rw [in_of (show _ = [48, 49, 50, 51, 52, 53, 54, 55, 56, 57] by decide +kernel)]
  show (!decide _) = !decide (48 ≤ c ∧ c ≤ 57)
  congr 1
  rw [decide_eq_decide]
  simp only [List.mem_cons, List.not_mem_nil, or_false]
  omega
section ver
def verF (x : Str) : Bool := (Txt.slice x none (some 2) == Str.ofString "1.") && decide (2 < x.length) && (signs (Txt.slice x (some 2) none)).all figure
theorem verF_slice {x : Str} (h : (Txt.slice x none (some 2) != Str.ofString "1.") = true) : verF x = false := by
  have h' : (Txt.slice x none (some 2) == Str.ofString "1.") = false := by simpa [bne] using h
  simp [verF, h']
theorem verF_len {x : Str} (h : (x.length : Int) < 3) : verF x = false := by
  have h' : ¬ 2 < x.length := by omega
  simp [verF, h']
theorem verF_none {x : Str} (h : (Txt.slice x none (some 2) != Str.ofString "1.") = false) (h2 : ¬ (x.length : Int) < 3) (h3 : ∀ a ∈ signs (Txt.slice x (some 2) none), notFig a = false) : verF x = true := by
  have h' : (Txt.slice x none (some 2) == Str.ofString "1.") = true := by simpa [bne] using h
  have h2' : 2 < x.length := by omega
  simp only [verF, h', h2', decide_true, Bool.true_and, List.all_eq_true]
  intro a ha
  simpa [notFig] using h3 a ha
theorem verF_some {x a : Str} (hf : (signs (Txt.slice x (some 2) none)).find? notFig = some a) : verF x = false := by
  have h1 := List.mem_of_find?_eq_some hf
  have h2 := List.find?_some hf
  have : (signs (Txt.slice x (some 2) none)).all figure = false := by
    rw [List.all_eq_false]
    exact ⟨a, h1, by simpa [notFig] using h2⟩
  simp [verF, this]
theorem keeps_refl (s : Shared) : Keeps s s := ⟨s.heap, s.toks, rfl, fun _ _ e => e⟩
theorem is_version_spec {w : World} {x : Str} {t : Tok} {news : List (Addr × Obj)} (hx : x.length ≤ 1000) :
   CallSpec w 49 [.str x t] news 1 8 (fun v nw => v = .bool (verF x) ∧ nw = news) := by
  w_top off
  k_with_none
  (k_with "m:exec For" => (
  (with_reducible show wpAny _ _ (exec (Stmt.For (Expr.Name _ _) _ [Stmt.If _ _ [] _] [] _) _) _ _ _)
  rename Fr _ _ _ _ => F'
  with_unfolding_all refine For3A F' (by rfl) (by rfl) (by rfl) (fun _ => rfl) ?_))
  (k_with "m:pyIter str" => (
  (with_reducible show wpAny _ _ (pyIter (Value.str _ _)) (fun it s₂ => LoopAt3 _ _ _ _ _ _ _ _ _ it s₂) _ _)
  k_dflt (
    rename Fr _ _ _ _ => F'
    rename News _ _ _ _ => N'
    refine' Iter_signs_find (pz := notFig) ?hh F' N' ?g1 ?g2 ?g3
    (case hh => with_unfolding_all rfl)
    (case' g1 => (intro a9 v9 s9 own9 ha9 hi9 F9 N9; (obtain ⟨_, e'⟩ := ItemKind.str_is hi9); subst e'))
    (case' g2 => (intro a9 v9 own9 h9 tk9 hf9 hi9 F9 N9; (obtain ⟨_, e'⟩ := ItemKind.str_is hi9); subst e'))
    (case' g3 => (intro h9 tk9 vl9 F9 N9 hn9)))))
  unfold CallSpec
  k_fill
  intro mean mg mb dp un gd cn cs a ccd cl outer A₀ base h₀ L m s Q E B F X N T hk hd hu hret
  refine wpAny_call ?_
  k_dflt cell_enter
  k_steps
  · refine hret _ _ _ _ ⟨by rw [verF_slice (by assumption)], rfl⟩ ?_ ?_ <;> assumption
  · refine hret _ _ _ _ ⟨by rw [verF_len (by assumption)], rfl⟩ ?_ ?_ <;> assumption
  · refine hret _ _ _ _ ⟨by rw [verF_none (by assumption) (by assumption) (by assumption)], rfl⟩ ?_ ?_ <;> assumption
  · rename_i kN _ _
    refine hret _ _ _ _ ⟨by rw [verF_some (by assumption)], rfl⟩ ?_ (News.perm kN fun p hp => List.mem_append_right _ hp)
    assumption
  · rw [Bool.not_not]; exact occ_fig (by assumption)
  · exact keeps_refl _
end ver
end Mine
end

section
open PySem PySem.W PyProof.Rows PySem.Calls
set_option maxHeartbeats 8000000
namespace Mine
theorem let_mem (c : Nat) : decide (c ∈ [97, 98, 99, 100, 101, 102, 103, 104, 105, 106, 107, 108, 109, 110, 111, 112, 113, 114, 115, 116, 117, 118, 119, 120, 121, 122, 65, 66, 67, 68, 69, 70, 71, 72, 73, 74, 75, 76, 77, 78, 79, 80, 81, 82, 83, 84, 85, 86, 87, 88, 89, 90]) = (decide (65 ≤ c ∧ c ≤ 90) || decide (97 ≤ c ∧ c ≤ 122)) := by
  by_cases h : c < 123
  · revert h
    revert c
    decide +kernel
  · have h1 : ¬ c ∈ [97, 98, 99, 100, 101, 102, 103, 104, 105, 106, 107, 108, 109, 110, 111, 112, 113, 114, 115, 116, 117, 118, 119, 120, 121, 122, 65, 66, 67, 68, 69, 70, 71, 72, 73, 74, 75, 76, 77, 78, 79, 80, 81, 82, 83, 84, 85, 86, 87, 88, 89, 90] := fun q =>
      h ((by decide +kernel : ∀ d ∈ [97, 98, 99, 100, 101, 102, 103, 104, 105, 106, 107, 108, 109, 110, 111, 112, 113, 114, 115, 116, 117, 118, 119, 120, 121, 122, 65, 66, 67, 68, 69, 70, 71, 72, 73, 74, 75, 76, 77, 78, 79, 80, 81, 82, 83, 84, 85, 86, 87, 88, 89, 90], d < 123) c q)
    rw [decide_eq_false h1, decide_eq_false (by omega), decide_eq_false (by omega)]; rfl
theorem occ_let {a x : Str} (ha : a ∈ signs x) : (Builtin.Str.occurrences (Str.ofString "abcdefghijklmnopqrstuvwxyzABCDEFGHIJKLMNOPQRSTUVWXYZ") a 0 (Str.ofString "abcdefghijklmnopqrstuvwxyzABCDEFGHIJKLMNOPQRSTUVWXYZ").length 1).isEmpty = !letter a := by
  obtain ⟨c, _, rfl⟩ := List.mem_map.mp ha
  rw [in_of (show _ = [97, 98, 99, 100, 101, 102, 103, 104, 105, 106, 107, 108, 109, 110, 111, 112, 113, 114, 115, 116, 117, 118, 119, 120, 121, 122, 65, 66, 67, 68, 69, 70, 71, 72, 73, 74, 75, 76, 77, 78, 79, 80, 81, 82, 83, 84, 85, 86, 87, 88, 89, 90] by decide +kernel), let_mem]
  rfl
theorem occ_marks {a x : Str} (ha : a ∈ signs x) : (Builtin.Str.occurrences (Str.ofString "._-") a 0 (Str.ofString "._-").length 1).isEmpty = !marks a := by
  obtain ⟨c, _, rfl⟩ := List.mem_map.mp ha
  rw [in_of (show _ = [46, 95, 45] by decide +kernel)]
  show (!decide _) = !decide (c = 46 ∨ c = 95 ∨ c = 45)
  congr 1
  rw [decide_eq_decide]
  simp only [List.mem_cons, List.not_mem_nil, or_false]
theorem item_self (x : Str) (i : Int) : Txt.item x i ∈ signs (Txt.item x i) := List.Mem.head _
def encS (a : Str) : Bool := letter a || figure a || marks a
def encF (x : Str) : Bool := !(x == Str.ofString "") && letter (Txt.item x 0) && (signs x).all encS
theorem encF_nil {x : Str} (h : (x == Str.ofString "") = true) : encF x = false := by simp [encF, h]
theorem encF_first {x : Str} (h : (Builtin.Str.occurrences (Str.ofString "abcdefghijklmnopqrstuvwxyzABCDEFGHIJKLMNOPQRSTUVWXYZ") (Txt.item x 0) 0 (Str.ofString "abcdefghijklmnopqrstuvwxyzABCDEFGHIJKLMNOPQRSTUVWXYZ").length 1).isEmpty = true) : encF x = false := by
  rw [occ_let (item_self x 0)] at h
  have h' : letter (Txt.item x 0) = false := by simpa using h
  simp [encF, h']
theorem encF_all {x : Str} (h0 : (x == Str.ofString "") = false) (h : (Builtin.Str.occurrences (Str.ofString "abcdefghijklmnopqrstuvwxyzABCDEFGHIJKLMNOPQRSTUVWXYZ") (Txt.item x 0) 0 (Str.ofString "abcdefghijklmnopqrstuvwxyzABCDEFGHIJKLMNOPQRSTUVWXYZ").length 1).isEmpty = false)
    (h3 : ∀ a ∈ signs x, notEnc a = false) : encF x = true := by
  rw [occ_let (item_self x 0)] at h
  have h' : letter (Txt.item x 0) = true := by simpa using h
  simp only [encF, h0, h', Bool.not_false, Bool.true_and, List.all_eq_true]
  intro a ha
  have h4 : notEnc a = !encS a := rfl
  have := h3 a ha
  rw [h4] at this
  simpa using this
theorem encF_some {x a : Str} (hf : (signs x).find? notEnc = some a) : encF x = false := by
  have h1 := List.mem_of_find?_eq_some hf
  have h2 := List.find?_some hf
  have : (signs x).all encS = false := by
    rw [List.all_eq_false]
    exact ⟨a, h1, by simpa [notEnc, encS] using h2⟩
  simp [encF, this]
theorem notEnc_ttt {a x : Str} (ha : a ∈ signs x)
  (h1 : (Builtin.Str.occurrences (Str.ofString "abcdefghijklmnopqrstuvwxyzABCDEFGHIJKLMNOPQRSTUVWXYZ") a 0 (Str.ofString "abcdefghijklmnopqrstuvwxyzABCDEFGHIJKLMNOPQRSTUVWXYZ").length 1).isEmpty = true)
  (h2 : (Builtin.Str.occurrences (Str.ofString "0123456789") a 0 (Str.ofString "0123456789").length 1).isEmpty = true)
  (h3 : (Builtin.Str.occurrences (Str.ofString "._-") a 0 (Str.ofString "._-").length 1).isEmpty = true) : true = notEnc a := by
  rw [occ_let ha] at h1
  rw [occ_fig ha] at h2
  rw [occ_marks ha] at h3
  simp_all [notEnc, notFig]
theorem notEnc_m {a x : Str} (ha : a ∈ signs x) (h3 : (Builtin.Str.occurrences (Str.ofString "._-") a 0 (Str.ofString "._-").length 1).isEmpty = false) : false = notEnc a := by
  rw [occ_marks ha] at h3
  simp_all [notEnc]
theorem notEnc_f {a x : Str} (ha : a ∈ signs x) (h3 : (Builtin.Str.occurrences (Str.ofString "0123456789") a 0 (Str.ofString "0123456789").length 1).isEmpty = false) : false = notEnc a := by
  rw [occ_fig ha] at h3
  simp_all [notEnc, notFig]
theorem notEnc_l {a x : Str} (ha : a ∈ signs x) (h3 : (Builtin.Str.occurrences (Str.ofString "abcdefghijklmnopqrstuvwxyzABCDEFGHIJKLMNOPQRSTUVWXYZ") a 0 (Str.ofString "abcdefghijklmnopqrstuvwxyzABCDEFGHIJKLMNOPQRSTUVWXYZ").length 1).isEmpty = false) : false = notEnc a := by
  rw [occ_let ha] at h3
  simp_all [notEnc]
theorem keeps_tk (s : Shared) (k : Nat) : Keeps s { s with toks := k } := ⟨s.heap, k, rfl, fun _ _ e => e⟩
section enc
theorem is_encoding_spec {w : World} {x : Str} {t : Tok} {news : List (Addr × Obj)} (hx : x.length ≤ 1000) :
   CallSpec w 42 [.str x t] news 1 8 (fun v nw => v = .bool (encF x) ∧ nw = news) := by
  w_top off
  k_with_none
  (k_with "m:exec For" => (
  (with_reducible show wpAny _ _ (exec (Stmt.For (Expr.Name _ _) _ [Stmt.If _ _ [] _] [] _) _) _ _ _)
  rename Fr _ _ _ _ => F'
  with_unfolding_all refine For3A F' (by rfl) (by rfl) (by rfl) (fun _ => rfl) ?_))
  (k_with "m:pyIter str" => (
  (with_reducible show wpAny _ _ (pyIter (Value.str _ _)) (fun it s₂ => LoopAt3 _ _ _ _ _ _ _ _ _ it s₂) _ _)
  k_dflt (
    rename Fr _ _ _ _ => F'
    rename News _ _ _ _ => N'
    refine' Iter_signs_find (pz := notEnc) ?hh F' N' ?g1 ?g2 ?g3
    (case hh => with_unfolding_all rfl)
    (case' g1 => (intro a9 v9 s9 own9 ha9 hi9 F9 N9; (obtain ⟨_, e'⟩ := ItemKind.str_is hi9); subst e'))
    (case' g2 => (intro a9 v9 own9 h9 tk9 hf9 hi9 F9 N9; (obtain ⟨_, e'⟩ := ItemKind.str_is hi9); subst e'))
    (case' g3 => (intro h9 tk9 vl9 F9 N9 hn9)))))
  unfold CallSpec
  k_fill
  intro mean mg mb dp un gd cn cs a ccd cl outer A₀ base h₀ L m s Q E B F X N T hk hd hu hret
  refine wpAny_call ?_
  k_dflt cell_enter
  k_steps
  · refine hret _ _ _ _ ⟨by rw [encF_nil (by assumption)], rfl⟩ ?_ ?_ <;> assumption
  · refine hret _ _ _ _ ⟨by rw [encF_first (by assumption)], rfl⟩ ?_ ?_ <;> assumption
  · refine hret _ _ _ _ ⟨by rw [encF_all (by assumption) (by assumption) (by assumption)], rfl⟩ ?_ ?_ <;> assumption
  · rename_i kN _ _
    refine hret _ _ _ _ ⟨by rw [encF_some (by assumption)], rfl⟩ ?_ (News.perm kN fun p hp => List.mem_append_right _ hp)
    assumption
  · exact notEnc_ttt (by assumption) (by assumption) (by assumption) (by assumption)
  · exact keeps_tk _ _
  · exact notEnc_m (by assumption) (by assumption)
  · exact keeps_tk _ _
  · exact notEnc_f (by assumption) (by assumption)
  · exact keeps_refl _
  · exact notEnc_l (by assumption) (by assumption)
  · exact keeps_refl _
end enc
end Mine
end

section
open PySem PySem.W PyProof.Rows PySem.Calls
set_option maxHeartbeats 8000000
namespace Mine
open PyProof.Rows.LCg PyProof.Rows.LCt
section
variable {prog : Program} {w : World} {A : Around} {E : Value → Shared → Prop} {s : Shared} {h₀ : Heap} {L : Addr} {m : Str → Option Value} {env : Env} {news : List (Addr × Obj)}

theorem pyIter_str' {x : Str} {t : Tok} {Q : Value → Shared → Prop}
    (hQ : ∀ (o : Obj) (St : Nat → Heap → Prop), (∀ A' : Around, A'.handled = none → Walks prog w A' s.heap.objs.size [s.heap.objs.size] [s.heap.objs.size] x.cps.size (SignAt x) St) → (∀ i h, St i h → ∃ o, h.get? s.heap.objs.size = some o) → St 0 (s.heap.push o) →
      Q (.ref s.heap.objs.size) { s with heap := s.heap.push o }) : wpAny (model prog w) A (pyIter (.str x t)) Q E s := by
  cases ha : x.cps.all (· < 128)
  · exact wpAny_pyIter_wide ha (hQ _ _ (fun A' hA => Walks.strWide hA _ x t) (fun i h st => by obtain ⟨o, e, _⟩ := st; exact ⟨o, e⟩) ⟨_, Heap.get?_push_size _ rfl, rfl, rfl⟩)
  · exact wpAny_pyIter_ascii ha (hQ _ _ (fun A' hA => Walks.strAscii hA _ x t) (fun i h st => by obtain ⟨o, e, _⟩ := st; exact ⟨o, e⟩) ⟨_, Heap.get?_push_size _ rfl, rfl, rfl⟩)

def EltOk (prog : Program) (w : World) (A : Around) (h₀ : Heap) (L : Addr) (m : Str → Option Value) (env : Env) (elt : Expr) (x : Str) (scope : Scope) (cl : List (Str × Addr)) (news : List (Addr × Obj)) (P : Nat → Value → Prop) (G : Nat → Value → Prop) : Prop :=
  ∀ i v C oC m₂ (s₁ : Shared) (E' : Value → Shared → Prop), P i v → NsObj oC m₂ → m₂ x = some v → Fr h₀ L s₁.heap m → News h₀ L s₁.heap ((C, oC) :: news) →
    wpAny (model prog w) A (eval elt (compEnvC scope cl C env)) (fun y s' => G i y ∧ Keeps s₁ s') E' s₁
def TestOk (prog : Program) (w : World) (A : Around) (h₀ : Heap) (L : Addr) (m : Str → Option Value) (env : Env) (ct : Expr) (x : Str) (scope : Scope) (cl : List (Str × Addr)) (news : List (Addr × Obj)) (n : Nat) (P : Nat → Value → Prop) (pz : Nat → Bool) : Prop :=
  ∀ i v C oC m₂ (s₁ : Shared) (E' : Value → Shared → Prop), i < n → P i v → NsObj oC m₂ → m₂ x = some v → Fr h₀ L s₁.heap m → News h₀ L s₁.heap ((C, oC) :: news) →
    wpAny (model prog w) A (isTrue ct (compEnvC scope cl C env) (eval ct (compEnvC scope cl C env))) (fun b s' => b = pz i ∧ Keeps s₁ s') E' s₁
def RelU (G : Nat → Value → Prop) (i : Nat) (ys : List Value) : Prop := ys.length = i ∧ ∀ j v, ys[j]? = some v → G j v
theorem RelU.snoc {G : Nat → Value → Prop} {i : Nat} {ys : List Value} {y : Value} (h : RelU G i ys) (hy : G i y) : RelU G (i + 1) (ys ++ [y]) := by
  obtain ⟨rfl, h2⟩ := h
  refine ⟨by simp, fun j v hj => ?_⟩
  rcases Nat.lt_trichotomy j ys.length with q | q | q
  · rw [List.getElem?_append_left q] at hj; exact h2 j v hj
  · subst q; simp at hj; subst hj; exact hy
  · rw [List.getElem?_eq_none (by simp; omega)] at hj; cases hj

theorem drop3 {h : Heap} {a b c : Addr × Obj} (N : News h₀ L h (a :: b :: c :: news)) : News h₀ L h (b :: news) := fun p hp => by
  rcases List.mem_cons.mp hp with rfl | hp
  · exact N _ (by simp)
  · exact N _ (by simp [hp])

theorem rest_of {elt : Expr} {x : Str} {scope : Scope} {cl : List (Str × Addr)} {S : List (Addr × Obj) → Prop} {P G : Nat → Value → Prop} {Fin : List Value → List (Addr × Obj) → Prop} {n : Nat}
    (hE : EltOk prog w A h₀ L m env elt x scope cl news P G) (hS : S news) (fin : ∀ ys, RelU G n ys → Fin ys news) :
    ∀ k i ys, i + k = n → RelU G i ys → CompRest prog w A h₀ L m env elt x scope cl s S P Fin k i ys news
  | 0, i, ys, e, r => by
    have : i = n := by omega
    subst this
    exact fin ys r
  | k + 1, i, ys, e, r => by
    refine CompRest.succ fun v I oI C oC D m₂ h tk E' hv hC hx F N off ne => ?_
    refine wpAny_mono (hE i v C oC m₂ { s with heap := h, toks := tk } E' hv hC hx F (drop3 N)) (fun y s' hy => ?_) fun _ _ e => e
    obtain ⟨hg, h', tk', rfl, hk⟩ := hy
    exact ⟨h', tk', news, rfl, F.keeps hk, N.grown hk, off, hS, rest_of hE hS fin k (i + 1) (ys ++ [y]) (by omega) (r.snoc hg)⟩

theorem rest_ofT {ct elt : Expr} {x : Str} {scope : Scope} {cl : List (Str × Addr)} {S : List (Addr × Obj) → Prop} {P : Nat → Value → Prop} {pz : Nat → Bool} {Gv : Value → Prop} {Fin : List Value → List (Addr × Obj) → Prop} {n : Nat}
    (hT : TestOk prog w A h₀ L m env ct x scope cl news n P pz) (hE : EltOk prog w A h₀ L m env elt x scope cl news P fun _ y => Gv y) (hS : S news) (fin : ∀ ys, (∀ v ∈ ys, Gv v) → (ys = [] ↔ ∀ j, j < n → pz j = false) → Fin ys news) :
    ∀ k i ys, i + k = n → (∀ v ∈ ys, Gv v) → (ys = [] ↔ ∀ j, j < i → pz j = false) → CompRestT prog w A h₀ L m env ct elt x scope cl s S P Fin k i ys news
  | 0, i, ys, e, gv, r => by
    have : i = n := by omega
    subst this
    exact fin ys gv r
  | k + 1, i, ys, e, gv, r => by
    refine CompRestT.succ fun v I oI C oC D m₂ h tk E' hv hC hx F N off ne => ?_
    refine wpAny_mono (hT i v C oC m₂ { s with heap := h, toks := tk } E' (by omega) hv hC hx F (drop3 N)) (fun b s' hy => ?_) fun _ _ e => e
    obtain ⟨hb, h', tk', rfl, hk⟩ := hy
    cases hp : pz i with
    | true =>
      rw [hb, hp, if_pos rfl]
      refine wpAny_mono (hE i v C oC m₂ { s with heap := h', toks := tk' } E' hv hC hx (F.keeps hk) (drop3 (N.grown hk))) (fun y s'' hy => ?_) fun _ _ e => e
      obtain ⟨hgy, h'', tk'', rfl, hk'⟩ := hy
      refine ⟨h'', tk'', news, rfl, (F.keeps hk).keeps hk', (N.grown hk).grown hk', off, hS, rest_ofT hT hE hS fin k (i + 1) (ys ++ [y]) (by omega) (fun v hv => (List.mem_append.mp hv).elim (gv v) fun q => by rw [List.mem_singleton.mp q]; exact hgy) ?_⟩
      constructor
      · intro q; simp at q
      · intro q; have := q i (by omega); rw [hp] at this; cases this
    | false =>
      rw [hb, hp, if_neg (by decide)]
      refine ⟨h', tk', news, rfl, F.keeps hk, N.grown hk, off, hS, rest_ofT hT hE hS fin k (i + 1) ys (by omega) gv ?_⟩
      rw [r]
      constructor
      · intro q j hj
        by_cases h1 : j = i
        · subst h1; exact hp
        · exact q j (by omega)
      · intro q j hj; exact q j (by omega)

def SrcS (prog : Program) (w : World) (A : Around) (h₀ : Heap) (L : Addr) (m : Str → Option Value) (env : Env) (elt : Expr) (x : Str) (scope : Scope) (cl : List (Str × Addr)) (Fin : Shared → List Value → List (Addr × Obj) → Prop) (xv : Value) (s₁ : Shared) : Prop :=
  ∃ y t news, xv = .str y t ∧ A.handled = none ∧ Fr h₀ L s₁.heap m ∧ News h₀ L s₁.heap news ∧ y.cps.size ≤ sizeLine ∧
    ∀ s₂ : Shared, (∃ h, s₂ = { s₁ with heap := h }) → CompRest prog w A h₀ L m env elt x scope cl s₂ (fun _ => True) (SignAt y) (Fin s₂) y.cps.size 0 [] news
def SrcST (prog : Program) (w : World) (A : Around) (h₀ : Heap) (L : Addr) (m : Str → Option Value) (env : Env) (ct elt : Expr) (x : Str) (scope : Scope) (cl : List (Str × Addr)) (Fin : Shared → List Value → List (Addr × Obj) → Prop) (xv : Value) (s₁ : Shared) : Prop :=
  ∃ y t news, xv = .str y t ∧ A.handled = none ∧ Fr h₀ L s₁.heap m ∧ News h₀ L s₁.heap news ∧ y.cps.size ≤ sizeLine ∧
    ∀ s₂ : Shared, (∃ h, s₂ = { s₁ with heap := h }) → CompRestT prog w A h₀ L m env ct elt x scope cl s₂ (fun _ => True) (SignAt y) (Fin s₂) y.cps.size 0 [] news

theorem ListComp_SU {elt iter : Expr} {x : Str} {px : Pos} {scope : Scope} {cl : List (Str × Addr)} {pos : Pos} {Q : Value → Shared → Prop} (F₀ : Fr h₀ L s.heap m)
    (hclos : closureFor scope env = pure cl) (hcell : ∀ y ∈ scope.names, y.2 ≠ .cell) (hkind : scope.kind = .function)
    (hnames : ∀ y ∈ scope.names, y.2 = .local → scope.names.lookup y.1 = some .local) (hx : scope.names.lookup x = some .local)
    (h : wpAny (model prog w) A (eval iter env) (SrcS prog w A h₀ L m env elt x scope cl (fun s₂ => FinE h₀ L m s₂ Q)) E s)
    (hs : ∀ x, foldedSetIterable iter env x = pure x := by intro _; rfl) :
    wpAny (model prog w) A (eval (.ListComp elt [⟨.Name x px, iter, [], 0⟩] scope pos) env) Q E s := by
  rw [eval_ListComp]
  refine wpAny_comprehension_free (use := none) rfl hs hclos hkind hnames (wpAny_mono h (fun xv s₁ h₁ => ?_) fun _ _ e => e)
  obtain ⟨y, t, news, rfl, hh, F, N, hsz, R⟩ := h₁
  refine pyIter_str' fun o St W hIo hst => ?_
  refine block_U (W A hh) hsz hIo (fun i h h' o nw st e e' _ _ _ => (W A hh).frame _ _ _ st (fun b hb o' q => by rw [List.mem_singleton.mp hb] at q ⊢; rw [e] at q; cases q; exact e')) hcell hkind hx hst (fun b hb => ?_)
      (F.keeps fun _ _ e => Heap.get?_push_of_some _ e) (N.grown fun _ _ e => Heap.get?_push_of_some _ e) (Nat.ne_of_lt F.ns.lt) (next_is_new F) (fun p hp => Nat.ne_of_lt (Heap.lt_size (N p hp).1)) trivial (R _ ⟨_, rfl⟩) ?_
  · rw [List.mem_singleton.mp hb]
    show s₁.heap.objs.size < (s₁.heap.push _).objs.size
    rw [Heap.size_push]; exact Nat.lt_succ_self _
  · intro D C h tk m' ys news' F' N' o1 hn hC₀ hD₀ hCL hDL hCD offC fin
    refine ⟨m', hn, fun h'' hs'' => fin D h'' tk (F'.change hs'' hCL hC₀) (fun p hp => ?_) o1⟩
    refine ⟨hs''.extBut _ _ ?_ (N' p hp).1, (N' p hp).2⟩
    rcases List.mem_cons.mp hp with rfl | hp
    · exact Ne.symm hCD
    · exact offC p hp

theorem ListComp_ST {ct elt iter : Expr} {x : Str} {px : Pos} {scope : Scope} {cl : List (Str × Addr)} {pos : Pos} {Q : Value → Shared → Prop} (F₀ : Fr h₀ L s.heap m)
    (hclos : closureFor scope env = pure cl) (hcell : ∀ y ∈ scope.names, y.2 ≠ .cell) (hkind : scope.kind = .function)
    (hnames : ∀ y ∈ scope.names, y.2 = .local → scope.names.lookup y.1 = some .local) (hx : scope.names.lookup x = some .local)
    (h : wpAny (model prog w) A (eval iter env) (SrcST prog w A h₀ L m env ct elt x scope cl (fun s₂ => FinE h₀ L m s₂ Q)) E s)
    (hs : ∀ x, foldedSetIterable iter env x = pure x := by intro _; rfl) :
    wpAny (model prog w) A (eval (.ListComp elt [⟨.Name x px, iter, [ct], 0⟩] scope pos) env) Q E s := by
  rw [eval_ListComp]
  refine wpAny_comprehension_free (use := none) rfl hs hclos hkind hnames (wpAny_mono h (fun xv s₁ h₁ => ?_) fun _ _ e => e)
  obtain ⟨y, t, news, rfl, hh, F, N, hsz, R⟩ := h₁
  refine pyIter_str' fun o St W hIo hst => ?_
  refine block_T (W A hh) hsz hIo (fun i h h' o nw st e e' _ _ _ => (W A hh).frame _ _ _ st (fun b hb o' q => by rw [List.mem_singleton.mp hb] at q ⊢; rw [e] at q; cases q; exact e')) hcell hkind hx hst (fun b hb => ?_)
      (F.keeps fun _ _ e => Heap.get?_push_of_some _ e) (N.grown fun _ _ e => Heap.get?_push_of_some _ e) (Nat.ne_of_lt F.ns.lt) (next_is_new F) (fun p hp => Nat.ne_of_lt (Heap.lt_size (N p hp).1)) trivial (R _ ⟨_, rfl⟩) ?_
  · rw [List.mem_singleton.mp hb]
    show s₁.heap.objs.size < (s₁.heap.push _).objs.size
    rw [Heap.size_push]; exact Nat.lt_succ_self _
  · intro D C h tk m' ys news' F' N' o1 hn hC₀ hD₀ hCL hDL hCD offC fin
    refine ⟨m', hn, fun h'' hs'' => fin D h'' tk (F'.change hs'' hCL hC₀) (fun p hp => ?_) o1⟩
    refine ⟨hs''.extBut _ _ ?_ (N' p hp).1, (N' p hp).2⟩
    rcases List.mem_cons.mp hp with rfl | hp
    · exact Ne.symm hCD
    · exact offC p hp

/-- the name is stored, the list stays on the ledger -/
theorem put_name {h : Heap} {D : Addr} {y : Str} {py : Pos} {s₂ : Shared} {tk : Nat} {ys : List Value} {nw : List (Addr × Obj)} {Q : Unit → Shared → Prop} {E' : Value → Shared → Prop}
    (hy : env.kindOf y = some .local) (hp : (env.scope.kind == .class || (env.scope.kind == .module && env.locals != env.globals)) = false)
    (F : Fr h₀ env.locals h m) (N : News h₀ env.locals h ((D, lst ys) :: nw))
    (k : ∀ h₂ tk₂, Fr h₀ env.locals h₂ (fun z => if z = y then some (.ref D) else m z) → News h₀ env.locals h₂ ((D, lst ys) :: nw) → Heap.SameBut env.locals h h₂ → Q () { s₂ with heap := h₂, toks := tk₂ }) :
    wpAny (model prog w) A (assign (.Name y py) env (.ref D)) Q E' { s₂ with heap := h, toks := tk } :=
  wpAny_assign_Name (wpAny_storeName_local hy F.ns (fun h₂ hn hs => k h₂ _ (F.set hn hs) (N.set hs) hs) hp)
theorem Assign_ListComp_SU {elt iter : Expr} {x y : Str} {px py : Pos} {scope : Scope} {cl : List (Str × Addr)} {pos spos : Pos} {Q : Flow → Shared → Prop} (F₀ : Fr h₀ L s.heap m) (hLe : env.locals = L)
    (hsw : swapsWith (.ListComp elt [⟨.Name x px, iter, [], 0⟩] scope pos) (some (.Name y py)) spos.line env = pure true)
    (hclos : closureFor scope env = pure cl) (hcell : ∀ z ∈ scope.names, z.2 ≠ .cell) (hkind : scope.kind = .function)
    (hnames : ∀ z ∈ scope.names, z.2 = .local → scope.names.lookup z.1 = some .local) (hx : scope.names.lookup x = some .local)
    (hy : env.kindOf y = some .local) (hp : (env.scope.kind == .class || (env.scope.kind == .module && env.locals != env.globals)) = false)
    (h : wpAny (model prog w) A (eval iter env) (SrcS prog w A h₀ L m env elt x scope cl (fun s₂ => FinA h₀ L m s₂ y Q)) E s)
    (hs : ∀ x, foldedSetIterable iter env x = pure x := by intro _; rfl) :
    wpAny (model prog w) A (exec (.Assign [.Name y py] (.ListComp elt [⟨.Name x px, iter, [], 0⟩] scope pos) spos) env) Q E s := by
  subst hLe
  rw [exec_Assign_Name_used _ _ _ _ hsw]
  refine wpAny_bind (wpAny_standAt (wpAny_bind ?_))
  show wpAny _ A (do let _ ← comprehension (.ListComp elt [⟨.Name x px, iter, [], 0⟩] scope pos) scope env _ (newList []) false (eval iter env) (some (assign (.Name y py) env))) _ _ s
  refine wpAny_bind (wpAny_mono (wpAny_comprehension_free (use := some (assign (.Name y py) env)) (Q := fun _ s' => Q .next s') rfl hs hclos hkind hnames
    (wpAny_mono h (fun xv s₁ h₁ => ?_) fun _ _ e => e)) (fun _ s' hq => wpAny_pure (wpAny_pure hq)) fun _ _ e => e)
  obtain ⟨y', t, news, rfl, hh, F, N, hsz, R⟩ := h₁
  refine pyIter_str' fun o St W hIo hst => ?_
  refine block_U (W A hh) hsz hIo (fun i h h' o nw st e e' _ _ _ => (W A hh).frame _ _ _ st (fun b hb o' q => by rw [List.mem_singleton.mp hb] at q ⊢; rw [e] at q; cases q; exact e')) hcell hkind hx hst (fun b hb => ?_)
      (F.keeps fun _ _ e => Heap.get?_push_of_some _ e) (N.grown fun _ _ e => Heap.get?_push_of_some _ e) (Nat.ne_of_lt F.ns.lt) (next_is_new F) (fun p hp => Nat.ne_of_lt (Heap.lt_size (N p hp).1)) trivial (R _ ⟨_, rfl⟩) ?_
  · rw [List.mem_singleton.mp hb]
    show s₁.heap.objs.size < (s₁.heap.push _).objs.size
    rw [Heap.size_push]; exact Nat.lt_succ_self _
  · intro D C h' tk m' ys news' F' N' o1 hn hC₀ hD₀ hCL hDL hCD offC fin
    show wpAny _ A (assign (.Name y py) env (.ref D)) _ _ _
    refine put_name hy hp F' N' fun h₂ tk₂ F₂ N₂ hs₂ => ⟨m', hn.sameBut hs₂ hCL, fun h'' hs'' => fin D h'' _ (F₂.change hs'' hCL hC₀) (fun p q => ⟨hs''.extBut _ _ ?_ (N₂ p q).1, (N₂ p q).2⟩) o1⟩
    rcases List.mem_cons.mp q with rfl | q
    · exact Ne.symm hCD
    · exact offC p q

theorem eq_nil {a b : Addr} {ys : List Value} {Q : Value → Shared → Prop} (ha : s.heap.IsList a ys.toArray) (hb : s.heap.IsList b #[]) (hu : A.units < cLine) (h : Q (.bool (decide (ys = []))) s) :
    wpAny (model prog w) A (compareOp .Eq (.ref a) (.ref b)) Q E s := by
  refine cmp_ofEq ?_
  cases ys with
  | nil => exact PySem.SeqAt.RcAt.lists (e := fun _ => true) ha hb rfl hu (fun j h1 _ => absurd h1 (Nat.not_lt_zero _)) prog w E Q h
  | cons y r => exact PySem.SeqAt.RcAt.lists_lengths ha hb (by simp) hu prog w E Q h
theorem ints_of : ∀ {ys : List Value}, (∀ v ∈ ys, ∃ k u, v = Value.int k u) → ∃ ns : List Int, IntsAre ys ns ∧ ns.length = ys.length
  | [], _ => ⟨[], .nil, rfl⟩
  | y :: r, h => by
    obtain ⟨a, u, rfl⟩ := h _ (.head _)
    obtain ⟨ss, h1, h2⟩ := ints_of fun v hv => h v (.tail _ hv)
    exact ⟨a :: ss, .cons a u h1, by simp [h2]⟩
theorem ne_ints_nil {a b : Addr} {ys : List Value} {Q : Value → Shared → Prop} (ha : s.heap.IsList a ys.toArray) (hb : s.heap.IsList b #[]) (hy : ∀ v ∈ ys, ∃ k u, v = Value.int k u) (hu : A.units + 64 < cLine) (h : Q (.bool (!decide (ys = []))) s) :
    wpAny (model prog w) A (compareOp .NotEq (.ref a) (.ref b)) Q E s := by
  obtain ⟨ns, h1, h2⟩ := ints_of hy
  refine ke_ne_ints (xs := ys) (ys := []) (ns := ns) (ms := []) ha hb h1 .nil hu ?_
  have e : decide (ns = []) = decide (ys = []) := by rw [decide_eq_decide, ← List.length_eq_zero_iff, ← List.length_eq_zero_iff, h2]
  rw [e]; exact h
end
end Mine
end

section
open PySem PySem.W PyProof.Rows PySem.Calls
set_option maxHeartbeats 8000000
namespace Mine
theorem sgn_at {y : Str} {i c : Nat} (h : y.cps[i]? = some c) : (signs y).getD i Str.empty = ⟨#[c]⟩ := by
  simp [signs, List.getD, h]
theorem all_of {p : Str → Bool} {y : Str} {ys : List Value} (h : ys = [] ↔ ∀ j, j < y.cps.size → (!p ((signs y).getD j Str.empty)) = false) : decide (ys = []) = (signs y).all p := by
  rw [Bool.eq_iff_iff, decide_eq_true_eq, h, List.all_eq_true]
  constructor
  · intro q a ha
    obtain ⟨j, hj, rfl⟩ := List.getElem_of_mem ha
    have := q j (by rw [signs_length] at hj; exact hj)
    simpa [List.getD, hj] using this
  · intro q j hj
    have hj' : j < (signs y).length := by rw [signs_length]; exact hj
    have := q ((signs y)[j]) (List.getElem_mem hj')
    simpa [List.getD, hj'] using this
theorem verF_if {x : Str} (h1 : (Txt.slice x none (some 2) == Str.ofString "1.") = true) (h2 : 2 < (x.length : Int)) : verF x = (signs (Txt.slice x (some 2) none)).all figure := by
  have h2' : 2 < x.length := by omega
  simp [verF, h1, h2']
theorem verF_short {x : Str} (h2 : ¬ 2 < (x.length : Int)) : verF x = decide (2 < (x.length : Int)) := by
  have h2' : ¬ 2 < x.length := by omega
  simp [verF, h2, h2']
theorem verF_other {x : Str} (h1 : (Txt.slice x none (some 2) == Str.ofString "1.") = false) : verF x = (Txt.slice x none (some 2) == Str.ofString "1.") := by
  simp [verF, h1]
@[irreducible] def nfAt (y : Str) (j : Nat) : Bool := !figure ((signs y).getD j Str.empty)
theorem nf_eq (y : Str) (j : Nat) : nfAt y j = !figure ((signs y).getD j Str.empty) := by unfold nfAt; rfl
section lver
theorem law_is_version_spec {w : World} {x : Str} {t : Tok} {news : List (Addr × Obj)} (hx : x.length ≤ 1000) :
   CallSpec w 289 [.str x t] news 1 8 (fun v nw => v = .bool (verF x) ∧ nw = news) := by
  w_top off
  k_with_none
  (k_with "m:eval ListComp" => (
  k_here
  k_dflt (refine ListComp_ST (F₀ := by k_asm) (by with_unfolding_all rfl) (by decide) (by exact rfl) (by decide) (by exact rfl) ?_)))
  (k_with "m:compareOp Eq ref ref" => (
  k_here
  k_dflt (refine eq_nil (by is_list) (by is_list) (by ktr_units) ?_)))
  unfold CallSpec
  k_fill
  intro mean mg mb dp un gd cn cs a ccd cl outer A₀ base h₀ L m s Q E B F X N T hk hd hu hret
  refine wpAny_call ?_
  k_dflt cell_enter
  k_steps
  · rename_i F1 N1 hl
    have hl' : (Txt.slice x (some 2) none).length ≤ sizeLine := by rw [sizeLine_eq]; omega
    refine ⟨_, _, _, rfl, rfl, F1, N1, hl', ?_⟩
    rintro s₂ ⟨g, rfl⟩
    refine rest_ofT (pz := fun j => nfAt (Txt.slice x (some 2) none) j) (Gv := fun _ => True) ?_ ?_ trivial ?_ _ 0 [] (Nat.zero_add _) (fun _ _ => trivial) (by simp)
    · intro i v C oC m₂ s₁ E' hi hv hC hx' F2 N2
      obtain ⟨c, u, hc, rfl⟩ := hv
      k_steps
      · have h48 : 48 ≤ (c : Int) := by assumption
        rw [nf_eq, sgn_at hc]
        show _ = !decide (48 ≤ c ∧ c ≤ 57)
        congr 1
        rw [decide_eq_decide]
        omega
      · exact ⟨_, _, rfl, fun _ _ e => e⟩
      · have h48 : ¬ 48 ≤ (c : Int) := by assumption
        rw [nf_eq, sgn_at hc]
        show _ = !decide (48 ≤ c ∧ c ≤ 57)
        congr 1
        symm
        rw [decide_eq_false_iff_not]
        omega
      · exact ⟨_, _, rfl, fun _ _ e => e⟩
    · intro i v C oC m₂ s₁ E' hv hC hx' F2 N2
      obtain ⟨c, u, hc, rfl⟩ := hv
      k_steps
      · trivial
      · exact ⟨_, _, rfl, fun _ _ e => e⟩
    · intro ys _ hys D h tk F2 N2 o1
      dsimp only
      k_steps
      rename_i kN _ _
      refine hret _ _ _ _ ⟨?_, rfl⟩ ?_ (News.perm kN fun p hp => .tail _ (.tail _ hp))
      · simp only [nf_eq] at hys
        rw [verF_if (by assumption) (by assumption), ← all_of hys]
      · assumption
  · refine hret _ _ _ _ ⟨?_, rfl⟩ ?_ ?_
    · rw [verF_short (by assumption)]
    · assumption
    · assumption
  · refine hret _ _ _ _ ⟨?_, rfl⟩ ?_ ?_
    · rw [verF_other (by assumption)]
    · assumption
    · assumption
end lver
end Mine
end

section
open PySem PySem.W PyProof.Rows PySem.Calls
set_option maxHeartbeats 8000000
namespace Mine
def cpAt (x : Str) (i : Nat) : Nat := x.cps.getD i 0
def letN (c : Nat) : Bool := decide (65 ≤ c ∧ c ≤ 90) || decide (97 ≤ c ∧ c ≤ 122)
def othN (c : Nat) : Bool := decide (48 ≤ c ∧ c ≤ 57) || decide (c = 46 ∨ c = 95 ∨ c = 45)
def IntAt (c : Nat) (v : Value) : Prop := ∃ t, v = .int c t
theorem sz_of {G : Nat → Value → Prop} {x : Str} {ys : List Value} (hx : x.length ≤ 1000) (h : RelU G x.cps.size ys) : ys.toArray.size ≤ sizeLine := by
  have : x.cps.size ≤ 1000 := hx
  rw [List.size_toArray, h.1, sizeLine_eq]; omega
theorem letN_hi {c : Nat} (h1 : 65 ≤ (c : Int)) (h2 : (c : Int) ≤ 90) : Value.bool (decide ((c : Int) ≤ 90)) = .bool (letN c) := by
  congr 1
  have : letN c = true := by simp only [letN, Bool.or_eq_true, decide_eq_true_eq]; omega
  rw [this, decide_eq_true_eq]; exact h2
theorem letN_lo {c : Nat} (h1 : 97 ≤ (c : Int)) : Value.bool (decide ((c : Int) ≤ 122)) = .bool (letN c) := by
  congr 1
  unfold letN
  rw [← Bool.decide_or, decide_eq_decide]; omega
theorem letN_no {c : Nat} (h1 : ¬ 65 ≤ (c : Int) ∨ ¬ (c : Int) ≤ 90) (h2 : ¬ 97 ≤ (c : Int)) : Value.bool (decide (97 ≤ (c : Int))) = .bool (letN c) := by
  congr 1
  unfold letN
  rw [← Bool.decide_or, decide_eq_decide]; omega
theorem oth_dec {c : Nat} {P : Prop} [Decidable P] (h : P ↔ (48 ≤ c ∧ c ≤ 57) ∨ (c = 46 ∨ c = 95 ∨ c = 45)) : Value.bool (decide P) = .bool (othN c) := by
  congr 1
  unfold othN
  rw [← Bool.decide_or, decide_eq_decide]; exact h
theorem relU_mem {G : Nat → Value → Prop} {n : Nat} {ys : List Value} (h : RelU G n ys) : ∀ v ∈ ys, ∃ i, G i v := fun v hv => by
  obtain ⟨i, hi, rfl⟩ := List.getElem_of_mem hv
  exact ⟨i, h.2 i _ (by simp [hi])⟩
theorem pos_of {G : Nat → Value → Prop} {n : Nat} {ys : List Value} (hy : ¬ ys = []) (h : RelU G n ys) : (0 : Int) < n := by
  have := h.1
  have := List.length_pos_iff.mpr hy
  omega
section
variable {prog : Program} {w : World} {A : Around} {E : Value → Shared → Prop} {s : Shared} {Q : Value → Shared → Prop}
theorem bool_item {value slice : Expr} {l : Addr} {ys : List Value} {n : Nat} {F : Nat → Bool} {k : Int} {u : Tok} (hl : s.heap.IsList l ys.toArray) (hr : RelU (fun i v => v = Value.bool (F i)) n ys) (h0 : 0 ≤ k) (h1 : k < n) (hn : n ≤ 1000)
    (hs : subscripted slice false (.ref l) (.int k u) = operate [.ref l, .int k u] (getItem (.ref l) (.int k u))) (h : Q (.bool (F k.toNat)) s) :
    wpAny (model prog w) A (subscriptTail value slice (.ref l) (.int k u)) Q E s := by
  have hlen := hr.1
  have hk : k.toNat < ys.length := by omega
  have hx : ys.toArray[k.toNat]? = some (.bool (F k.toNat)) := by
    have := hr.2 k.toNat ys[k.toNat] (by simp [hk])
    simp [hk, this]
  exact tail_any hl.typeIs slot_list_getitem.lookup (wpAny_getItem_list hl h0 (by omega) hx h) hs
theorem len_item {l : Addr} {ys : List Value} {n : Nat} {G : Nat → Value → Prop} (hl : s.heap.IsList l ys.toArray) (hr : RelU G n ys) (hn : n ≤ 1000)
    (h : Q (.int n (s.toks + 1)) { s with toks := s.toks + 1 + 1 }) : wpAny (model prog w) A (call (.builtin "len") [.ref l]) Q E s := by
  have e : (ys.toArray.size : Int) = n := by rw [List.size_toArray, hr.1]
  exact call_len_list hl (by rw [e]; omega) (by rw [e]; exact h)
end
theorem item_cp {x : Str} (h : 0 < x.cps.size) : cp (Txt.item x 0) = cpAt x 0 := by
  have h1 : Txt.charAt x 0 = x.cps[0]? := by
    unfold Txt.charAt seqIndex?
    have : 0 < x.length := h
    simp [this]
  unfold cp cpAt Txt.item
  rw [h1]
  simp [h]
theorem letter_cp (a : Str) : letter a = letN (cp a) := rfl
theorem encF_size {x : Str} (h : x.cps.size = 0) : encF x = false := by
  have : x = Str.ofString "" := by
    cases x with
    | mk c => 
      have : c = #[] := Array.eq_empty_of_size_eq_zero h
      subst this; rfl
  rw [this]; decide +kernel
theorem ne_empty {x : Str} (h : 0 < x.cps.size) : (x == Str.ofString "") = false := by
  rw [beq_eq_false_iff_ne]
  rintro rfl
  exact absurd h (by decide +kernel)
theorem encF_no {x : Str} (h : 0 < x.cps.size) (h1 : letN (cpAt x 0) = false) : encF x = false := by
  have : letter (Txt.item x 0) = false := by rw [letter_cp, item_cp h, h1]
  simp [encF, this]
theorem encS_cp (c : Nat) : encS ⟨#[c]⟩ = (letN c || othN c) := by
  show (letN c || decide (48 ≤ c ∧ c ≤ 57) || decide (c = 46 ∨ c = 95 ∨ c = 45)) = _
  unfold othN
  rw [Bool.or_assoc]
theorem encF_yes {x : Str} {ys : List Value} (h : 0 < x.cps.size) (h1 : letN (cpAt x 0) = true) (hys : ys = [] ↔ ∀ j, j < x.cps.size → (!letN (cpAt x j) && !othN (cpAt x j)) = false) : decide (ys = []) = encF x := by
  have h2 : letter (Txt.item x 0) = true := by rw [letter_cp, item_cp h, h1]
  have h3 : encF x = (signs x).all encS := by simp [encF, ne_empty h, h2]
  rw [h3, Bool.eq_iff_iff, decide_eq_true_eq, hys, List.all_eq_true]
  constructor
  · intro q a ha
    obtain ⟨j, hj, rfl⟩ := List.getElem_of_mem ha
    rw [signs_length] at hj
    have hj' : j < x.cps.size := hj
    have e : (signs x)[j] = ⟨#[cpAt x j]⟩ := by simp [signs, cpAt, hj']
    have := q j hj'
    rw [e, encS_cp]
    revert this
    cases letN (cpAt x j) <;> cases othN (cpAt x j) <;> simp
  · intro q j hj
    have hj' : j < (signs x).length := by rw [signs_length]; exact hj
    have e : (signs x)[j] = ⟨#[cpAt x j]⟩ := by simp [signs, cpAt, hj]
    have := q ((signs x)[j]) (List.getElem_mem hj')
    rw [e, encS_cp] at this
    revert this
    cases letN (cpAt x j) <;> cases othN (cpAt x j) <;> simp
theorem small_range {n : Nat} (h : n ≤ 1000) : Builtin.Range.small 0 n 1 = true := by
  refine small_one (by omega) (by omega) (by omega) (by omega)
theorem size_range {n : Nat} : Builtin.Range.rangeSize 0 n 1 = n := by
  unfold Builtin.Range.rangeSize
  simp
  try omega
section lenc
local macro_rules | `(tactic| k_all) => `(tactic| (with_reducible assumption))
def Hold8 (P : Prop) : Prop := P
theorem hold8 {P : Prop} (h : Hold8 P) : P := h
theorem unhold8 {P : Prop} (h : P) : Hold8 P := h
theorem law_is_encoding_spec {w : World} {x : Str} {t : Tok} {news : List (Addr × Obj)} (hx : x.length ≤ 1000) :
   CallSpec w 294 [.str x t] news 1 100 (fun v nw => v = .bool (encF x) ∧ nw = news) := by
  w_top off
  k_with_none
  (k_with "m:compareOp NotEq ref ref" => (
  k_here
  k_dflt (refine ne_ints_nil (by is_list) (by is_list) (by assumption) (by ktr_units) ?_)))
  (k_with "m:subscriptTail" => (
  k_here
  (with_reducible show wpAny _ _ (subscriptTail _ _ (Value.ref _) (Value.int _ _)) _ _ _)
  k_dflt (
    refine' bool_item (by is_list) (by assumption) (by omega) (by first | omega | exact pos_of (by assumption) (by assumption)) (by assumption) (by with_unfolding_all rfl) ?_)))
  (k_with "m:call builtin:len" => (
  k_here
  (with_reducible show wpAny _ _ (call (Value.builtin "len") [Value.ref _]) _ _ _)
  k_dflt (
    refine' len_item (by is_list) (by assumption) (by assumption) ?_)))
  (k_with "m:exec Assign cons ListComp" => (
  k_here
  k_dflt (refine Assign_ListComp_SU (F₀ := by k_asm) (by rfl) (by with_unfolding_all rfl) (by rfl) (by decide) (by rfl) (by decide) (by rfl) (by rfl) (by rfl) ?_)))
  (k_with "m:eval ListComp" => (
  k_here
  (with_reducible show wpAny _ _ (eval (Expr.ListComp _ [⟨_, _, [], _⟩] _ _) _) _ _ _)
  k_dflt (refine LCg.ListComp_U (F₀ := by k_asm) (by with_unfolding_all rfl) (by decide) (by rfl) (by decide) (by rfl) ?_)))
  (k_with "m:eval ListComp" => (
  (with_reducible show wpAny _ _ (eval (Expr.ListComp _ [⟨_, _, [_], _⟩] _ _) _) _ _ _)
  refine hold8 ?_))
  (k_with "m:compareOp Eq ref ref" => (
  k_here
  k_dflt (refine eq_nil (by is_list) (by is_list) (by ktr_units) ?_)))
  (k_with "m:CompSrcT" => (refine hold8 ?_))
  unfold CallSpec
  k_fill
  intro mean mg mb dp un gd cn cs a ccd cl outer A₀ base h₀ L m s Q E B F X N T hk hd hu hret
  refine wpAny_call ?_
  k_dflt (
    refine' code_defC ?k1 ?k2 ?k3 ?k4 ?k5 ?kA ?kF ?kK ?k6 ?k7 ?k8 ?k9 ?kB ?kD ?_ ?c2 ?c3 ?c4
    (case kA => exact rfl)
    (case kF => exact rfl)
    (case kK => exact hk)
    (case k1 => k_asm)
    (case k2 => k_asm)
    (case k3 => k_asm)
    (case k4 => k_asm)
    (case k5 => k_asm)
    (case k6 => k_is)
    (case k7 => k_is)
    (case k8 => ktr_room)
    (case k9 => exact BindsTo.of_eq rfl)
    (case kB => exact rfl)
    (case kD => decide +kernel)
    (case c2 => exact rfl)
    (case c3 => exact rfl)
    (case c4 => exact rfl)
    intro g' L' h' tk' cells' FG' F' N' Y' B' X' T' l1
    k_cells Y'
    (try simp only [List.cons_append, List.nil_append] at N')
    (try dsimp only)
    (try k_lift B')
    (try k_fold))
  have n1 : ∀ p ∈ news, p.1 ≠ L' + 1 := fun p hp => Nat.ne_of_lt (Nat.lt_succ_of_lt (l1 p hp))
  have n2 : ∀ p ∈ news, p.1 ≠ L' + 1 + 1 := fun p hp => Nat.ne_of_lt (Nat.lt_succ_of_lt (Nat.lt_succ_of_lt (l1 p hp)))
  k_steps
  · rename_i o1 o2 d1 d2
    refine ⟨_, _, _, rfl, rfl, F', N', by show x.length ≤ sizeLine; rw [sizeLine_eq]; omega, ?_⟩
    rintro s₂ ⟨g, rfl⟩
    refine rest_of (G := fun i v => IntAt (cpAt x i) v) ?_ trivial ?_ _ 0 [] (Nat.zero_add _) ⟨rfl, by simp⟩
    · intro i v C oC m₂ s₁ E' hv hC hx' F2 N2
      obtain ⟨c, u, hc, rfl⟩ := hv
      k_steps
      · exact ⟨_, by rw [cpAt, Array.getD_eq_getD_getElem?, hc]; rfl⟩
      · exact keeps_tk _ _
    · intro codes hcodes D h tk F2 N2 off
      dsimp only
      k_steps
      refine LCg.CompSrc.ledger rfl F2 N2 (.head _) (sz_of hx hcodes) ?_
      intro g2
      refine rest_of (G := fun i v => v = .bool (letN (cpAt x i))) ?_ (.inr ⟨_, .head _, rfl, _, rfl⟩) ?_ _ 0 [] (Nat.zero_add _) ⟨rfl, by simp⟩
      · intro i v C oC m₂ s₁ E' hv hC hx' F3 N3
        obtain ⟨t1, rfl⟩ := hcodes.2 i v (by simpa using hv)
        k_steps
        · exact letN_hi (by assumption) (by assumption)
        · exact keeps_tk _ _
        · exact letN_lo (by assumption)
        · exact keeps_tk _ _
        · exact letN_no (.inr (by assumption)) (by assumption)
        · exact keeps_tk _ _
        · exact letN_no (.inl (by assumption)) (by omega)
        · exact keeps_tk _ _
      · intro letters hletters D2 h tk F3 N3 off3
        simp only [LCg.Off1] at off off3
        obtain ⟨q1, q2, _⟩ := off
        obtain ⟨q3, q4, q5, _⟩ := off3
        dsimp only
        k_steps
        refine LCg.CompSrc.ledger rfl (by k_asm) (by k_asm) (by k_mem) (sz_of hx hcodes) ?_
        intro g3
        refine rest_of (G := fun i v => v = .bool (othN (cpAt x i))) ?_ (.inr ⟨_, .tail _ (.head _), rfl, _, rfl⟩) ?_ _ 0 [] (Nat.zero_add _) ⟨rfl, by simp⟩
        · intro i v C oC m₂ s₁ E' hv hC hx' F5 N5
          obtain ⟨t1, rfl⟩ := hcodes.2 i v (by simpa using hv)
          k_steps
          · exact oth_dec (by omega)
          · exact keeps_tk _ _
          · exact oth_dec (P := (cpAt x i : Int) = 46) (by omega)
          · exact keeps_tk _ _
          · exact oth_dec (P := (cpAt x i : Int) = 95) (by omega)
          · exact keeps_tk _ _
          · exact oth_dec (P := (cpAt x i : Int) = 45) (by omega)
          · exact keeps_tk _ _
          · exact oth_dec (P := (cpAt x i : Int) = 46) (by omega)
          · exact keeps_tk _ _
          · exact oth_dec (P := (cpAt x i : Int) = 95) (by omega)
          · exact keeps_tk _ _
          · exact oth_dec (P := (cpAt x i : Int) = 45) (by omega)
          · exact keeps_tk _ _
        · intro others hothers D3 h5 tk5 F5 N5 off5
          simp only [LCg.Off1] at off5
          obtain ⟨q6, q7, q8, q9, _⟩ := off5
          have hn : x.cps.size ≤ 1000 := hx
          have hsz : codes.toArray.size = x.cps.size := by rw [List.size_toArray, hcodes.1]
          rw [hsz] at hletters hothers
          have hci : ∀ v ∈ codes, ∃ k u, v = Value.int k u := fun v hv => by
            obtain ⟨i, t, rfl⟩ := relU_mem hcodes v hv
            exact ⟨_, _, rfl⟩
          dsimp only
          k_steps
          · have hc0 : codes = [] := by assumption
            have hz : x.cps.size = 0 := by rw [← hsz, hc0]; rfl
            rename_i kN _ _
            refine hret _ _ _ _ ⟨?_, rfl⟩ ?_ (News.perm kN fun p hp => by simp [hp])
            · rw [encF_size hz, hc0]; rfl
            · assumption
          · refine unhold8 ?_
            refine' LCt.ListComp_T ?F0 ?a ?b ?c ?d ?e ?f ?g
            (case F0 => k_asm)
            (case a => with_unfolding_all rfl)
            (case b => decide)
            (case c => rfl)
            (case d => decide)
            (case e => rfl)
            (case g => intro _; rfl)
            k_steps
            refine unhold8 ?_
            refine LCt.CompSrcT.range rfl (by k_asm) (by k_asm) (by assumption) (n := x.cps.size) ?r1 ?r2 ?r3 ?_
            (case r1 => exact small_range hn)
            (case r2 => exact size_range)
            (case r3 => rw [sizeLine_eq]; omega)
            intro g4
            refine rest_ofT (pz := fun j => !letN (cpAt x j) && !othN (cpAt x j)) (Gv := fun v => True) ?_ ?_ trivial ?_ _ 0 [] (Nat.zero_add _) (fun _ _ => trivial) (by simp)
            · intro i v C oC m₂ s₁ E' hi hv hC hx' F6 N6
              obtain ⟨t6, rfl⟩ := hv
              have e6 : ((0 : Int) + (i : Int)).toNat = i := by omega
              k_steps
              · have h1 : letN (cpAt x ((0 : Int) + (i : Int)).toNat) = true := by assumption
                rw [e6] at h1
                simp [h1]
              · exact keeps_refl _
              · have h1 : othN (cpAt x ((0 : Int) + (i : Int)).toNat) = true := by assumption
                rw [e6] at h1
                simp [h1]
              · exact keeps_refl _
              · have h1 : othN (cpAt x ((0 : Int) + (i : Int)).toNat) = false := by assumption
                have h2 : letN (cpAt x ((0 : Int) + (i : Int)).toNat) = false := by assumption
                rw [e6] at h1 h2
                simp [h1, h2]
              · exact keeps_refl _
            · intro i v C oC m₂ s₁ E' hv hC hx' F6 N6
              obtain ⟨t6, rfl⟩ := hv
              k_steps
              · trivial
              · exact keeps_refl _
            · intro ys _ hys D6 h6 tk6 F6 N6 off6
              dsimp only
              k_steps
              have hc0 : ¬ codes = [] := by assumption
              have hz := pos_of hc0 hcodes
              have hl : letN (cpAt x (Int.toNat 0)) = true := by assumption
              rename_i kN _ _
              refine hret _ _ _ _ ⟨?_, rfl⟩ ?_ (News.perm kN fun p hp => by simp [hp])
              · rw [encF_yes (by omega) hl hys]
              · assumption
          · have hc0 : ¬ codes = [] := by assumption
            have hz := pos_of hc0 hcodes
            have hl : letN (cpAt x (Int.toNat 0)) = false := by assumption
            rename_i kN _ _
            refine hret _ _ _ _ ⟨?_, rfl⟩ ?_ (News.perm kN fun p hp => by simp [hp])
            · rw [encF_no (by omega) hl, hl]
            · assumption
end lenc
end Mine
end

section
open PySem PySem.W PyProof.Rows PySem.Calls
set_option maxHeartbeats 4000000
namespace Mine
def isSp (c : Nat) : Bool := decide (c = 32 ∨ c = 9 ∨ c = 10 ∨ c = 13)
def cpN (x : Str) (i : Nat) : Nat := x.cps.getD i 0
theorem occ_sp (c : Nat) : (Builtin.Str.occurrences (Str.ofString " \t\n\r") ⟨#[c]⟩ 0 (Str.ofString " \t\n\r").length 1).isEmpty = !isSp c := by
  rw [in_of (show _ = [32, 9, 10, 13] by decide +kernel)]
  show (!decide _) = !decide (c = 32 ∨ c = 9 ∨ c = 10 ∨ c = 13)
  congr 1
  rw [decide_eq_decide]
  simp only [List.mem_cons, List.not_mem_nil, or_false]
local macro_rules | `(tactic| k_all) => `(tactic| (with_reducible assumption))
local macro_rules | `(tactic| k_room) => `(tactic| ktr_room)
theorem is_space_spec {w : World} {c : Nat} {t : Tok} {news : List (Addr × Obj)} :
   CallSpec w 80 [.str ⟨#[c]⟩ t] news 1 8 (fun v nw => v = .bool (isSp c) ∧ nw = news) := by
  w_top off
  k_with_none
  unfold CallSpec
  k_fill
  intro mean mg mb dp un gd cn cs a ccd cl outer A₀ base h₀ L m s Q E B F X N T hk hd hu hret
  refine wpAny_call ?_
  k_dflt cell_enter
  k_steps
  · have h1 : (Builtin.Str.occurrences (Str.ofString " \t\n\r") ⟨#[c]⟩ 0 (Str.ofString " \t\n\r").length 1).isEmpty = true := by assumption
    refine hret _ _ _ _ ⟨?_, rfl⟩ ?_ ?_
    · rw [occ_sp]; rw [occ_sp] at h1; simp at h1; simp [h1]
    · assumption
    · assumption
  · have h1 : (Builtin.Str.occurrences (Str.ofString " \t\n\r") ⟨#[c]⟩ 0 (Str.ofString " \t\n\r").length 1).isEmpty = false := by assumption
    refine hret _ _ _ _ ⟨?_, rfl⟩ ?_ ?_
    · rw [occ_sp] at h1; simp at h1
      rw [h1]
      rfl
    · assumption
    · assumption
/-- where the spaces from k on end -/
def SpEnd (x : Str) (k k' : Nat) : Prop := k ≤ k' ∧ k' ≤ x.cps.size ∧ (∀ j, k ≤ j → j < k' → isSp (cpN x j) = true) ∧ (k' < x.cps.size → isSp (cpN x k') = false)
abbrev curD (w : World) (x : Str) (t : Tok) (k : Int) (tk k1 k2 : Tok) : Obj := dictOf [⟨PyData.keyHash w.params (Str.ofString "text"), .str (Str.ofString "text") k1, .str x t⟩, ⟨PyData.keyHash w.params (Str.ofString "at"), .str (Str.ofString "at") k2, .int k tk⟩] 2
theorem sign_item {prog : Program} {w : World} {A : Around} {E : Value → Shared → Prop} {s : Shared} {Q : Value → Shared → Prop} {value slice : Expr} {x : Str} {t : Tok} {k : Nat} {u : Tok} (hk : (k : Int) < x.length) (hx : x.length ≤ 1000)
    (h : Q (.str ⟨#[cpN x k]⟩ s.toks) { s with toks := s.toks + 1 })
    (hs : subscripted slice false (.str x t) (.int k u) = operate [.str x t, .int k u] (getItem (.str x t) (.int k u)) := by with_unfolding_all rfl) :
    wpAny (model prog w) A (subscriptTail value slice (.str x t) (.int k u)) Q E s := by
  have hk' : k < x.cps.size := by have : (k : Int) < (x.cps.size : Int) := hk; omega
  have e : Txt.item x k = ⟨#[cpN x k]⟩ := by
    rw [item_meets (n := cpN x k) (by omega)]
    simp [cpN, hk']
  refine tail_any (typeIs_str s x t) F.slot_str_getitem.lookup (SB.getItem (fitsSsize_of (N := 9223372036854775808) (by omega) (by omega) (Int.le_refl _)) (charAt_isSome (by omega) hk) ?_) hs
  rw [e]; exact h
def Hold (P : Prop) : Prop := P
theorem hold {P : Prop} (h : Hold P) : P := h
theorem unhold {P : Prop} (h : P) : Hold P := h
section
theorem spaces_core {w : World} {x : Str} {t : Tok} {k : Nat} {tk k1 k2 : Tok} {cx dx : Addr} {rest : List (Addr × Obj)} (hne : ∀ p ∈ rest, p.1 ≠ dx) (hc : cx ≠ dx) (hx : x.length ≤ 1000) (hk0 : k ≤ x.cps.size) :
   CallSpec w 228 [.ref cx] ((dx, curD w x t k tk k1 k2) :: (cx, instObj 259 dx) :: rest) 3 30
    (fun v nw => ∃ k' tk', SpEnd x k k' ∧ (∃ i u, v = .int i u) ∧ nw = (dx, curD w x t k' tk' k1 k2) :: (cx, instObj 259 dx) :: rest) := by
  w_top off
  k_with_none
  (k_with "m:exec While" => (refine hold ?_))
  (k_with "m:WhileStep2" => (refine hold ?_))
  (k_with "m:call ref" => (
  k_here
  (with_reducible show wpAny _ _ (call (Value.ref _) [Value.str _ _]) _ _ _)
  k_dflt (refine' CallSpec.go (S := is_space_spec) (h := ?_); intro v9 nw9 h9 tk9 ⟨e9, f9⟩ F9 N9; subst e9; subst f9)))
  (k_with "m:subscriptTail" => (
  k_here
  (with_reducible show wpAny _ _ (subscriptTail _ _ (Value.str _ _) (Value.int _ _)) _ _ _)
  k_dflt (
    refine' sign_item ?a ?b ?_ ?z
    (case a => assumption)
    (case b => assumption)
    (case z => with_unfolding_all rfl))))
  unfold CallSpec
  k_fill
  intro mean mg mb dp un gd cn cs a ccd cl outer A₀ base h₀ L m s Q E B F X N T hk hd hu hret
  refine wpAny_call ?_
  k_dflt cell_enter
  k_steps
  refine unhold ?_
  k_dflt (
    rename Fr _ _ _ _ => F1
    rename News _ _ _ _ => N1
    refine While_inv2 (fun n m' nx => ∃ (k' : Nat) (tk' : Tok), n = x.cps.size - k' ∧ nx = (dx, curD w x t k' tk' k1 k2) :: (cx, instObj 259 dx) :: rest ∧ m' = _ ∧ k ≤ k' ∧ k' ≤ x.cps.size ∧ (∀ j, k ≤ j → j < k' → isSp (cpN x j) = true)) F1 N1 ⟨k, _, rfl, rfl, rfl, Nat.le_refl _, hk0, fun j h1 h2 => absurd h1 (by omega)⟩ ?_)
  rintro n m₁ nx h₂ tk₂ F2 N2 ⟨k', tk', rfl, rfl, rfl, hk1, hk2, hsp⟩
  have hx' : x.length = x.cps.size := rfl
  k_steps
  · refine unhold ?_
    have hlt : (k' : Int) < x.length := by assumption
    have hsp' : isSp (cpN x k') = true := by assumption
    rename_i h7 F7 N7
    refine ⟨_, _, _, _, x.cps.size - (k' + 1), rfl, F7, N7, by omega, k' + 1, _, rfl, rfl, rfl, by omega, by omega, fun j h1 h2 => ?_⟩
    by_cases e : j = k'
    · rw [e]; exact hsp'
    · exact hsp j h1 (by omega)
  · have hlt : (k' : Int) < x.length := by assumption
    have hsp' : isSp (cpN x k') = false := by assumption
    refine hret _ _ _ _ ⟨k', tk', ⟨hk1, hk2, hsp, fun _ => hsp'⟩, ⟨_, _, rfl⟩, rfl⟩ ?_ ?_ <;> assumption
  · have hlt : ¬ (k' : Int) < x.length := by assumption
    refine hret _ _ _ _ ⟨k', tk', ⟨hk1, hk2, hsp, fun q => absurd q (by omega)⟩, ⟨_, _, rfl⟩, rfl⟩ ?_ ?_ <;> assumption
end
end Mine
end

section
open PySem PySem.W PyProof.Rows PySem.Calls
set_option maxHeartbeats 2000000
namespace Mine
abbrev xObj (t : Addr) (od : Option Addr) : Obj := { cls := .ref 139, dict := od, data := .fields #[.ref t, .none, .none, .none, .bool false, .none] }
abbrev tupObj (vs : List Value) : Obj := { cls := .type "tuple", data := .seq vs.toArray }
abbrev MX (w : World) : Model := model PySem.Challenge.rw_xm0661_01.row.prog w
section
variable {w : World} {A : Around} {h : Heap} {g : Array GenState} {d : Drawn} {tk : Nat} {os : OsState} {R : Result → Shared → Prop} {msg : Str} {t u : Tok} {k : Int}
theorem exc_new (X : (hd.heap_39 w.params).In h) (hq : R (.ok (.ret (.ref (h.objs.size + 1)))) ⟨(h.push (tupObj [.str msg t, .int k u])).push (xObj h.objs.size none), g, d, tk, os⟩) :
    codeAny (MX w) A (.call (.builtin "Exception.__new__") ⟨[.ref 139, .str msg t, .int k u], []⟩) R ⟨h, g, d, tk, os⟩ := by
  have F := PySem.F.excBase_Exception
  have L1 : Looks (MX w) h (checkBuiltinCall "Exception.__new__" ⟨[.ref 139, .str msg t, .int k u], []⟩) () := Looks.of_peek X (by kernel_rfl)
  refine codeAny_call_builtin_code (Code.quiet_builtin _ F.quiet) (L1.at ?_)
  refine codeAny_builtinAt F.entry ?_
  unfold Builtin.«BaseException.__new__»
  refine PySem.wpAt_bind ?_
  show PySem.wpAt _ _ _ (stack >>= _) _ _ _
  refine PySem.wpAt_bind (PySem.wpAt_stack fun p below => PySem.wpAt_of_wpAny ?_)
  dsimp only
  rw [if_pos F.ends]
  refine wpAny_pure (PySem.wpAt_of_wpAny ?_)
  rw [F.owner]
  have L2 : Looks (MX w) h (isType (.ref 139)) true := Looks.of_peek X (by kernel_rfl)
  have L3 : Looks (MX w) h (isSubtype (.ref 139) (.type "Exception")) true := Looks.of_peek X (by kernel_rfl)
  have L4 : Looks (MX w) h (Bind.madeHere "BaseException.__new__" (.ref 139)) () := Looks.of_peek X (by kernel_rfl)
  have L5 : Looks (MX w) h (isSubtype (.ref 139) (.type "AttributeError")) false := Looks.of_peek X (by kernel_rfl)
  have L6 : Looks (MX w) h (isSubtype (.ref 139) (.type "NameError")) false := Looks.of_peek X (by kernel_rfl)
  have L7 : Looks (MX w) h (classHasDel 139) false := Looks.of_peek X (by kernel_rfl)
  have L8 : ∀ o1 o2, Looks (MX w) ((h.push o1).push o2) (classHasDel 139) false := fun o1 o2 => L7.keeps fun b o e => Heap.get?_push_of_some _ (Heap.get?_push_of_some _ e)
  repeat (first | with_reducible refine Looks.at (by assumption) ?_ | with_reducible refine Looks.at (L8 _ _) ?_ | wp_step)
  show R _ _
  rw [Heap.size_push]
  exact hq
theorem exc_make (X : (hd.heap_39 w.params).In h)
   (hq : codeAny (MX w) (A.under (.builtin "type.__call__" ⟨[.ref 139, .str msg t, .int k u], []⟩)) (.call (.ref 136) ⟨[.ref (h.objs.size + 1), .str msg t, .int k u], []⟩) (InitBack (h.objs.size + 1) R) ⟨(h.push (tupObj [.str msg t, .int k u])).push (xObj h.objs.size none), g, d, tk, os⟩) :
    codeAny (MX w) A (.call (.ref 139) ⟨[.str msg t, .int k u], []⟩) R ⟨h, g, d, tk, os⟩ := by
  obtain ⟨nm, qn, N, bs, bm, hdct, sn, sub, ab, col, dd, k0, k1, k2, k3, k5, newId, hC, -, -⟩ := kts_cls (C := 139) (T := "Exception") X (by kernel_rfl)
  have call : Looks (MX w) h (specialOf (.ref 139) "__call__") (some (.builtin "type.__call__")) := Looks.of_peek X (by kernel_rfl)
  have typ : Looks (MX w) h (isInstance (.ref 139) (.type "type")) true := Looks.of_peek X (by kernel_rfl)
  have made : Looks (MX w) h (Bind.madeBy (.ref 139)) (some "Exception.__new__") := Looks.of_peek X (by kernel_rfl)
  refine codeAny_of_tree ?_
  show wpAny _ _ (callAny (.ref 139) _) _ _ _
  refine nd_load hC ?_
  show wpAny _ _ (callAny.viaDunder (.ref 139) _) _ _ _
  unfold callAny.viaDunder
  refine wpAny_bind (call.at ?_)
  dsimp only
  rw [tc_bind]
  refine wpAny_bind (wpAny_pure (wpAny_bind (wpAny_pure ?_)))
  refine wpAny_pure (a := PySem.Fin.again (.call (.builtin "type.__call__") ⟨[.ref 139, .str msg t, .int k u], []⟩)) (And.intro rfl ?_)
  refine codeAny_call_builtin_at (Code.quiet_builtin _ (by decide +kernel)) entry_typeCall (check_slot tc_kind tc_split typ (tc_args _ _ _) ?_)
  unfold Builtin.«type.__call__»
  have hm : Looks (MX w) h (mroOf (.ref 139)) (.ref 139 :: bm) := ((Looks.ld (part := none) hC).andThen .now).andThen .now
  repeat (first | simp only [List.isEmpty_cons, Bool.false_eq_true, if_false] | with_reducible refine wpAny_call ?_ | lk)
  refine exc_new X ?_
  have kp : ∀ b o, h.get? b = some o → ((h.push (tupObj [.str msg t, .int k u])).push (xObj h.objs.size none)).get? b = some o := fun b o e => Heap.get?_push_of_some _ (Heap.get?_push_of_some _ e)
  have hx : ((h.push (tupObj [.str msg t, .int k u])).push (xObj h.objs.size none)).get? (h.objs.size + 1) = some (xObj h.objs.size none) := by heap_get
  have t1 : Looks (MX w) ((h.push (tupObj [.str msg t, .int k u])).push (xObj h.objs.size none)) (typeOf (.ref (h.objs.size + 1))) (.ref 139) := (Looks.ld hx).andThen .now
  have s1 : Looks (MX w) ((h.push (tupObj [.str msg t, .int k u])).push (xObj h.objs.size none)) (isSubtype (.ref 139) (.ref 139)) true := Looks.keeps (Looks.of_peek X (by kernel_rfl)) kp
  have i1 : Looks (MX w) ((h.push (tupObj [.str msg t, .int k u])).push (xObj h.objs.size none)) (typeLookup (.ref 139) "__init__") (some (.ref 136)) := Looks.keeps (Looks.of_peek X (by kernel_rfl)) kp
  have b1 : Looks (MX w) ((h.push (tupObj [.str msg t, .int k u])).push (xObj h.objs.size none)) (bindSpecial (.ref 136) (.ref (h.objs.size + 1))) (.ref 136, [.ref (h.objs.size + 1)]) := (bind_fn X (f := 136) _ (by kernel_rfl)).keeps kp
  unfold isInstance callSpecial? specialOf
  repeat (first | with_reducible refine wpAny_call ?_ | lk)
  refine codeAny_mono hq fun r s' z => ?_
  rcases r with e | (v | _ | _ | _) <;> first | exact z | exact z.elim | skip
  obtain ⟨rfl, z⟩ := z
  exact wpAny_pure (wpAny_pure z)
end
end Mine
end

section
open PySem PySem.W PyProof.Rows PySem.Calls PySem.Builtin.ObjectAttr
set_option maxHeartbeats 2000000
namespace Mine
section
variable {w : World} {A : Around} {s : Shared} {h₀ : Heap} {L e : Addr} {m : Str → Option Value} {rest : List (Addr × Obj)} {E : Value → Shared → Prop} {t0 : Addr} {od : Option Addr} {msg : Str} {t : Tok}
theorem typ_x {h : Heap} (he : h.get? e = some (xObj t0 od)) : Looks (MX w) h (typeOf (.ref e)) (.ref 139) := (Looks.ld he).andThen .now
theorem exc_init {Q : Value → Shared → Prop} (F : Fr h₀ L s.heap m) (N : News h₀ L s.heap ((e, xObj t0 od) :: rest)) (X₀ : (hd.heap_39 w.params).In h₀) (hne : ∀ p ∈ rest, p.1 ≠ e)
   (h : ∀ h' t', Fr h₀ L h' m → News h₀ L h' ((e, xObj t' od) :: rest) → Q .none { s with heap := h' }) :
    wpAny (MX w) A (call (.builtin "Exception.__init__") [.ref e, .str msg t]) Q E s := by
  have X := X₀.keeps F.keep
  obtain ⟨hh, g, d, tk, os⟩ := s
  have he := (N _ (.head _)).1
  have sub : Looks (MX w) hh (isInstance (.ref e) (.type "Exception")) true := (typ_x he).andThen (Looks.of_peek X (by kernel_rfl))
  have FE := PySem.F.excBase_Exception
  have N1 := N.push F (tupObj [.str msg t])
  have F1 := F.push (tupObj [.str msg t])
  dsimp only at he F N F1 N1
  have nsz : hh.objs.size ≠ e := Nat.ne_of_gt (Heap.lt_size he)
  obtain ⟨F2, N2⟩ := news_upd (pre := [(hh.objs.size, tupObj [.str msg t])]) (post := rest) (f := Obj.mapFields (·.setIfInBounds 0 (.ref hh.objs.size))) (o' := xObj hh.objs.size od) F1 N1 (fun p hp => by rw [List.mem_singleton.mp hp]; exact nsz) hne rfl rfl
  have he1 : (hh.push (tupObj [.str msg t])).get? e = some (xObj t0 od) := Heap.get?_push_of_some _ he
  refine wpAny_call (codeAny_call_builtin_code (Code.quiet_builtin _ (by decide +kernel)) ?_)
  have hstar := FE.noStar
  obtain ⟨nm, qn, N9, bs, bm, hdct, sn, sub9, ab, col, dd, k0, k1, k2, k3, k5, newId, hC, -, -⟩ := kts_cls (C := 139) (T := "Exception") X (by kernel_rfl)
  dsimp only at hC
  simp only [checkBuiltinCall, FE.initKind, FE.initSplit, FE.initRow]
  repeat (first | with_reducible refine Looks.at sub ?_ | with_reducible refine wpAny_loadPart_at hC ?_ | wp_step)
  refine codeAny_builtinAt FE.initEntry ?_
  unfold Builtin.«BaseException.__init__» Builtin.BaseException.bexcPut
  refine PySem.wpAt_of_wpAny ?_
  repeat (first | with_reducible refine wpAny_field he1 rfl rfl ?_ | with_reducible refine wpAny_setField he1 rfl (by decide) ?_ | wp_step)
  exact h _ _ F2 (News.perm N2 fun p hp => List.mem_append_right _ hp)
theorem store_open {n : Str} {tk : Tok} {v : Value} {R : Result → Shared → Prop} (X : (hd.heap_39 w.params).In s.heap) (he : s.heap.get? e = some (xObj t0 od))
   (hl : ∀ h, (hd.heap_39 w.params).In h → Looks (MX w) h (typeLookup (.ref 139) n) none)
   (h : wpAny (MX w) A.in1 (storeInOwnDict (.ref e) (.ref 139) (.str n tk) n v false)
      (fun fin s' => match fin with | .done f => R (.ok f) s' | .again c' => c'.quiet = true ∧ codeAny (MX w) A c' R s') (fun e s' => R (.error e) s') s) :
    codeAny (MX w) A (.call (.builtin "object.__setattr__") ⟨[.ref e, .str n tk, v], []⟩) R s := by
  have SF := PySem.F.store_object
  have sub : Looks (MX w) s.heap (isInstance (.ref e) (.type "object")) true := (typ_x he).andThen (Looks.of_peek X (by kernel_rfl))
  refine codeAny_call_builtin SF.slot.plain SF.entry (@check_slot (MX w) _ _ s "object.__setattr__" "object" "__setattr__" (.ref e) [.str n tk, v] [] _ SF.kind SF.split sub (SF.args (.ref e) (.str n tk) v) ?_)
  rw [osa_eq]
  have L1 : Looks (MX w) s.heap (refuseIfOverridden (.ref e) "__setattr__") () := by
    rw [refuse_eq]
    exact (typ_x he).andThen (Looks.of_peek X (by kernel_rfl))
  exact wpAny_bind (L1.here (wpAny_bind ((typ_x he).here (wpAny_bind ((hl _ X).here h)))))
theorem set_x {n : Str} {v : Value} {Q : Unit → Shared → Prop} (X : (hd.heap_39 w.params).In s.heap) (he : s.heap.get? e = some (xObj t0 od))
    (h : codeAny (MX w) A (.call (.builtin "object.__setattr__") ⟨[.ref e, .str n s.toks, v], []⟩) (fun r s' => match r with | .ok (.ret _) => Q () s' | .ok _ => False | .error e => E e s') { s with toks := s.toks + 1 }) :
    wpAny (MX w) A (setAttr (.ref e) n v) Q E s := by
  have L2 : Looks (MX w) s.heap (typeLookup (.ref 139) "__setattr__") (some (.builtin "object.__setattr__")) := Looks.of_peek X (by kernel_rfl)
  refine wpAny_bind (wpAny_mkText (wpAny_bind (wpAny_bind (wpAny_bind ((typ_x he) _ _ _ _ (fun _ _ e => e) (L2 _ _ _ _ (fun _ _ e => e) (wpAny_holding ?_)))))))
  rw [PySem.F.store_object.slot.bind]
  refine wpAny_bind (wpAny_pure (wpAny_bind (wpAny_call (codeAny_mono h fun r s' z => ?_))))
  rcases r with e | (v | _ | _ | _) <;> first | exact z | exact wpAny_pure (wpAny_pure z)
theorem store_new {n : Str} {v : Value} {Q : Unit → Shared → Prop} (F : Fr h₀ L s.heap m) (N : News h₀ L s.heap ((e, xObj t0 none) :: rest)) (X₀ : (hd.heap_39 w.params).In h₀) (hne : ∀ p ∈ rest, p.1 ≠ e)
   (hl : ∀ h, (hd.heap_39 w.params).In h → Looks (MX w) h (typeLookup (.ref 139) n) none)
   (h : ∀ h' de k1, Fr h₀ L h' m → News h₀ L h' ((de, dictOf [⟨PyData.keyHash w.params n, .str n k1, v⟩] 1) :: (e, xObj t0 (some de)) :: rest) → (∀ p ∈ (e, xObj t0 (some de)) :: rest, p.1 ≠ de) → Q () { s with heap := h', toks := s.toks + 2 }) :
    wpAny (MX w) A (setAttr (.ref e) n v) Q E s := by
  have X := X₀.keeps F.keep
  obtain ⟨hh, g, d, tk, os⟩ := s
  have he := (N _ (.head _)).1
  have N1 := N.push F emptyDict
  have F1 := F.push emptyDict
  dsimp only at he F N F1 N1 X
  have lt : ∀ p ∈ (e, xObj t0 none) :: rest, p.1 < hh.objs.size := fun p hp => Heap.lt_size (N p hp).1
  have nsz : hh.objs.size ≠ e := Nat.ne_of_gt (Heap.lt_size he)
  obtain ⟨F2, N2⟩ := news_upd (pre := [(hh.objs.size, emptyDict)]) (post := rest) (f := fun o => { o with dict := some hh.objs.size }) (o' := xObj t0 (some hh.objs.size)) F1 N1 (fun p hp => by rw [List.mem_singleton.mp hp]; exact nsz) hne rfl rfl
  have D2 := (N2 _ (.head _)).1
  have ne2 : ∀ p ∈ (e, xObj t0 (some hh.objs.size)) :: rest, p.1 ≠ hh.objs.size := fun p hp => by
    rcases List.mem_cons.mp hp with rfl | hp
    · exact Ne.symm nsz
    · exact Nat.ne_of_lt (lt p (.tail _ hp))
  obtain ⟨F3, N3⟩ := news_upd (pre := []) (post := (e, xObj t0 (some hh.objs.size)) :: rest) (f := Obj.putName n (PyData.keyHash w.params n) (.str n (tk + 1)) v) (o' := dictOf [⟨PyData.keyHash w.params n, .str n (tk + 1), v⟩] 1) F2 N2 (fun p hp => by cases hp)
    ne2 (by exact putName_dict n _ _ v [] 0) rfl
  have D3 := (N3 _ (.head _)).1
  have LC : Looks (MX w) hh (do return (← classData 139).hasDict) true := Looks.of_peek X (by kernel_rfl)
  refine set_x X he (store_open X he hl ?_)
  have he1 : (hh.push emptyDict).get? e = some (xObj t0 none) := Heap.get?_push_of_some _ he
  obtain ⟨cd, hc, hd'⟩ := any_some (show (clsIn (hd.heap_39 w.params) 139).any (·.hasDict) = true from by kernel_rfl)
  refine wpAny_bind (wpAny_pure (wpAny_bind (wpAny_bind (wpAny_loadPart he ?_))))
  dsimp only
  refine wpAny_bind ((looks_clsIn X hc).here ?_)
  rw [hd']
  refine wpAny_bind (wpAny_alloc ?_)
  refine wpAny_bind (wpAny_update he1 ?_)
  refine wpAny_pure (a := some hh.objs.size) (wpAny_bind ?_)
  unfold newKeyGuard
  refine wpAny_pure (wpAny_bind ?_)
  unfold nsSet
  refine wpAny_bind (wpAny_bind (wpAny_askSetting (wpAny_pure (wpAny_bind (wpAny_mkText (wpAny_bind (wpAny_loadPart D2 ?_)))))))
  dsimp only
  refine wpAny_updatePart D2 ?_
  refine wpAny_bind (wpAny_lookBehind D3 (pastItsLine_dict (by rw [List.size_toArray, sizeLine_eq]; simp)) ?_)
  exact wpAny_pure (h _ _ _ F3 N3 ne2)
theorem store_old {de : Addr} {es : List DictEntry} {n : Str} {c : Nat} {v : Value} {Q : Unit → Shared → Prop} {pre post : List (Addr × Obj)} (F : Fr h₀ L s.heap m) (N : News h₀ L s.heap (pre ++ (de, dictOf es c) :: post)) (X₀ : (hd.heap_39 w.params).In h₀) (h1 : ∀ p ∈ pre, p.1 ≠ de) (h2 : ∀ p ∈ post, p.1 ≠ de)
   (he' : (e, xObj t0 (some de)) ∈ pre ++ post)
   (hl : ∀ h, (hd.heap_39 w.params).In h → Looks (MX w) h (typeLookup (.ref 139) n) none) (hr : es.any (·.refKey) = false) (hz : (putL n (PyData.keyHash w.params n) (.str n (s.toks + 1)) v es).length ≤ 1000)
   (h : ∀ h', Fr h₀ L h' m → News h₀ L h' (pre ++ (de, dictOf (putL n (PyData.keyHash w.params n) (.str n (s.toks + 1)) v es) (putN n es c)) :: post) → Q () { s with heap := h', toks := s.toks + 2 }) :
    wpAny (MX w) A (setAttr (.ref e) n v) Q E s := by
  have X := X₀.keeps F.keep
  obtain ⟨hh, g, d, tk, os⟩ := s
  have he := (N (e, xObj t0 (some de)) (by rcases List.mem_append.mp he' with z | z <;> simp [z])).1
  have D2 := (N (de, dictOf es c) (by simp)).1
  dsimp only at he F N X
  obtain ⟨F3, N3⟩ := news_upd (f := Obj.putName n (PyData.keyHash w.params n) (.str n (tk + 1)) v) (o' := dictOf (putL n (PyData.keyHash w.params n) (.str n (tk + 1)) v es) (putN n es c)) F N h1 h2 (by exact putName_dict n _ _ v es c) rfl
  have D3 := (N3 (de, dictOf (putL n (PyData.keyHash w.params n) (.str n (tk + 1)) v es) (putN n es c)) (by simp)).1
  refine set_x X he (store_open X he hl ?_)
  unfold storeInOwnDict ownStreamTells ownDictForStores instanceDict
  obtain ⟨cd, hc, hd'⟩ := any_some (show (clsIn (hd.heap_39 w.params) 139).any (·.hasDict) = true from by kernel_rfl)
  refine wpAny_bind (wpAny_pure (wpAny_bind (wpAny_bind (wpAny_loadPart he ?_))))
  dsimp only
  refine wpAny_bind ((looks_clsIn X hc).here ?_)
  rw [hd']
  refine wpAny_pure (a := some de) (wpAny_bind ?_)
  unfold newKeyGuard
  refine wpAny_pure (wpAny_bind ?_)
  unfold nsSet
  refine wpAny_bind (wpAny_bind (wpAny_askSetting (wpAny_pure (wpAny_bind (wpAny_mkText (wpAny_bind (wpAny_loadPart D2 ?_)))))))
  dsimp only
  rw [aRefKeyMayBeTheName_at, show es.toArray.any (·.refKey) = false from by rw [← Array.any_toList]; exact hr, Bool.and_false]
  refine wpAny_updatePart D2 ?_
  refine wpAny_bind (wpAny_lookBehind D3 (pastItsLine_dict (by rw [List.size_toArray, sizeLine_eq]; exact Nat.le_trans hz (by decide))) ?_)
  exact wpAny_pure (h _ F3 N3)
end
end Mine
end

section
open PySem PySem.W PyProof.Rows PySem.Calls
set_option maxHeartbeats 2000000
namespace Mine
local macro_rules | `(tactic| k_all) => `(tactic| (with_reducible assumption))
local macro_rules | `(tactic| k_room) => `(tactic| ktr_room)
abbrev faultD (w : World) (msg : Str) (t : Tok) (k : Int) (u k1 k2 : Tok) : Obj := dictOf [⟨PyData.keyHash w.params (Str.ofString "message"), .str (Str.ofString "message") k1, .str msg t⟩, ⟨PyData.keyHash w.params (Str.ofString "place"), .str (Str.ofString "place") k2, .int k u⟩] 2
theorem made_spec {w : World} {msg : Str} {t u : Tok} {k : Int} {news : List (Addr × Obj)} :
   CallSpec w 139 [.str msg t, .int k u] news 10 100 (fun v nw => ∃ e t' de k1 k2, v = .ref e ∧ (∀ p ∈ (de, faultD w msg t k u k1 k2) :: news, p.1 ≠ e) ∧ nw = (de, faultD w msg t k u k1 k2) :: (e, xObj t' (some de)) :: news) := by
  w_top off
  k_with_none
  (k_with "m:getMethod type:Exception" => (k_here; refine' method_type ?F ?X ?m (by decide +kernel) ?e ?h ?_; (case F => k_asm); (case X => k_asm); (case m => kernel_rfl); (case e => k_dflt k_is); (case h => k_handed)))
  (k_with "m:call builtin:Exception.__init__" => (k_here; k_dflt (refine' exc_init ?F ?N ?X ?H ?_; (case F => k_asm); (case N => k_asm); (case X => k_asm); (case H => with_reducible assumption); k_whole; intro h' t' F' N')))
  (k_with "m:setAttr ref" => (k_here; (with_reducible show wpAny _ _ (setAttr _ ("message" : Str) _) _ _ _); k_dflt (refine' store_new ?F ?N ?X ?H ?L ?_; (case F => k_asm); (case N => k_asm); (case X => k_asm); (case H => with_reducible assumption); (case L => exact fun h X => Looks.of_peek X (by kernel_rfl)); k_whole; intro h' de' k1' F' N' lt')))
  (k_with "m:setAttr ref" => (k_here; (with_reducible show wpAny _ _ (setAttr _ ("place" : Str) _) _ _ _); k_dflt (refine' store_old (pre := []) ?F ?N ?X ?H1 ?H2 ?He ?L ?Hr ?Hz ?_; (case F => k_asm); (case N => k_asm); (case X => k_asm); (case H1 => exact List.forall_mem_nil _); (case H2 => with_reducible assumption); (case He => exact List.Mem.head _); (case L => exact fun h X => Looks.of_peek X (by kernel_rfl)); (case Hr => rfl); (case Hz => exact Nat.le_of_ble_eq_true (by kernel_rfl)); k_whole; intro h' F' N')))
  (k_with "m:enter" => (refine' code_def ?k1 ?k2 ?k3 ?k4 ?k5 ?kA ?kF ?kK ?k6 ?k7 ?k8 ?k9 ?kB ?_ ?c2 ?c3 ?c4 ?c5; (case kA => exact rfl); (case kF => exact rfl); (case kK => assumption); (case k1 => k_asm); (case k2 => k_asm); (case k3 => k_asm); (case k4 => k_asm); (case k5 => k_asm); (case k6 => k_is); (case k7 => k_is); (case k8 => ktr_room); (case k9 => first | exact BindsTo.of_eq rfl | exact binds_K (by k_in) rfl (by k_is) rfl rfl rfl); (case c5 => decide); (case kB => exact locs rfl); (case c2 => exact rfl); (case c3 => exact rfl); (case c4 => exact rfl); k_whole; intro g' L' h' FG' F' N' B' X' T'; (try dsimp only); (try k_lift B'); (try k_fold)))
  unfold CallSpec
  k_fill
  intro mean mg mb dp un gd cn cs a ccd cl outer A₀ base h₀ L m s Q E B F X N T hk hd hu hret
  obtain ⟨hh, gg, dr, tt, os⟩ := s
  refine wpAny_call (exc_make (X.keeps F.keep) ?_)
  have N1 := (N.push F (tupObj [.str msg t, .int k u])).push (F.push _) (xObj hh.objs.size none)
  have F1 := (F.push (tupObj [.str msg t, .int k u])).push (xObj hh.objs.size none)
  rw [Heap.size_push] at N1
  dsimp only at F N F1 N1
  have l1 : ∀ p ∈ news, p.1 < hh.objs.size := fun p hp => Heap.lt_size (N p hp).1
  have le : ∀ p ∈ (hh.objs.size, tupObj [.str msg t, .int k u]) :: news, p.1 ≠ hh.objs.size + 1 := fun p hp => by
    rcases List.mem_cons.mp hp with rfl | hp
    · exact Nat.ne_of_lt (Nat.lt_succ_self _)
    · exact Nat.ne_of_lt (Nat.lt_succ_of_lt (l1 p hp))
  generalize hh.objs.size + 1 = e at *
  generalize (hh.push (tupObj [.str msg t, .int k u])).push (xObj hh.objs.size none) = h1 at *
  generalize hh.objs.size = t0 at *
  clear F N
  have hne : ∀ p ∈ (t0, tupObj [.str msg t, .int k u]) :: news, p.1 ≠ e := le
  k_dflt (k_extra "m:enter")
  k_steps
  refine' hret _ _ _ _ ⟨_, _, _, _, _, rfl, ?c, rfl⟩ ?a ?b
  (case a => assumption)
  (case b => 
    rename News h₀ L _ _ => NN
    exact News.perm NN fun p hp => by
      rcases List.mem_cons.mp hp with h | hp
      · rw [h]; exact List.Mem.head _
      · refine List.Mem.tail _ ?_
        rcases List.mem_cons.mp hp with h | hp
        · rw [h]; exact List.Mem.head _
        · exact List.Mem.tail _ (List.Mem.tail _ hp))
  (case c =>
    rename ∀ p ∈ (e, xObj _ (some _)) :: _ , p.1 ≠ _ => ll
    intro p hp
    rcases List.mem_cons.mp hp with h | hp
    · rw [h]; exact Ne.symm (ll _ (List.Mem.head _))
    · exact le p (List.Mem.tail _ hp))
end Mine
end

section
open PySem PySem.W PyProof.Rows PySem.Calls
set_option maxHeartbeats 2000000
namespace Mine
/-- the heap as it stands while the fault flies: the ground stays, the frames stand -/
structure Air (B : Heap) (l : List Env) (h : Heap) : Prop where
  stays : B.StaysIn h
  frames : h.FunFrames B l
/-- the fault at e with its dict at de; which frame its traceback's head names as the one it flies in -/
def Carry (B h : Heap) (e de : Addr) (fl : Option Value) : Prop := ∃ oe vs, h.get? e = some oe ∧ oe.cls = .ref 139 ∧ oe.dict = some de ∧ oe.data = .fields vs ∧ 1 < vs.size ∧
  match fl with
  | none => vs[1]? = some .none
  | some f => ∃ T oT ts, vs[1]? = some (.ref T) ∧ B.get? T = none ∧ T ≠ e ∧ h.get? T = some oT ∧ oT.data = .fields ts ∧ ts[3]? = some f
theorem dict_mapFields (o : Obj) (f) : (o.mapFields f).dict = o.dict := by obtain ⟨c, d, dt, sl⟩ := o; cases dt <;> rfl
section
variable {B h : Heap} {l : List Env} {a : Addr} {o : Obj} {vs : Array Value}
theorem Air.rec_ (X : Air B l h) (ho : h.get? a = some o) (hd : o.data = .fields vs) (hn : B.get? a = none) (f) : Air B l (h.update a (Obj.mapFields f)) ∧ h.UpToSlots (h.update a (Obj.mapFields f)) := by
  have other : ∀ b, b ≠ a → (h.update a (Obj.mapFields f)).get? b = h.get? b := fun b hb => Heap.get?_update_other _ _ (Ne.symm hb)
  have ne : ∀ b o', h.get? b = some o' → (∀ ws, o'.data ≠ .fields ws) → b ≠ a := fun b o' hb hf q => by
    subst q; rw [ho] at hb; cases hb; exact hf _ hd
  refine ⟨⟨fun b o' hb => ?_, X.frames.of_keeps fun b o' hb hf => ⟨o', ?_, rfl⟩⟩, fun b o' hb hf => ⟨o'.slots, ?_⟩⟩
  · rw [other b fun q => by rw [q, hn] at hb; cases hb]; exact X.stays b o' hb
  · rw [other b (ne b o' hb hf)]; exact hb
  · rw [other b (ne b o' hb hf)]; exact hb
theorem Air.push_ (X : Air B l h) (p : Obj) : Air B l (h.push p) ∧ h.UpToSlots (h.push p) :=
  have k : ∀ b o, h.get? b = some o → (h.push p).get? b = some o := fun b o e => Heap.get?_push_of_some _ e
  ⟨⟨fun b o' hb => k b o' (X.stays b o' hb), X.frames.of_keeps fun b o' hb _ => ⟨o', k b o' hb, rfl⟩⟩, Heap.UpToSlots.of_keeps k⟩
theorem Air.slots_ {h' : Heap} (X : Air B l h) (x : Heap.SlotsOnly (l.filterMap (·.frame)) h h') : Air B l h' ∧ h.UpToSlots h' := by
  refine ⟨⟨fun b o' hb => ?_, X.frames.of_keeps fun b o' hb _ => ?_⟩, fun b o' hb _ => x.2.2 b o' hb⟩
  · rw [x.2.1 b fun hm => by rw [(X.frames.mem hm).1] at hb; cases hb]; exact X.stays b o' hb
  · obtain ⟨sl, hs⟩ := x.2.2 b o' hb
    exact ⟨_, hs, rfl⟩
theorem Air.off {h' : Heap} (X : Air B l h) (x : Heap.SlotsOnly (l.filterMap (·.frame)) h h') (ho : h.get? a = some o) (hd : o.data = .fields vs) : h'.get? a = some o := by
  rw [x.2.1 a fun hm => ?_]; exact ho
  obtain ⟨_, o', ho', hf⟩ := X.frames.mem hm
  rw [ho] at ho'; cases ho'; exact hf _ hd
end
section
variable {M : Model} {A : Around} {E : Value → Shared → Prop} {s : Shared} {B : Heap} {env : Env} {outer : List Env} {L e de : Addr}
theorem entryD {oe : Obj} {vs : Array Value} {head : Value} {hadNext : Bool} {Q : Unit → Shared → Prop} (hfr : A.frames = some (env :: outer)) (hf : env.frame = some L) (X : Air B (env :: outer) s.heap) (hen : B.get? e = none)
    (he : s.heap.get? e = some oe) (hc : oe.cls = .ref 139) (hdi : oe.dict = some de) (hd : oe.data = .fields vs) (hsz : 1 < vs.size)
    (h : ∀ h', Air B (env :: outer) h' → s.heap.UpToSlots h' → Carry B h' e de (some (rawInt L)) → Q () { s with heap := h' }) :
    wpAny M A (do let a ← frameOf env; let pl ← entryPlaceOf L hadNext; let b ← EntryCells.newEntry head a .none (rawInt L) .none pl; setField (.ref e) 1 b) Q E s := by
  refine wpAny_bind (wpAny_frameOf_fun hfr X.frames hf fun h₁ hs₁ => ?_)
  refine wpAny_bind (wpAny_entryPlaceOf fun pl hpl => ?_)
  unfold EntryCells.newEntry newFields
  refine wpAny_bind (wpAny_newObj_type ?_ (hpl.sizeOk5 _ _ _ _ _))
  obtain ⟨X1, U1⟩ := X.slots_ hs₁
  have e1 := X.off hs₁ he hd
  generalize hts : ([head, .ref L, .none, rawInt L, .none] ++ (if pl.isEmpty then List.replicate 6 Value.none else pl)).toArray = ts
  have h3 : ts[3]? = some (rawInt L) := by rw [← hts]; simp
  obtain ⟨X2, U2⟩ := X1.push_ { cls := .type "traceback", dict := none, data := .fields ts }
  have e2 := Heap.get?_push_of_some { cls := .type "traceback", dict := none, data := .fields ts } e1
  have t2 : (h₁.push { cls := .type "traceback", dict := none, data := .fields ts }).get? h₁.objs.size = some { cls := .type "traceback", dict := none, data := .fields ts } := Heap.get?_push_size h₁ rfl
  refine wpAny_setField e2 hd hsz ?_
  obtain ⟨X3, U3⟩ := X2.rec_ e2 hd hen (·.setIfInBounds 1 (.ref h₁.objs.size))
  have ne : h₁.objs.size ≠ e := Nat.ne_of_gt (Heap.lt_size e1)
  have d3 := Obj.data_mapFields hd (·.setIfInBounds 1 (Value.ref h₁.objs.size))
  refine h _ X3 (U1.trans (U2.trans U3)) ⟨_, _, Heap.get?_update_self _ e2 (Obj.isFreed_of_fields d3), (Obj.cls_mapFields _ _).trans hc, (dict_mapFields _ _).trans hdi, d3, by simpa using hsz,
    h₁.objs.size, _, _, by simp [hsz], X1.stays.fresh, ne, (Heap.get?_update_other _ _ (Ne.symm ne)).trans t2, rfl, h3⟩
theorem noteD {fl : Option Value} {Q : Unit → Shared → Prop} (hfr : A.frames = some (env :: outer)) (hf : env.frame = some L) (X : Air B (env :: outer) s.heap) (hen : B.get? e = none) (hfl : fl = none ∨ fl = some .none) (C : Carry B s.heap e de fl)
    (h : ∀ h', Air B (env :: outer) h' → s.heap.UpToSlots h' → Carry B h' e de (some (rawInt L)) → Q () { s with heap := h' }) : wpAny M A (noteFrame (.ref e) env) Q E s := by
  obtain ⟨oe, vs, he, hc, hdi, hd, hsz, r⟩ := C
  unfold noteFrame
  simp only [hf]
  rcases hfl with rfl | rfl
  · refine wpAny_bind (wpAny_field he hd r ?_)
    rw [if_neg (by decide)]
    exact entryD hfr hf X hen he hc hdi hd hsz h
  · obtain ⟨T, oT, ts, h1, hn, hTe, hT, hdT, h3⟩ := r
    refine wpAny_bind (wpAny_field he hd h1 ?_)
    rw [if_pos (show (Value.ref T != Value.none) = true from by simp)]
    refine wpAny_bind (wpAny_field hT hdT h3 ?_)
    rw [if_neg (show ¬ ((Value.none == rawInt L) = true) from by simp [rawInt])]
    refine wpAny_bind (wpAny_setField hT hdT (Array.getElem?_eq_some_iff.mp h3).1 ?_)
    obtain ⟨X1, U1⟩ := X.rec_ hT hdT hn (·.setIfInBounds 3 Value.none)
    exact entryD hfr hf X1 hen ((Heap.get?_update_other _ _ hTe).trans he) hc hdi hd hsz fun h' x u c => h h' x (U1.trans u) c
theorem noteAgainD {Q : Unit → Shared → Prop} (hf : env.frame = some L) (C : Carry B s.heap e de (some (rawInt L))) (h : Q () s) : wpAny M A (noteFrame (.ref e) env) Q E s := by
  obtain ⟨oe, vs, he, hc, hdi, hd, hsz, T, oT, ts, h1, hn, hTe, hT, hdT, h3⟩ := C
  unfold noteFrame
  simp only [hf]
  refine wpAny_bind (wpAny_field he hd h1 ?_)
  rw [if_pos (show (Value.ref T != Value.none) = true from by simp)]
  refine wpAny_bind (wpAny_field hT hdT h3 ?_)
  rw [if_pos (show (rawInt L == rawInt L) = true from by simp)]
  exact wpAny_pure h
theorem landD {l : List Env} {fl : Value} {Q : Unit → Shared → Prop} (X : Air B l s.heap) (C : Carry B s.heap e de (some fl))
    (h : ∀ h', Air B l h' → s.heap.UpToSlots h' → Carry B h' e de (some .none) → Q () { s with heap := h' }) : wpAny M A (setFlight (.ref e) none) Q E s := by
  obtain ⟨oe, vs, he, hc, hdi, hd, hsz, T, oT, ts, h1, hn, hTe, hT, hdT, h3⟩ := C
  have h3' := (Array.getElem?_eq_some_iff.mp h3).1
  unfold setFlight
  refine wpAny_bind (wpAny_field he hd h1 ?_)
  rw [if_pos (show (Value.ref T != Value.none) = true from by simp)]
  refine wpAny_setField hT hdT h3' ?_
  obtain ⟨X1, U1⟩ := X.rec_ hT hdT hn (·.setIfInBounds 3 ((none : Option Addr).elim Value.none fun f => rawInt f))
  have d3 := Obj.data_mapFields hdT (·.setIfInBounds 3 ((none : Option Addr).elim Value.none fun f => rawInt f))
  exact h _ X1 U1 ⟨oe, vs, (Heap.get?_update_other _ _ hTe).trans he, hc, hdi, hd, hsz, T, _, _, h1, hn, hTe, Heap.get?_update_self _ hT (Obj.isFreed_of_fields d3), d3, by simp [h3']⟩
theorem leaveD {fl : Option Value} {Q : Unit → Shared → Prop} (hfr : A.frames = some (env :: outer)) (hf : env.frame = some L) (X : Air B (env :: outer) s.heap) (hen : B.get? e = none) (hfl : fl = none ∨ fl = some .none) (C : Carry B s.heap e de fl)
    (h : ∀ h', Air B outer h' → s.heap.UpToSlots h' → Carry B h' e de (some .none) → Q () { s with heap := h' }) : wpAny M A (leaving env (.ref e)) Q E s := by
  unfold leaving
  refine wpAny_bind (noteD hfr hf X hen hfl C fun h1 x1 u1 c1 => ?_)
  exact landD x1 c1 fun h2 x2 u2 c2 => h h2 ⟨x2.stays, x2.frames.2.2⟩ (u1.trans u2) c2
end
end Mine
end

section
open PySem PySem.W PyProof.Rows PySem.Calls
set_option maxHeartbeats 2000000
namespace Mine
/-- the value is a fault and, thrown, meets E -/
def Thrown (w : World) (E : Value → Shared → Prop) (v : Value) (s : Shared) : Prop := ∃ e t od, v = .ref e ∧ (hd.heap_39 w.params).In s.heap ∧ s.heap.get? e = some (xObj t od) ∧ E (.ref e) s
section
variable {w : World} {A : Around} {E : Value → Shared → Prop} {s : Shared} {env : Env}
theorem raiseStmt_x {x : Sem Value} {Q : Flow → Shared → Prop} (hh : A.handled = none) (h : wpAny (MX w) A x (Thrown w E) E s) : wpAny (MX w) A (raiseStmt env (some x) none) Q E s := by
  unfold raiseStmt
  refine wpAny_bind (wpAny_mono h (fun v s₁ h₁ => ?_) fun _ _ x => x)
  obtain ⟨e, t, od, rfl, X, he, hE⟩ := h₁
  obtain ⟨hp, g, d, tk, os⟩ := s₁
  obtain ⟨nm, qn, N9, bs, bm, hdct, sn, sub9, ab, col, dd, q0, q1, q2, q3, q5, newId, hC, hbase, -⟩ := kts_cls (C := 139) (T := "Exception") X (by kernel_rfl)
  dsimp only at hC he
  have hcB : (Value.ref 139 :: bm).contains (.type "BaseException") = true := by rw [List.contains_cons, hbase, Bool.or_true]
  repeat (first | with_reducible refine wpAny_loadPart_at he ?_ | with_reducible refine wpAny_loadPart_at hC ?_ | (with_reducible refine wpAny_isSubtype_exc hC ?_; rw [hcB]) | wp_step)
  exact wpAny_raiseNew_none hh hE
theorem Raise_x {x : Expr} {pos : Pos} {Q : Flow → Shared → Prop} (hh : A.handled = none) (h : wpAny (MX w) A (eval x env) (Thrown w E) E s) :
    wpAny (MX w) A (exec (.Raise (some x) none pos) env) Q E s := by
  rw [arm_exec_Raise]
  first
    | exact wpAny_bind (wpAny_standAt (raiseStmt_x hh (wpAny_bind (wpAny_mono h (fun v s₁ h₁ => wpAny_bind (wpAny_standAt (wpAny_pure h₁))) fun _ _ x => x))))
    | (simp only [evalOpt, Option.map]; exact wpAny_bind (wpAny_standAt (raiseStmt_x hh (wpAny_bind (wpAny_mono h (fun v s₁ h₁ => wpAny_bind (wpAny_standAt (wpAny_pure h₁))) fun _ _ x => x)))))
    | (show wpAny _ A (do standAt pos; raiseStmt env (some (do let v ← eval x env; standAt pos; pure v)) none) Q E s; exact wpAny_bind (wpAny_standAt (raiseStmt_x hh (wpAny_bind (wpAny_mono h (fun v s₁ h₁ => wpAny_bind (wpAny_standAt (wpAny_pure h₁))) fun _ _ x => x)))))
end
/-- the fault flies, above the ground G of the frame that looks on -/
def FlyD (base G : Heap) (l : List Env) (e de : Addr) (news : List (Addr × Obj)) (h : Heap) : Prop :=
  G.get? e = none ∧ ∃ B, base.StaysIn B ∧ (∀ b o, G.get? b = some o → b ∉ l.filterMap (·.frame) → B.get? b = some o) ∧ (∀ q ∈ news, B.get? q.1 = some q.2 ∧ G.get? q.1 = none) ∧ B.get? e = none ∧ Air B l h ∧ Carry B h e de (some .none)
section
variable {M : Model} {A : Around} {E : Value → Shared → Prop} {s' : Shared} {base g g₂ h : Heap} {outer : List Env} {L a e de t : Addr} {m : Str → Option Value} {name : Str} {scope : Scope} {cd : Value} {Q : Unit → Shared → Prop} {news : List (Addr × Obj)}
theorem frames_hide {base h : Heap} {as : List Addr} : ∀ {l : List Env}, h.FunFrames base l → (∀ env ∈ l, ∀ a, env.frame = some a → a ∈ as) → h.FunFrames (hideAll h as) l
  | [], _, _ => trivial
  | env :: _, ⟨hk, ⟨L, o, hf, _, ho, hd⟩, hr⟩, hin => ⟨hk, ⟨L, o, hf, hideAll_none _ (hin env (.head _) L hf), ho, hd⟩, frames_hide hr fun e he => hin e (.tail _ he)⟩
theorem flyFirst (K : Below A base outer g) (F : Fr g L s'.heap m) (N : News g L s'.heap ((e, xObj t (some de)) :: news)) (hne : ∀ q ∈ news, q.1 ≠ e)
   (h : ∀ h', FlyD base g outer e de news h' → g.UpToSlots h' → Q () { s' with heap := h' }) (hk : scope.kind = .function := by rfl) :
    wpAny M (A.deeper (envOf name scope L a cd)) (leaving (envOf name scope L a cd) (.ref e)) Q E s' := by
  have K' := K.push (name := name) (a := a) (cd := cd) F hk
  have he := N _ (.head _)
  dsimp only at he
  have hin : ∀ env ∈ (envOf name scope L a cd :: outer), ∀ b, env.frame = some b → b ∈ e :: (envOf name scope L a cd :: outer).filterMap (·.frame) := fun env he b hb => .tail _ (List.mem_filterMap.mpr ⟨env, he, hb⟩)
  have hB : ∀ b o, s'.heap.get? b = some o → b ≠ e → b ∉ (envOf name scope L a cd :: outer).filterMap (·.frame) → (hideAll s'.heap (e :: (envOf name scope L a cd :: outer).filterMap (·.frame))).get? b = some o := fun b o q ne nm => hideAll_get _ q fun hm => by
    rcases List.mem_cons.mp hm with z | z
    · exact ne z
    · exact nm z
  have nbe : base.get? e = none := fresh_of_stays K.stays he.2.2
  have st : base.StaysIn (hideAll s'.heap (e :: (envOf name scope L a cd :: outer).filterMap (·.frame))) := fun b o q => hB b o (K'.stays b o q) (fun z => by rw [z, nbe] at q; cases q) fun hm => by
    rw [(K'.frames.mem hm).1] at q; cases q
  have sg : ∀ b o, g.get? b = some o → b ∉ outer.filterMap (·.frame) → (hideAll s'.heap (e :: (envOf name scope L a cd :: outer).filterMap (·.frame))).get? b = some o := fun b o q nm => hB b o (F.keep b o q) (fun z => by rw [z, he.2.2] at q; cases q) fun hm => by
    rcases kts_mem hm with z | z
    · rw [z, kts_self F] at q
      cases q
    · exact nm z
  have hl : ∀ q ∈ news, (hideAll s'.heap (e :: (envOf name scope L a cd :: outer).filterMap (·.frame))).get? q.1 = some q.2 ∧ g.get? q.1 = none := fun q hq => by
    have Nq := N q (.tail _ hq)
    refine ⟨hB _ _ Nq.1 (hne q hq) fun hm => ?_, Nq.2.2⟩
    obtain ⟨env, hm, hf⟩ := List.mem_filterMap.mp hm
    rcases List.mem_cons.mp hm with rfl | hm
    · exact Nq.2.1 (Option.some.inj hf).symm
    · obtain ⟨o, ho, _⟩ := (K.frames.mem (List.mem_filterMap.mpr ⟨env, hm, hf⟩)).2
      rw [Nq.2.2] at ho; cases ho
  have X : Air (hideAll s'.heap (e :: (envOf name scope L a cd :: outer).filterMap (·.frame))) (envOf name scope L a cd :: outer) s'.heap := ⟨fun b o q => of_hideAll _ q, frames_hide K'.frames hin⟩
  have ne : (hideAll s'.heap (e :: (envOf name scope L a cd :: outer).filterMap (·.frame))).get? e = none := hideAll_none _ (.head _)
  refine leaveD (fl := none) K'.stack rfl X ne (.inl rfl) ⟨_, _, he.1, rfl, rfl, rfl, by simp, rfl⟩ fun h' x u c => ?_
  exact h h' ⟨he.2.2, _, st, sg, hl, ne, x, c⟩ ((Heap.UpToSlots.of_keeps F.keep).trans u)
theorem flyOn (K : Below A base outer g) (F : Fr g L g₂ m) (R : FlyD base g₂ (envOf name scope L a cd :: outer) e de news s'.heap) (U : g₂.UpToSlots s'.heap)
    (h : ∀ h', FlyD base g outer e de news h' → g.UpToSlots h' → Q () { s' with heap := h' }) :
    wpAny M (A.deeper (envOf name scope L a cd)) (leaving (envOf name scope L a cd) (.ref e)) Q E s' := by
  obtain ⟨ge, B, hB, hBG, hl, hen, x, c⟩ := R
  refine leaveD (fl := some .none) (Around.frames_deeper K.stack) rfl x hen (.inr rfl) c fun h' x' u c' => h h' ⟨kts_none F.keep ge, B, hB, fun b o q nm => hBG b o (F.keep b o q) (fun hm => ?_), fun q hq => ⟨(hl q hq).1, kts_none F.keep (hl q hq).2⟩, hen, x', c'⟩ ((Heap.UpToSlots.of_keeps F.keep).trans (U.trans u))
  rcases kts_mem hm with z | z
  · rw [z, kts_self F] at q
    cases q
  · exact nm z
theorem flyOn2 (R : FlyD base g₂ (envOf name scope L a cd :: outer) e de news s'.heap) (U : g₂.UpToSlots s'.heap := by assumption) (F : Fr g L g₂ m := by assumption) (K : Below A base outer g := by assumption) (h : ∀ h', FlyD base g outer e de news h' → g.UpToSlots h' → Q () { s' with heap := h' })  :
    wpAny M (A.deeper (envOf name scope L a cd)) (leaving (envOf name scope L a cd) (.ref e)) Q E s'  := flyOn K F R U h

end
end Mine
end

section
open PySem PySem.W PyProof.Rows PySem.Calls
set_option maxHeartbeats 2000000
namespace Mine
/-- a call that hands something back, or throws the fault -/
def CallFly (w : World) (f : Addr) (vs : List Value) (news : List (Addr × Obj)) (dd uu : Nat) (R : Value → List (Addr × Obj) → Prop) (XR : Int → List (Addr × Obj) → Prop) : Prop :=
  ∀ (mean : ExcName → Option Value) (mg mb : Str → Option Value) (dp un : Nat) (gd : Option (List Code)) (cn : Str) (cs : Scope) (a : Addr) (ccd : Value) (cl : List (Str × Addr)) (outer : List Env) (A₀ : Around) (base h₀ : Heap) (L : Addr) (m : Str → Option Value) (s : Shared) (Q E : Value → Shared → Prop),
    Below A₀ base outer h₀ → Fr h₀ L s.heap m → (hd.heap_39 w.params).In h₀ → News h₀ L s.heap news → Top hd.view_39 (looseW hd.view_39 [Str.ofString "SyntaxFault"]) mean mg mb h₀ → cs.kind = .function →
    dp + dd < recursionLimit → un + uu < cLine →
    (∀ v news' h' tk', R v news' → Fr h₀ L h' m → News h₀ L h' news' → Q v { s with heap := h', toks := tk' }) →
    (∀ g₂ e de msg t k u k1 k2 news' h' tk', XR k news' → Fr h₀ L g₂ m → FlyD base g₂ (envX cn cs L a ccd cl :: outer) e de ((de, faultD w msg t k u k1 k2) :: news') h' → g₂.UpToSlots h' → E (.ref e) { s with heap := h', toks := tk' }) →
    wpAny (model PySem.Challenge.rw_xm0661_01.row.prog w) (ktrTop dp un gd cn cs L a ccd cl outer) (call (.ref f) vs) Q E s
theorem CallFly.use {w : World} {f : Addr} {vs : List Value} {news : List (Addr × Obj)} {dd uu : Nat} {R : Value → List (Addr × Obj) → Prop} {XR : Int → List (Addr × Obj) → Prop} (S : CallFly w f vs news dd uu R XR)
  {mean : ExcName → Option Value} {mg mb : Str → Option Value} {dp un : Nat} {gd : Option (List Code)} {cn : Str} {cs : Scope} {a : Addr} {ccd : Value} {cl : List (Str × Addr)} {outer : List Env} {A₀ : Around} {base h₀ : Heap} {L : Addr} {m : Str → Option Value} {s : Shared} {Q E : Value → Shared → Prop}
  (B : Below A₀ base outer h₀) (F : Fr h₀ L s.heap m) (X : (hd.heap_39 w.params).In h₀) (N : News h₀ L s.heap news) (T : Top hd.view_39 (looseW hd.view_39 [Str.ofString "SyntaxFault"]) mean mg mb h₀) (hk : cs.kind = .function)
  (hd : dp + dd < recursionLimit) (hu : un + uu < cLine)
  (h : ∀ v news' h' tk', R v news' → Fr h₀ L h' m → News h₀ L h' news' → Q v { s with heap := h', toks := tk' })
  (x : ∀ g₂ e de msg t k u k1 k2 news' h' tk', XR k news' → Fr h₀ L g₂ m → FlyD base g₂ (envX cn cs L a ccd cl :: outer) e de ((de, faultD w msg t k u k1 k2) :: news') h' → g₂.UpToSlots h' → E (.ref e) { s with heap := h', toks := tk' }) :
    wpAny (model PySem.Challenge.rw_xm0661_01.row.prog w) (ktrTop dp un gd cn cs L a ccd cl outer) (call (.ref f) vs) Q E s := S _ _ _ _ _ _ _ _ _ _ _ _ _ _ _ _ _ _ _ _ B F X N T hk hd hu h x
theorem CallFly.go {w : World} {f : Addr} {vs : List Value} {news : List (Addr × Obj)} {dd uu : Nat} {R : Value → List (Addr × Obj) → Prop} {XR : Int → List (Addr × Obj) → Prop}
  {mean : ExcName → Option Value} {mg mb : Str → Option Value} {dp un : Nat} {gd : Option (List Code)} {cn : Str} {cs : Scope} {a : Addr} {ccd : Value} {cl : List (Str × Addr)} {outer : List Env} {A₀ : Around} {base h₀ : Heap} {L : Addr} {m : Str → Option Value} {s : Shared} {Q E : Value → Shared → Prop}
  (N : News h₀ L s.heap news := by assumption) (B : Below A₀ base outer h₀ := by assumption) (F : Fr h₀ L s.heap m := by assumption) (X : (hd.heap_39 w.params).In h₀ := by assumption) (T : Top hd.view_39 (looseW hd.view_39 [Str.ofString "SyntaxFault"]) mean mg mb h₀ := by assumption) (hk : cs.kind = .function := by first | rfl | assumption) (hd : dp + dd < recursionLimit := by ktr_room) (hu : un + uu < cLine := by ktr_units)
  (S : CallFly w f vs news dd uu R XR)
  (h : ∀ v news' h' tk', R v news' → Fr h₀ L h' m → News h₀ L h' news' → Q v { s with heap := h', toks := tk' }) (x : ∀ g₂ e de msg t k u k1 k2 news' h' tk', XR k news' → Fr h₀ L g₂ m → FlyD base g₂ (envX cn cs L a ccd cl :: outer) e de ((de, faultD w msg t k u k1 k2) :: news') h' → g₂.UpToSlots h' → E (.ref e) { s with heap := h', toks := tk' }) :
    wpAny (model PySem.Challenge.rw_xm0661_01.row.prog w) (ktrTop dp un gd cn cs L a ccd cl outer) (call (.ref f) vs) Q E s := S.use B F X N T hk hd hu h x

local macro_rules | `(tactic| k_all) => `(tactic| (with_reducible assumption))
local macro_rules | `(tactic| k_room) => `(tactic| ktr_room)
theorem fault_spec {w : World} {cx dx : Addr} {x : Str} {t : Tok} {k : Int} {tk k1 k2 : Tok} {msg : Str} {mt : Tok} {rest : List (Addr × Obj)} :
   CallFly w 185 [.ref cx, .str msg mt] ((dx, curD w x t k tk k1 k2) :: (cx, instObj 259 dx) :: rest) 15 130 (fun _ _ => False) (fun k' nw => k' = k ∧ nw = (dx, curD w x t k tk k1 k2) :: (cx, instObj 259 dx) :: rest) := by
  w_top off
  k_with_none
  (k_with "m:exec Raise some none" => (k_here; k_dflt (refine Raise_x rfl ?_)))
  (k_with "m:call ref" => (k_here; (with_reducible show wpAny _ _ (call (Value.ref 139) _ _) _ _ _); k_dflt (refine' CallSpec.go (S := made_spec) (h := ?_); k_whole; rintro v' nw' h' tk' ⟨e', t', de', k1', k2', v1', ne', n1'⟩ F' N'; subst v1' n1')))
  (k_with "m:enter" => (refine' code_def ?k1 ?k2 ?k3 ?k4 ?k5 ?kA ?kF ?kK ?k6 ?k7 ?k8 ?k9 ?kB ?_ ?c2 ?c3 ?c4 ?c5; (case kA => exact rfl); (case kF => exact rfl); (case kK => assumption); (case k1 => k_asm); (case k2 => k_asm); (case k3 => k_asm); (case k4 => k_asm); (case k5 => k_asm); (case k6 => k_is); (case k7 => k_is); (case k8 => ktr_room); (case k9 => first | exact BindsTo.of_eq rfl | exact binds_K (by k_in) rfl (by k_is) rfl rfl rfl); (case c5 => decide); (case kB => exact locs rfl); (case c2 => exact rfl); (case c3 => exact rfl); (case c4 => exact rfl); k_whole; intro g' L' h' FG' F' N' B' X' T'; (try dsimp only); (try k_lift B'); (try k_fold)))
  unfold CallFly
  k_fill
  intro mean mg mb dp un gd cn cs a ccd cl outer A₀ base h₀ L m s Q E B F X N T hk hd hu hret hfly
  refine wpAny_call ?_
  k_dflt (k_extra "m:enter")
  k_steps
  k_dflt (
    rename News _ _ _ ((_, faultD _ _ _ _ _ _ _) :: _) => N1
    rename ∀ p ∈ (_, faultD _ _ _ _ _ _ _) :: _, p.1 ≠ _ => ne1
    rename Fr h₀ L _ _ => FG1
    rename Fr _ _ _ _ => F1
    rename Frag.In _ _ => X1
    have hx := N1 _ (List.Mem.tail _ (List.Mem.head _))
    refine ⟨_, _, _, rfl, X1.keeps F1.keep, hx.1, ?_⟩
    refine' flyFirst ?K F1 (News.perm N1 ?P) ne1 ?_
    case K => assumption
    case P => 
      intro p hp
      rcases List.mem_cons.mp hp with h | hp
      · rw [h]; exact List.Mem.tail _ (List.Mem.head _)
      rcases List.mem_cons.mp hp with h | hp
      · rw [h]; exact List.Mem.head _
      · exact List.Mem.tail _ (List.Mem.tail _ hp)
    intro h' R U
    exact hfly _ _ _ _ _ _ _ _ _ _ _ _ ⟨rfl, rfl⟩ FG1 R U
  )
end Mine
end

section
open PySem PySem.W PyProof.Rows PySem.Calls
set_option maxHeartbeats 2000000
namespace Mine
local macro_rules | `(tactic| k_all) => `(tactic| (with_reducible assumption))
local macro_rules | `(tactic| k_room) => `(tactic| ktr_room)
theorem skip_spec {w : World} {cx dx : Addr} {x wd : Str} {t wt : Tok} {k : Nat} {tk k1 k2 : Tok} {rest : List (Addr × Obj)} (hne : ∀ p ∈ rest, p.1 ≠ dx) (hc : cx ≠ dx) (hx : x.length ≤ 1000) (hw : wd.length ≤ 10) :
   CallSpec w 200 [.ref cx, .str wd wt] ((dx, curD w x t k tk k1 k2) :: (cx, instObj 259 dx) :: rest) 5 30
     (fun v nw => (Txt.startswith3 x wd k = true ∧ v = .bool true ∧ ∃ tk', nw = (dx, curD w x t ((k + wd.length : Nat) : Int) tk' k1 k2) :: (cx, instObj 259 dx) :: rest) ∨ (Txt.startswith3 x wd k = false ∧ v = .bool false ∧ nw = (dx, curD w x t k tk k1 k2) :: (cx, instObj 259 dx) :: rest)) := by
  w_top off
  k_with_none
  (k_with "m:enter" => (refine' code_def ?k1 ?k2 ?k3 ?k4 ?k5 ?kA ?kF ?kK ?k6 ?k7 ?k8 ?k9 ?kB ?_ ?c2 ?c3 ?c4 ?c5; (case kA => exact rfl); (case kF => exact rfl); (case kK => assumption); (case k1 => k_asm); (case k2 => k_asm); (case k3 => k_asm); (case k4 => k_asm); (case k5 => k_asm); (case k6 => k_is); (case k7 => k_is); (case k8 => ktr_room); (case k9 => first | exact BindsTo.of_eq rfl | exact binds_K (by k_in) rfl (by k_is) rfl rfl rfl); (case c5 => decide); (case kB => exact locs rfl); (case c2 => exact rfl); (case c3 => exact rfl); (case c4 => exact rfl); k_whole; intro g' L' h' FG' F' N' B' X' T'; (try dsimp only); (try k_lift B'); (try k_fold)))
  unfold CallSpec
  k_fill
  intro mean mg mb dp un gd cn cs a ccd cl outer A₀ base h₀ L m s Q E B F X N T hk hd hu hret
  refine wpAny_call ?_
  k_dflt (k_extra "m:enter")
  k_steps
  · refine' hret _ _ _ _ (.inl ⟨by assumption, rfl, _, rfl⟩) ?a ?b
    (case b => assumption)
    (case a => assumption)
  · refine hret _ _ _ _ (.inr ⟨by assumption, rfl, rfl⟩) ?_ ?_ <;> assumption
theorem peek_spec {w : World} {cx dx : Addr} {x : Str} {t : Tok} {k : Nat} {tk k1 k2 : Tok} {rest : List (Addr × Obj)} (hne : ∀ p ∈ rest, p.1 ≠ dx) (hc : cx ≠ dx) (hx : x.length ≤ 1000) (hk0 : k ≤ x.cps.size) :
   CallSpec w 171 [.ref cx] ((dx, curD w x t k tk k1 k2) :: (cx, instObj 259 dx) :: rest) 5 30
     (fun v nw => ∃ u, v = .str (Txt.slice x (some k) (some (k + 1))) u ∧ nw = (dx, curD w x t k tk k1 k2) :: (cx, instObj 259 dx) :: rest) := by
  w_top off
  k_with_none
  (k_with "m:enter" => (refine' code_def ?k1 ?k2 ?k3 ?k4 ?k5 ?kA ?kF ?kK ?k6 ?k7 ?k8 ?k9 ?kB ?_ ?c2 ?c3 ?c4 ?c5; (case kA => exact rfl); (case kF => exact rfl); (case kK => assumption); (case k1 => k_asm); (case k2 => k_asm); (case k3 => k_asm); (case k4 => k_asm); (case k5 => k_asm); (case k6 => k_is); (case k7 => k_is); (case k8 => ktr_room); (case k9 => first | exact BindsTo.of_eq rfl | exact binds_K (by k_in) rfl (by k_is) rfl rfl rfl); (case c5 => decide); (case kB => exact locs rfl); (case c2 => exact rfl); (case c3 => exact rfl); (case c4 => exact rfl); k_whole; intro g' L' h' FG' F' N' B' X' T'; (try dsimp only); (try k_lift B'); (try k_fold)))
  unfold CallSpec
  k_fill
  intro mean mg mb dp un gd cn cs a ccd cl outer A₀ base h₀ L m s Q E B F X N T hk hd hu hret
  refine wpAny_call ?_
  k_dflt (k_extra "m:enter")
  k_steps
  refine hret _ _ _ _ ⟨_, rfl, rfl⟩ ?_ ?_ <;> assumption
end Mine
end

section
open PySem PySem.W PyProof.Rows PySem.Calls
set_option maxHeartbeats 2000000
namespace Mine
local macro_rules | `(tactic| k_all) => `(tactic| (with_reducible assumption))
local macro_rules | `(tactic| k_room) => `(tactic| ktr_room)
theorem expect_spec {w : World} {cx dx : Addr} {x wd : Str} {t wt : Tok} {k : Nat} {tk k1 k2 : Tok} {rest : List (Addr × Obj)} (hne : ∀ p ∈ rest, p.1 ≠ dx) (hc : cx ≠ dx) (hx : x.length ≤ 1000) (hw : wd.length ≤ 10) :
   CallFly w 207 [.ref cx, .str wd wt] ((dx, curD w x t k tk k1 k2) :: (cx, instObj 259 dx) :: rest) 20 150
     (fun v nw => Txt.startswith3 x wd k = true ∧ ∃ tk', nw = (dx, curD w x t ((k + wd.length : Nat) : Int) tk' k1 k2) :: (cx, instObj 259 dx) :: rest)
     (fun k' nw => k' = k ∧ Txt.startswith3 x wd k = false ∧ nw = (dx, curD w x t k tk k1 k2) :: (cx, instObj 259 dx) :: rest) := by
  w_top off
  k_with_none
  (k_with "m:call ref" => (k_here; (with_reducible show wpAny _ _ (call (Value.ref 200) _ _) _ _ _); k_dflt (refine' CallSpec.go (S := (skip_spec (by assumption) (by assumption) (by assumption) (by assumption))) (h := ?_); k_whole; rintro v' nw' h' tk' (⟨hs', v1', tk2', n1'⟩ | ⟨hs', v1', n1'⟩) F' N' <;> subst v1' n1')))
  (k_with "m:call ref" => (k_here; (with_reducible show wpAny _ _ (call (Value.ref 185) _ _) _ _ _); k_dflt (refine' CallFly.go (S := fault_spec) (h := ?_) (x := ?_); k_whole; (exact fun v news' h' tk' q => q.elim); rintro g' e' de' msg' t' k' u' k1' k2' nw' h' tk' ⟨kk', n1'⟩ FG' R' U'; subst kk' n1')))
  (k_with "m:leaving ref" => (k_here; k_dflt (rename FlyD _ _ _ _ _ _ _ => R1; refine' flyOn2 R1 (h := ?_); k_whole; clear R1; intro h' R' U')))
  (k_with "m:enter" => (refine' code_def ?k1 ?k2 ?k3 ?k4 ?k5 ?kA ?kF ?kK ?k6 ?k7 ?k8 ?k9 ?kB ?_ ?c2 ?c3 ?c4 ?c5; (case kA => exact rfl); (case kF => exact rfl); (case kK => assumption); (case k1 => k_asm); (case k2 => k_asm); (case k3 => k_asm); (case k4 => k_asm); (case k5 => k_asm); (case k6 => k_is); (case k7 => k_is); (case k8 => ktr_room); (case k9 => first | exact BindsTo.of_eq rfl | exact binds_K (by k_in) rfl (by k_is) rfl rfl rfl); (case c5 => decide); (case kB => exact locs rfl); (case c2 => exact rfl); (case c3 => exact rfl); (case c4 => exact rfl); k_whole; intro g' L' h' FG' F' N' B' X' T'; (try dsimp only); (try k_lift B'); (try k_fold)))
  unfold CallFly
  k_fill
  intro mean mg mb dp un gd cn cs a ccd cl outer A₀ base h₀ L m s Q E B F X N T hk hd hu hret hfly
  refine wpAny_call ?_
  k_dflt (k_extra "m:enter")
  k_steps
  · refine' hret _ _ _ _ ⟨by assumption, _, rfl⟩ ?a ?b
    (case b => assumption)
    (case a => assumption)
  · k_dflt (refine' hfly _ _ _ _ _ _ _ _ _ _ _ _ ⟨rfl, by assumption, rfl⟩ ?a ?b ?c; (case b => assumption); (case c => assumption); (case a => assumption))
end Mine
end

section
open PySem PySem.W PyProof.Rows PySem.Calls
set_option maxHeartbeats 2000000
namespace Mine
local macro_rules | `(tactic| k_all) => `(tactic| (with_reducible assumption))
local macro_rules | `(tactic| k_room) => `(tactic| ktr_room)
theorem startsAt {x wd : Str} {k : Nat} (h : Txt.startswith3 x wd k = true) : k + wd.length ≤ x.cps.size := by
  have h1 := (Bool.and_eq_true_iff.mp h).1
  rw [decide_eq_true_eq] at h1
  have e : PySem.fromIndex x.length (k : Int) = k := by
    unfold PySem.fromIndex
    rw [if_neg (by omega)]
    show (max (0 : Int) (k : Int)).toNat = k
    omega
  rw [e] at h1
  exact h1
theorem read_equals_spec {w : World} {cx dx : Addr} {x : Str} {t : Tok} {k : Nat} {tk k1 k2 : Tok} {rest : List (Addr × Obj)} (hne : ∀ p ∈ rest, p.1 ≠ dx) (hc : cx ≠ dx) (hx : x.length ≤ 1000) (hk0 : k ≤ x.cps.size) :
   CallFly w 28 [.ref cx] ((dx, curD w x t k tk k1 k2) :: (cx, instObj 259 dx) :: rest) 30 180
     (fun v nw => ∃ a b, SpEnd x k a ∧ Txt.startswith3 x (Str.ofString "=") (a : Nat) = true ∧ SpEnd x (a + 1) b ∧ ∃ tk', nw = (dx, curD w x t (b : Nat) tk' k1 k2) :: (cx, instObj 259 dx) :: rest)
     (fun k' nw => ∃ a, SpEnd x k a ∧ Txt.startswith3 x (Str.ofString "=") (a : Nat) = false ∧ k' = (a : Int) ∧ ∃ tk', nw = (dx, curD w x t (a : Nat) tk' k1 k2) :: (cx, instObj 259 dx) :: rest) := by
  w_top off
  k_with_none
  (k_with "m:leaving ref" => (k_here; k_dflt (rename FlyD _ _ _ _ _ _ _ => R1; refine' flyOn2 R1 (h := ?_); k_whole; clear R1; intro h' R' U')))
  (k_with "m:call ref" => (k_here; (with_reducible show wpAny _ _ (call (Value.ref 228) _ _) _ _ _); k_dflt (refine' CallSpec.go (S := (spaces_core (by assumption) (by assumption) (by assumption) (by assumption))) (h := ?_); k_whole; rintro v' nw' h' tk' ⟨k2', tk2', hs', ⟨i', u', v1'⟩, n1'⟩ F' N'; subst v1' n1'; have hk2' := hs'.2.1)))
  (k_with "m:call ref" => (k_here; (with_reducible show wpAny _ _ (call (Value.ref 207) _ _) _ _ _); k_dflt (refine' CallFly.go (S := (expect_spec (by assumption) (by assumption) (by assumption) (by decide))) (h := ?_) (x := ?_); k_whole; rintro v' nw' h' tk' ⟨hs', tk2', n1'⟩ F' N'; subst n1'; have hk2' := startsAt hs'; rotate_left; rintro g' e' de' msg' t' k' u' k1' k2' nw' h' tk' ⟨kk', hs', n1'⟩ FG' R' U'; subst kk' n1'; rotate_right)))
  (k_with "m:enter" => (refine' code_def ?k1 ?k2 ?k3 ?k4 ?k5 ?kA ?kF ?kK ?k6 ?k7 ?k8 ?k9 ?kB ?_ ?c2 ?c3 ?c4 ?c5; (case kA => exact rfl); (case kF => exact rfl); (case kK => assumption); (case k1 => k_asm); (case k2 => k_asm); (case k3 => k_asm); (case k4 => k_asm); (case k5 => k_asm); (case k6 => k_is); (case k7 => k_is); (case k8 => ktr_room); (case k9 => first | exact BindsTo.of_eq rfl | exact binds_K (by k_in) rfl (by k_is) rfl rfl rfl); (case c5 => decide); (case kB => exact locs rfl); (case c2 => exact rfl); (case c3 => exact rfl); (case c4 => exact rfl); k_whole; intro g' L' h' FG' F' N' B' X' T'; (try dsimp only); (try k_lift B'); (try k_fold)))
  unfold CallFly
  k_fill
  intro mean mg mb dp un gd cn cs a ccd cl outer A₀ base h₀ L m s Q E B F X N T hk hd hu hret hfly
  refine wpAny_call ?_
  k_dflt (k_extra "m:enter")
  k_steps
  · k_dflt (
      refine' hret _ _ _ _ ⟨_, _, ?n1, ?n2, ?n3, _, rfl⟩ ?n4 ?n5
      (case n5 => assumption)
      (case n4 => assumption)
      (case n3 => assumption)
      (case n2 => assumption)
      (case n1 => assumption))
  · k_dflt (refine' hfly _ _ _ _ _ _ _ _ _ _ _ _ ⟨_, ?x1, ?x2, rfl, _, rfl⟩ ?x3 ?x4 ?x5; (case x4 => assumption); (case x5 => assumption); (case x3 => assumption); (case x2 => assumption); (case x1 => assumption))
end Mine
end

section
open PySem PySem.W PyProof.Rows PySem.Calls
set_option maxHeartbeats 2000000
namespace Mine
local macro_rules | `(tactic| k_all) => `(tactic| (with_reducible assumption))
local macro_rules | `(tactic| k_room) => `(tactic| ktr_room)
theorem until_spec {w : World} {cx dx : Addr} {x q : Str} {t qt : Tok} {k : Int} {tk k1 k2 : Tok} {rest : List (Addr × Obj)} (hne : ∀ p ∈ rest, p.1 ≠ dx) (hc : cx ≠ dx) (hx : x.length ≤ 1000) (hq : q.length ≤ 1000) (hk0 : 0 ≤ k) (hk1 : k ≤ 1001) :
   CallFly w 214 [.ref cx, .str q qt] ((dx, curD w x t k tk k1 k2) :: (cx, instObj 259 dx) :: rest) 30 180
     (fun v nw => ¬ Txt.find3 x q k < 0 ∧ ∃ u tk', v = .str (Txt.slice x (some k) (some (Txt.find3 x q k))) u ∧ nw = (dx, curD w x t (Txt.find3 x q k + q.length) tk' k1 k2) :: (cx, instObj 259 dx) :: rest)
     (fun k' nw => k' = k ∧ Txt.find3 x q k < 0 ∧ nw = (dx, curD w x t k tk k1 k2) :: (cx, instObj 259 dx) :: rest) := by
  w_top off
  k_with_none
  (k_with "m:leaving ref" => (k_here; k_dflt (rename FlyD _ _ _ _ _ _ _ => R1; refine' flyOn2 R1 (h := ?_); k_whole; clear R1; intro h' R' U')))
  (k_with "m:call ref" => (k_here; (with_reducible show wpAny _ _ (call (Value.ref 185) _ _) _ _ _); k_dflt (refine' CallFly.go (S := fault_spec) (h := ?_) (x := ?_); k_whole; (exact fun v news' h' tk' q => q.elim); rintro g' e' de' msg' t' k' u' k1' k2' nw' h' tk' ⟨kk', n1'⟩ FG' R' U'; subst kk' n1')))
  (k_with "m:enter" => (refine' code_def ?k1 ?k2 ?k3 ?k4 ?k5 ?kA ?kF ?kK ?k6 ?k7 ?k8 ?k9 ?kB ?_ ?c2 ?c3 ?c4 ?c5; (case kA => exact rfl); (case kF => exact rfl); (case kK => assumption); (case k1 => k_asm); (case k2 => k_asm); (case k3 => k_asm); (case k4 => k_asm); (case k5 => k_asm); (case k6 => k_is); (case k7 => k_is); (case k8 => ktr_room); (case k9 => first | exact BindsTo.of_eq rfl | exact binds_K (by k_in) rfl (by k_is) rfl rfl rfl); (case c5 => decide); (case kB => exact locs rfl); (case c2 => exact rfl); (case c3 => exact rfl); (case c4 => exact rfl); k_whole; intro g' L' h' FG' F' N' B' X' T'; (try dsimp only); (try k_lift B'); (try k_fold)))
  unfold CallFly
  k_fill
  intro mean mg mb dp un gd cn cs a ccd cl outer A₀ base h₀ L m s Q E B F X N T hk hd hu hret hfly
  refine wpAny_call ?_
  k_dflt (k_extra "m:enter")
  k_steps
  · k_dflt (refine' hfly _ _ _ _ _ _ _ _ _ _ _ _ ⟨rfl, ?x1, rfl⟩ ?x3 ?x4 ?x5; (case x4 => assumption); (case x5 => assumption); (case x3 => assumption); (case x1 => assumption))
  · k_dflt (
      refine' hret _ _ _ _ ⟨?n1, _, _, rfl, rfl⟩ ?n4 ?n5
      (case n5 => assumption)
      (case n4 => assumption)
      (case n1 => assumption))
end Mine
end

section
open PySem PySem.W PyProof.Rows PySem.Calls
set_option maxHeartbeats 2000000
namespace Mine
local macro_rules | `(tactic| k_all) => `(tactic| (with_reducible assumption))
local macro_rules | `(tactic| k_room) => `(tactic| ktr_room)
/-- what quoted does from the place k: the place of the fault, or the value, its place and the end -/
def quoF (x : Str) (k : Nat) : Except Int (Str × Int × Int) :=
  let q := Txt.slice x (some k) (some (k + 1))
  if (q != Str.ofString "\"") && (q != Str.ofString "'") then .error k
  else if Txt.find3 x q (k + 1) < 0 then .error (k + 1)
  else .ok (Txt.slice x (some (k + 1)) (some (Txt.find3 x q (k + 1))), k + 1, Txt.find3 x q (k + 1) + q.length)
theorem quo_no {x : Str} {k : Nat} (h1 : (Txt.slice x (some k) (some (k + 1)) != Str.ofString "\"") = true) (h2 : (Txt.slice x (some k) (some (k + 1)) != Str.ofString "'") = true) : quoF x k = .error k := by
  simp only [quoF, h1, h2, Bool.and_self, if_true]
theorem quo_and {a b : Bool} (h : a = false ∨ (a = true ∧ b = false)) : (a && b) = false := by rcases h with rfl | ⟨rfl, rfl⟩ <;> rfl
theorem quo_end {x : Str} {k : Nat} (h : (Txt.slice x (some k) (some (k + 1)) != Str.ofString "\"") = false ∨ ((Txt.slice x (some k) (some (k + 1)) != Str.ofString "\"") = true ∧ (Txt.slice x (some k) (some (k + 1)) != Str.ofString "'") = false))
    (h2 : Txt.find3 x (Txt.slice x (some k) (some (k + 1))) (k + 1) < 0) : quoF x k = .error (k + 1) := by
  simp only [quoF, quo_and h, Bool.false_eq_true, if_false, h2, if_true]
theorem quo_ok {x : Str} {k : Nat} (h : (Txt.slice x (some k) (some (k + 1)) != Str.ofString "\"") = false ∨ ((Txt.slice x (some k) (some (k + 1)) != Str.ofString "\"") = true ∧ (Txt.slice x (some k) (some (k + 1)) != Str.ofString "'") = false))
    (h2 : ¬ Txt.find3 x (Txt.slice x (some k) (some (k + 1))) (k + 1) < 0) : quoF x k = .ok (Txt.slice x (some (k + 1)) (some (Txt.find3 x (Txt.slice x (some k) (some (k + 1))) (k + 1))), k + 1, Txt.find3 x (Txt.slice x (some k) (some (k + 1))) (k + 1) + (Txt.slice x (some k) (some (k + 1))).length) := by
  simp only [quoF, quo_and h, Bool.false_eq_true, if_false, h2]
theorem quoted_spec {w : World} {cx dx : Addr} {x : Str} {t : Tok} {k : Nat} {tk k1 k2 : Tok} {rest : List (Addr × Obj)} (hne : ∀ p ∈ rest, p.1 ≠ dx) (hc : cx ≠ dx) (hx : x.length ≤ 1000) (hk0 : k ≤ x.cps.size) :
   CallFly w 249 [.ref cx] ((dx, curD w x t k tk k1 k2) :: (cx, instObj 259 dx) :: rest) 40 210
     (fun v nw => ∃ val pl en u u2 D tk', quoF x k = .ok (val, pl, en) ∧ v = .ref D ∧ nw = (D, tupObj [.str val u, .int pl u2]) :: (dx, curD w x t en tk' k1 k2) :: (cx, instObj 259 dx) :: rest)
     (fun k' nw => quoF x k = .error k' ∧ ∃ at_ tk', nw = (dx, curD w x t at_ tk' k1 k2) :: (cx, instObj 259 dx) :: rest) := by
  w_top off
  k_with_none
  (k_with "m:leaving ref" => (k_here; k_dflt (rename FlyD _ _ _ _ _ _ _ => R1; refine' flyOn2 R1 (h := ?_); k_whole; clear R1; intro h' R' U')))
  (k_with "m:call ref" => (k_here; (with_reducible show wpAny _ _ (call (Value.ref 185) _ _) _ _ _); k_dflt (refine' CallFly.go (S := fault_spec) (h := ?_) (x := ?_); k_whole; (exact fun v news' h' tk' q => q.elim); rintro g' e' de' msg' t' k' u' k1' k2' nw' h' tk' ⟨kk', n1'⟩ FG' R' U'; subst kk' n1')))
  (k_with "m:call ref" => (k_here; (with_reducible show wpAny _ _ (call (Value.ref 171) _ _) _ _ _); k_dflt (refine' CallSpec.go (S := (peek_spec (by assumption) (by assumption) (by assumption) (by assumption))) (h := ?_); k_whole; rintro v' nw' h' tk' ⟨u', v1', n1'⟩ F' N'; subst v1' n1')))
  (k_with "m:call ref" => (k_here; (with_reducible show wpAny _ _ (call (Value.ref 214) _ _) _ _ _); k_dflt (refine' CallFly.go (S := (until_spec (by assumption) (by assumption) (by assumption) (by assumption) (by first | assumption | omega) (by first | assumption | omega))) (h := ?_) (x := ?_); k_whole; rintro v' nw' h' tk' ⟨hs', u', tk2', v1', n1'⟩ F' N'; subst v1' n1'; rotate_left; rintro g' e' de' msg' t' k' u' k1' k2' nw' h' tk' ⟨kk', hs', n1'⟩ FG' R' U'; subst n1'; rotate_right)))
  (k_with "m:enter" => (refine' code_def ?k1 ?k2 ?k3 ?k4 ?k5 ?kA ?kF ?kK ?k6 ?k7 ?k8 ?k9 ?kB ?_ ?c2 ?c3 ?c4 ?c5; (case kA => exact rfl); (case kF => exact rfl); (case kK => assumption); (case k1 => k_asm); (case k2 => k_asm); (case k3 => k_asm); (case k4 => k_asm); (case k5 => k_asm); (case k6 => k_is); (case k7 => k_is); (case k8 => ktr_room); (case k9 => first | exact BindsTo.of_eq rfl | exact binds_K (by k_in) rfl (by k_is) rfl rfl rfl); (case c5 => decide); (case kB => exact locs rfl); (case c2 => exact rfl); (case c3 => exact rfl); (case c4 => exact rfl); k_whole; intro g' L' h' FG' F' N' B' X' T'; (try dsimp only); (try k_lift B'); (try k_fold)))
  unfold CallFly
  k_fill
  intro mean mg mb dp un gd cn cs a ccd cl outer A₀ base h₀ L m s Q E B F X N T hk hd hu hret hfly
  have hx2 : x.cps.size ≤ 1000 := hx
  have hq1 : (Txt.slice x (some k) (some (k + 1))).length ≤ 1000 := Nat.le_trans (Txt.slice_le _ _ _) hx
  refine wpAny_call ?_
  k_dflt (k_extra "m:enter")
  k_steps
  · k_dflt (refine' hfly _ _ _ _ _ _ _ _ _ _ _ _ ⟨quo_no ?x1 ?x2, _, _, rfl⟩ ?x3 ?x4 ?x5; (case x4 => assumption); (case x5 => assumption); (case x3 => assumption); (case x1 => assumption); (case x2 => assumption))
  · k_dflt (refine' hret _ _ _ _ ⟨_, _, _, _, _, _, _, quo_ok (.inr ⟨?y1, ?y2⟩) ?y3, rfl, rfl⟩ ?y4 ?y5; (case y5 => assumption); (case y4 => assumption); (case y3 => assumption); (case y2 => assumption); (case y1 => assumption))
  · rename _ = (k : Int) + 1 => kk
    subst kk
    k_dflt (refine' hfly _ _ _ _ _ _ _ _ _ _ _ _ ⟨quo_end (.inr ⟨?w1, ?w2⟩) ?w3, _, _, rfl⟩ ?w4 ?w5 ?w6; (case w5 => assumption); (case w6 => assumption); (case w4 => assumption); (case w1 => assumption); (case w2 => assumption); (case w3 => assumption))
  · k_dflt (refine' hret _ _ _ _ ⟨_, _, _, _, _, _, _, quo_ok (.inl ?v1) ?v3, rfl, rfl⟩ ?v4 ?v5; (case v5 => assumption); (case v4 => assumption); (case v3 => assumption); (case v1 => assumption))
  · rename _ = (k : Int) + 1 => kk
    subst kk
    k_dflt (refine' hfly _ _ _ _ _ _ _ _ _ _ _ _ ⟨quo_end (.inl ?u1) ?u3, _, _, rfl⟩ ?u4 ?u5 ?u6; (case u5 => assumption); (case u6 => assumption); (case u4 => assumption); (case u1 => assumption); (case u3 => assumption))
end Mine
end

section
open PySem PySem.W PyProof.Rows PySem.Calls
set_option maxHeartbeats 2000000
namespace Mine
local macro_rules | `(tactic| k_all) => `(tactic| (with_reducible assumption))
local macro_rules | `(tactic| k_room) => `(tactic| ktr_room)
def spG (x : Str) : Nat → Nat → Nat
  | 0, k => k
  | n + 1, k => if isSp (cpN x k) then spG x n (k + 1) else k
/-- where the spaces from the place k end -/
def spF (x : Str) (k : Nat) : Nat := spG x (x.cps.size - k) k
theorem spG_of {x : Str} {k' : Nat} : ∀ n k, k + n = x.cps.size → SpEnd x k k' → k' = spG x n k
  | 0, k, h, ⟨h1, h2, _, _⟩ => by show k' = k; omega
  | n + 1, k, h, ⟨h1, h2, h3, h4⟩ => by
    show k' = if isSp (cpN x k) then spG x n (k + 1) else k
    by_cases e : k' = k
    · subst e
      rw [h4 (by omega)]; rfl
    · rw [h3 k (Nat.le_refl _) (by omega)]
      exact spG_of n (k + 1) (by omega) ⟨by omega, h2, fun j a b => h3 j (by omega) b, h4⟩
theorem spF_of {x : Str} {k k' : Nat} (h : SpEnd x k k') : spF x k = k' := (spG_of _ _ (by have := h.1; have := h.2.1; omega) h).symm
/-- what read_equals does -/
def eqF (x : Str) (k : Nat) : Except Int Nat := if Txt.startswith3 x (Str.ofString "=") (spF x k : Nat) then .ok (spF x (spF x k + 1)) else .error (spF x k : Nat)
/-- what read_word_value does -/
def valF (x : Str) (k : Nat) (wd : Str) : Except Int (Str × Int × Int) := if Txt.startswith3 x wd k then (match eqF x (k + wd.length) with | .error e => .error e | .ok b => quoF x b) else .error k
theorem CallFly.mono {w : World} {f : Addr} {vs : List Value} {news : List (Addr × Obj)} {dd uu : Nat} {R R' : Value → List (Addr × Obj) → Prop} {XR XR' : Int → List (Addr × Obj) → Prop} (S : CallFly w f vs news dd uu R XR)
   (h1 : ∀ v n, R v n → R' v n) (h2 : ∀ v n, XR v n → XR' v n) : CallFly w f vs news dd uu R' XR' := by
  intro mean mg mb dp un gd cn cs a ccd cl outer A₀ base h₀ L m s Q E B F X N T hk hd hu hret hfly
  exact S.use B F X N T hk hd hu (fun v n h t r => hret v n h t (h1 _ _ r)) (fun g e de msg t k u k1 k2 n h tk r => hfly g e de msg t k u k1 k2 n h tk (h2 _ _ r))
theorem read_equals2 {w : World} {cx dx : Addr} {x : Str} {t : Tok} {k : Nat} {tk k1 k2 : Tok} {rest : List (Addr × Obj)} (hne : ∀ p ∈ rest, p.1 ≠ dx) (hc : cx ≠ dx) (hx : x.length ≤ 1000) (hk0 : k ≤ x.cps.size) :
   CallFly w 28 [.ref cx] ((dx, curD w x t k tk k1 k2) :: (cx, instObj 259 dx) :: rest) 30 180
     (fun v nw => ∃ b tk', eqF x k = .ok b ∧ b ≤ x.cps.size ∧ nw = (dx, curD w x t (b : Nat) tk' k1 k2) :: (cx, instObj 259 dx) :: rest)
     (fun k' nw => eqF x k = .error k' ∧ ∃ at_ tk', nw = (dx, curD w x t at_ tk' k1 k2) :: (cx, instObj 259 dx) :: rest) := by
  refine (read_equals_spec hne hc hx hk0).mono ?_ ?_
  · rintro v n ⟨a, b, h1, h2, h3, tk', rfl⟩
    refine ⟨b, tk', ?_, h3.2.1, rfl⟩
    unfold eqF
    rw [spF_of h1, h2, spF_of h3]; rfl
  · rintro k' n ⟨a, h1, h2, rfl, tk', rfl⟩
    refine ⟨?_, _, _, rfl⟩
    unfold eqF
    rw [spF_of h1, h2]; rfl
theorem valF_no {x wd : Str} {k : Nat} (h : Txt.startswith3 x wd k = false) : valF x k wd = .error k := by unfold valF; rw [h]; rfl
theorem valF_eq {x wd : Str} {k : Nat} {e : Int} (h : Txt.startswith3 x wd k = true) (h2 : eqF x (k + wd.length) = .error e) : valF x k wd = .error e := by unfold valF; rw [h, h2]; rfl
theorem valF_go {x wd : Str} {k b : Nat} {r : Except Int (Str × Int × Int)} (h : Txt.startswith3 x wd k = true) (h2 : eqF x (k + wd.length) = .ok b) (h3 : quoF x b = r) : valF x k wd = r := by unfold valF; rw [h, h2]; exact h3
theorem read_word_value_spec {w : World} {cx dx : Addr} {x wd : Str} {t wt : Tok} {k : Nat} {tk k1 k2 : Tok} {rest : List (Addr × Obj)} (hne : ∀ p ∈ rest, p.1 ≠ dx) (hc : cx ≠ dx) (hx : x.length ≤ 1000) (hw : wd.length ≤ 10) :
   CallFly w 35 [.ref cx, .str wd wt] ((dx, curD w x t k tk k1 k2) :: (cx, instObj 259 dx) :: rest) 50 230
     (fun v nw => ∃ val pl en u u2 D tk', valF x k wd = .ok (val, pl, en) ∧ v = .ref D ∧ nw = (D, tupObj [.str val u, .int pl u2]) :: (dx, curD w x t en tk' k1 k2) :: (cx, instObj 259 dx) :: rest)
     (fun k' nw => valF x k wd = .error k' ∧ ∃ at_ tk', nw = (dx, curD w x t at_ tk' k1 k2) :: (cx, instObj 259 dx) :: rest) := by
  w_top off
  k_with_none
  (k_with "m:leaving ref" => (k_here; k_dflt (rename FlyD _ _ _ _ _ _ _ => R1; refine' flyOn2 R1 (h := ?_); k_whole; clear R1; intro h' R' U')))
  (k_with "m:call ref" => (k_here; (with_reducible show wpAny _ _ (call (Value.ref 185) _ _) _ _ _); k_dflt (refine' CallFly.go (S := fault_spec) (h := ?_) (x := ?_); k_whole; (exact fun v news' h' tk' q => q.elim); rintro g' e' de' msg' t' k' u' k1' k2' nw' h' tk' ⟨kk', n1'⟩ FG' R' U'; subst kk' n1')))
  (k_with "m:call ref" => (k_here; (with_reducible show wpAny _ _ (call (Value.ref 207) _ _) _ _ _); k_dflt (refine' CallFly.go (S := (expect_spec (by assumption) (by assumption) (by assumption) (by assumption))) (h := ?_) (x := ?_); k_whole; rintro v' nw' h' tk' ⟨hs', tk2', n1'⟩ F' N'; subst n1'; have hk2' := startsAt hs'; rotate_left; rintro g' e' de' msg' t' k' u' k1' k2' nw' h' tk' ⟨kk', hs', n1'⟩ FG' R' U'; subst kk' n1'; rotate_right)))
  (k_with "m:call ref" => (k_here; (with_reducible show wpAny _ _ (call (Value.ref 28) _ _) _ _ _); k_dflt (refine' CallFly.go (S := (read_equals2 (by assumption) (by assumption) (by assumption) (by assumption))) (h := ?_) (x := ?_); k_whole; rintro v' nw' h' tk' ⟨b', tk2', hs', hb', n1'⟩ F' N'; subst n1'; rotate_left; rintro g' e' de' msg' t' k' u' k1' k2' nw' h' tk' ⟨hs', at', tk2', n1'⟩ FG' R' U'; subst n1'; rotate_right)))
  (k_with "m:call ref" => (k_here; (with_reducible show wpAny _ _ (call (Value.ref 249) _ _) _ _ _); k_dflt (refine' CallFly.go (S := (quoted_spec (by assumption) (by assumption) (by assumption) (by assumption))) (h := ?_) (x := ?_); k_whole; rintro v' nw' h' tk' ⟨val', pl', en', u', u2', D', tk2', hs', v1', n1'⟩ F' N'; subst v1' n1'; rotate_left; rintro g' e' de' msg' t' k' u' k1' k2' nw' h' tk' ⟨hs', at', tk2', n1'⟩ FG' R' U'; subst n1'; rotate_right)))
  (k_with "m:enter" => (refine' code_def ?k1 ?k2 ?k3 ?k4 ?k5 ?kA ?kF ?kK ?k6 ?k7 ?k8 ?k9 ?kB ?_ ?c2 ?c3 ?c4 ?c5; (case kA => exact rfl); (case kF => exact rfl); (case kK => assumption); (case k1 => k_asm); (case k2 => k_asm); (case k3 => k_asm); (case k4 => k_asm); (case k5 => k_asm); (case k6 => k_is); (case k7 => k_is); (case k8 => ktr_room); (case k9 => first | exact BindsTo.of_eq rfl | exact binds_K (by k_in) rfl (by k_is) rfl rfl rfl); (case c5 => decide); (case kB => exact locs rfl); (case c2 => exact rfl); (case c3 => exact rfl); (case c4 => exact rfl); k_whole; intro g' L' h' FG' F' N' B' X' T'; (try dsimp only); (try k_lift B'); (try k_fold)))
  unfold CallFly
  k_fill
  intro mean mg mb dp un gd cn cs a ccd cl outer A₀ base h₀ L m s Q E B F X N T hk hd hu hret hfly
  have hx2 : x.cps.size ≤ 1000 := hx
  refine wpAny_call ?_
  k_dflt (k_extra "m:enter")
  k_steps
  · k_dflt (refine' hret _ _ _ _ ⟨_, _, _, _, _, _, _, valF_go ?y1 ?y2 ?y3, rfl, rfl⟩ ?y4 ?y5; (case y5 => assumption); (case y4 => assumption); (case y3 => assumption); (case y2 => assumption); (case y1 => assumption))
  · k_dflt (refine' hfly _ _ _ _ _ _ _ _ _ _ _ _ ⟨valF_go ?x1 ?x2 ?x3, _, _, rfl⟩ ?x4 ?x5 ?x6; (case x5 => assumption); (case x6 => assumption); (case x4 => assumption); (case x3 => assumption); (case x2 => assumption); (case x1 => assumption))
  · k_dflt (refine' hfly _ _ _ _ _ _ _ _ _ _ _ _ ⟨valF_eq ?z1 ?z2, _, _, rfl⟩ ?z4 ?z5 ?z6; (case z5 => assumption); (case z6 => assumption); (case z4 => assumption); (case z2 => assumption); (case z1 => assumption))
  · k_dflt (refine' hfly _ _ _ _ _ _ _ _ _ _ _ _ ⟨valF_no ?w1, _, _, rfl⟩ ?w4 ?w5 ?w6; (case w5 => assumption); (case w6 => assumption); (case w4 => assumption); (case w1 => assumption))
end Mine
end

section
open PySem PySem.W PyProof.Rows PySem.Calls
set_option maxHeartbeats 2000000
namespace Mine
section
variable {w : World} {A₀ : Around} {E : Value → Shared → Prop} {s' : Shared} {base g g₀ G : Heap} {outer : List Env} {L a e de : Addr} {m : Str → Option Value} {name : Str} {scope : Scope} {cd : Value}
  {n : Str} {b₀ : Stmt} {suite : List Stmt} {pos np : Pos} {rest : List ExceptHandler} {Q : Flow → Shared → Prop} {news : List (Addr × Obj)}
  {p : Program} {loose : List Str} {mean : ExcName → Option Value} {mg mb : Str → Option Value} {x : Str}
theorem caughtD (R : FlyD base G (envOf name scope L a cd :: outer) e de news s'.heap) (F : Fr g L G m) (K : Below A₀ base outer g) (hsm : G.UpToSlots s'.heap) (XB : (hd.heap_39 w.params).In base) (TB : Top p loose mean mg mb base)
    (D : KtsDicts (outer.filterMap (·.frame)) g) (T0 : KtsTurn (outer.filterMap (·.frame)) g₀ g)
    (ex : nsIn (hd.heap_39 w.params) mainGlobals x = some (some (.ref 139)))
    (k : ∀ h' g' oe vs tk, oe.cls = .ref 139 → oe.dict = some de → oe.data = .fields vs → KtsTurn (outer.filterMap (·.frame)) g₀ g' → Fr g' L h' (fun y => if y = n then some (.ref e) else m y) → News g' L h' ((e, oe) :: news) → Below A₀ base outer g' → (hd.heap_39 w.params).In g' → Top p loose mean mg mb g' → KtsDicts (outer.filterMap (·.frame)) g' →
      wpAny (MX w) ((A₀.deeper (envOf name scope L a cd)).mark (some (.ref e))) (execs (b₀ :: suite) (envOf name scope L a cd))
        (fun f s₄ => wpAny (MX w) (A₀.deeper (envOf name scope L a cd)) (do bindName (envOf name scope L a cd) n .none; unbindBehindTheSuite (envOf name scope L a cd) n pos) (fun _ s₅ => Q f s₅) E s₄)
        (AsSuiteRaised (MX w) ((A₀.deeper (envOf name scope L a cd)).mark (some (.ref e))) (envOf name scope L a cd) n pos (notedBy (MX w) ((A₀.deeper (envOf name scope L a cd)).mark (some (.ref e))) (envOf name scope L a cd) (cameBackBy (MX w) (A₀.deeper (envOf name scope L a cd)) (envOf name scope L a cd) E)))
        { s' with heap := h', toks := tk })
    (hk : scope.kind = .function := by rfl) (hlo : (envOf name scope L a cd).kindOf n = some .local := by rfl) (hx : (envOf name scope L a cd).kindOf x = some .globalImplicit := by rfl) (hd9 : (x == ("__debug__" : Str)) = false := by decide) :
    wpAny (MX w) (A₀.deeper (envOf name scope L a cd)) (noteFrame (.ref e) (envOf name scope L a cd))
      (fun _ s₂ => wpAny (MX w) (A₀.deeper (envOf name scope L a cd)) (setFlight (.ref e) none) (fun _ s₃ =>
        wpAny (MX w) (A₀.deeper (envOf name scope L a cd)) (handleBy (.ref e) (envOf name scope L a cd) (.ExceptHandler (some (.Name x np)) (some n) (b₀ :: suite) pos :: rest)) Q E s₃) E s₂) E s' := by
  obtain ⟨ge, B, hB, hBG, hl, hen, air, car⟩ := R
  have hL : B.get? L = none := by
    obtain ⟨_, ⟨L', _, hf, hn', _⟩, _⟩ := air.frames
    obtain rfl : L = L' := Option.some.inj hf
    exact hn'
  refine noteD (Around.frames_deeper K.stack) rfl air hen (.inr rfl) car fun h₄ air₄ sm₄ car₄ => ?_
  refine landD air₄ car₄ fun h₅ air₅ sm₅ car₅ => ?_
  have up₅ := hsm.trans (sm₄.trans sm₅)
  obtain ⟨g₅, T₅, F₅, K₅⟩ := kts_ground K F hBG air₅.stays up₅
  have X₅ : (hd.heap_39 w.params).In g₅ := XB.keeps K₅.stays
  have P₅ : TopRead p loose mg mb g₅ := topRead_of (TB.keeps K₅.stays)
  obtain ⟨ob, vb, hob, hobc, -⟩ := id car₅
  obtain ⟨nm, q', N, bs, bm, hdct, sn, sub, ab, col, dd, k0, k1, k2, k3, k5, newId, hC, hbase, hbT⟩ := kts_cls (C := 139) (T := "BaseException") X₅ (by kernel_rfl)
  have hC₅ := F₅.keep _ _ hC
  refine wpAny_handleBy_cons (codeAny_handlers_test (name_K F₅ X₅ P₅ ex ?_ hk hx hd9)) (by intro q; cases q)
  refine wpAny_excMatches_sub_self hC₅ hob hobc hbase (codeAny_handlers_suite_as ?_)
  refine landD air₅ car₅ fun h₆ air₆ sm₆ car₆ => ?_
  have up₆ := up₅.trans sm₆
  obtain ⟨g₆, T₆, F₆, K₆⟩ := kts_ground K F hBG air₆.stays up₆
  obtain ⟨oe, ws, hoe, hoec, hoed, hof, -⟩ := car₆
  have ne₆ : g₆.get? e = none := T₆.none_ _ (kts_none F.keep ge)
  have N₆ := News.more F₆ (News.nil) hoe (fun es n q => by rw [hof] at q; cases q) ne₆
  have Nl : News g₆ L h₆ news := fun q hq => ⟨air₆.stays _ _ (hl q hq).1, (fun z => by have := (hl q hq).1; rw [z, hL] at this; cases this), T₆.none_ _ (kts_none F.keep (hl q hq).2)⟩
  have NN : News g₆ L h₆ ((e, oe) :: news) := fun q hq => by
    rcases List.mem_cons.mp hq with rfl | hq
    · exact N₆ _ (.head _)
    · exact Nl q hq
  refine stN F₆ NN (fun h₇ F₇ N₇ => ?_) hk hlo
  exact k h₇ g₆ oe ws _ hoec hoed hof (T0.trans T₆) F₇ N₇ K₆ (XB.keeps K₆.stays) (TB.keeps K₆.stays) (D.turn T₆)
end
end Mine
end

section
open PySem PySem.W PyProof.Rows PySem.Calls PySem.Builtin.ObjectAttr
set_option maxHeartbeats 2000000
namespace Mine
section
variable {w : World} {A : Around} {E : Value → Shared → Prop} {s : Shared}
theorem get_place {e de : Addr} {oe : Obj} {vs : Array Value} {msg : Str} {t u k1 k2 : Tok} {k : Int} {x : Bool} {Q : Value → Shared → Prop} (X : (hd.heap_39 w.params).In s.heap) (he : s.heap.get? e = some oe) (hc : oe.cls = .ref 139) (hdi : oe.dict = some de) (hd9 : oe.data = .fields vs)
   (hde : s.heap.get? de = some (faultD w msg t k u k1 k2)) (h : Q (.int k u) { s with toks := s.toks + 1 }) : wpAny (MX w) A (getAttr (.ref e) (Str.ofString "place") x) Q E s := by
  obtain ⟨hh, g, d, tk, os⟩ := s
  have L0 : Looks (MX w) hh (typeOf (.ref e)) (.ref 139) := by
    have := (Looks.ld (M := MX w) (part := some headPart) he).andThen (f := fun o => pure o.cls) (b := oe.cls) .now
    rw [hc] at this
    exact this
  have L1 : Looks (MX w) hh (typeLookup (.ref 139) "__getattribute__") (some (.builtin "BaseException.__getattribute__")) := Looks.of_peek X (by kernel_rfl)
  have L2 : Looks (MX w) hh (typeLookup (.ref 139) "__getattr__") none := Looks.of_peek X (by kernel_rfl)
  have L3 : Looks (MX w) hh (typeLookup (.ref 139) (Str.ofString "place")) none := Looks.of_peek X (by kernel_rfl)
  unfold getAttr getAttrBy
  refine wpAny_bind (wpAny_mkText (wpAny_holding (wpAny_bind (L0.at (wpAny_bind (L1.at ?_))))))
  have L4 : Looks (MX w) hh (bindSpecial (.builtin "BaseException.__getattribute__") (.ref e)) (.builtin "BaseException.__getattribute__", [.ref e]) := Looks.of_peek X (by kernel_rfl)
  have sub : Looks (MX w) hh (isInstance (.ref e) (.type "BaseException")) true := L0.andThen (Looks.of_peek X (by kernel_rfl))
  show wpAny _ _ (getAttrByItsOwn _ _ _ _ _ _) _ _ _
  unfold getAttrByItsOwn
  have hcg : ∀ nm : Value, callGetattribute (.ref e) nm (.builtin "BaseException.__getattribute__") x = boundAndCalled (.builtin "BaseException.__getattribute__") (.ref e) nm := fun nm => by unfold callGetattribute; cases x <;> rfl
  refine wpAny_bind (L2.at (wpAny_bind (PySem.wpAny_attempt (wpAny_holding ?_))))
  rw [hcg]
  unfold boundAndCalled
  refine wpAny_bind (L4.at (wpAny_call ?_))
  have FS : plainId "BaseException.__getattribute__" = true := by decide +kernel
  have ka : builtinKind "BaseException.__getattribute__" = some .slot := by decide +kernel
  have kb : splitId "BaseException.__getattribute__" = some ("BaseException", "__getattribute__") := by decide +kernel
  have en := PySem.F.entry_bexc_ga
  have ao := PySem.F.args_bexc_ga (.ref e) (.str (Str.ofString "place") tk)
  refine codeAny_call_builtin FS en (@check_slot (MX w) _ _ _ "BaseException.__getattribute__" "BaseException" "__getattribute__" (.ref e) [.str (Str.ofString "place") tk] [] _ ka kb sub ao ?_)
  unfold Builtin.«object.__getattribute__» Builtin.ObjectAttr.find Builtin.ObjectAttr.ownThenClass Builtin.ObjectAttr.inOwnDict Builtin.ObjectAttr.ownDict instanceDict
  obtain ⟨cd, hcd, hd'⟩ := any_some (show (clsIn (hd.heap_39 w.params) 139).any (·.hasDict) = true from by kernel_rfl)
  have LC := looks_clsIn (M := MX w) X hcd
  clear FS ka kb en ao sub hcg L1 L2 L4
  obtain ⟨oc, od, odt, osl⟩ := oe
  dsimp only at hc hdi hd9
  subst hc hdi hd9
  repeat (first | with_reducible refine Looks.at L0 ?_ | with_reducible refine Looks.at L3 ?_ | with_reducible refine Looks.at LC ?_ | with_reducible refine wpAny_loadPart_at he ?_ | wp_step)
  exact h
end
end Mine
end

section
open PySem PySem.W PyProof.Rows PySem.Calls
set_option maxHeartbeats 2000000
namespace Mine
local macro_rules | `(tactic| k_all) => `(tactic| (with_reducible assumption))
local macro_rules | `(tactic| k_room) => `(tactic| ktr_room)
/-- a call in which a fault may be caught: the slots of the frames below may have turned -/
def CallTurn (w : World) (f : Addr) (vs : List Value) (news : List (Addr × Obj)) (dd uu : Nat) (R : Value → List (Addr × Obj) → Prop) : Prop :=
  ∀ (mean : ExcName → Option Value) (mg mb : Str → Option Value) (dp un : Nat) (gd : Option (List Code)) (cn : Str) (cs : Scope) (a : Addr) (ccd : Value) (outer : List Env) (A₀ : Around) (base g₀ h₀ : Heap) (L : Addr) (m : Str → Option Value) (s : Shared) (Q E : Value → Shared → Prop),
    Below A₀ base outer h₀ → Fr h₀ L s.heap m → (hd.heap_39 w.params).In h₀ → News h₀ L s.heap news → Top hd.view_39 (looseW hd.view_39 [Str.ofString "SyntaxFault"]) mean mg mb h₀ →
    (hd.heap_39 w.params).In base → Top hd.view_39 (looseW hd.view_39 [Str.ofString "SyntaxFault"]) mean mg mb base → KtsDicts (outer.filterMap (·.frame)) h₀ → KtsTurn (outer.filterMap (·.frame)) g₀ h₀ → cs.kind = .function →
    dp + dd < recursionLimit → un + uu < cLine →
    (∀ v news' h' tk' h₀', R v news' → KtsTurn (outer.filterMap (·.frame)) g₀ h₀' → Fr h₀' L h' m → News h₀' L h' news' → Below A₀ base outer h₀' → (hd.heap_39 w.params).In h₀' → Top hd.view_39 (looseW hd.view_39 [Str.ofString "SyntaxFault"]) mean mg mb h₀' → KtsDicts (outer.filterMap (·.frame)) h₀' → Q v { s with heap := h', toks := tk' }) →
    wpAny (model PySem.Challenge.rw_xm0661_01.row.prog w) (ktrTop dp un gd cn cs L a ccd [] outer) (call (.ref f) vs) Q E s
theorem CallTurn.use {w : World} {f : Addr} {vs : List Value} {news : List (Addr × Obj)} {dd uu : Nat} {R : Value → List (Addr × Obj) → Prop} (S : CallTurn w f vs news dd uu R)
  {mean : ExcName → Option Value} {mg mb : Str → Option Value} {dp un : Nat} {gd : Option (List Code)} {cn : Str} {cs : Scope} {a : Addr} {ccd : Value} {outer : List Env} {A₀ : Around} {base g₀ h₀ : Heap} {L : Addr} {m : Str → Option Value} {s : Shared} {Q E : Value → Shared → Prop}
  (B : Below A₀ base outer h₀) (F : Fr h₀ L s.heap m) (X : (hd.heap_39 w.params).In h₀) (N : News h₀ L s.heap news) (T : Top hd.view_39 (looseW hd.view_39 [Str.ofString "SyntaxFault"]) mean mg mb h₀)
  (XB : (hd.heap_39 w.params).In base) (TB : Top hd.view_39 (looseW hd.view_39 [Str.ofString "SyntaxFault"]) mean mg mb base) (D : KtsDicts (outer.filterMap (·.frame)) h₀) (T0 : KtsTurn (outer.filterMap (·.frame)) g₀ h₀) (hk : cs.kind = .function)
  (hdd : dp + dd < recursionLimit) (hu : un + uu < cLine)
  (h : ∀ v news' h' tk' h₀', R v news' → KtsTurn (outer.filterMap (·.frame)) g₀ h₀' → Fr h₀' L h' m → News h₀' L h' news' → Below A₀ base outer h₀' → (hd.heap_39 w.params).In h₀' → Top hd.view_39 (looseW hd.view_39 [Str.ofString "SyntaxFault"]) mean mg mb h₀' → KtsDicts (outer.filterMap (·.frame)) h₀' → Q v { s with heap := h', toks := tk' }) :
    wpAny (model PySem.Challenge.rw_xm0661_01.row.prog w) (ktrTop dp un gd cn cs L a ccd [] outer) (call (.ref f) vs) Q E s := S _ _ _ _ _ _ _ _ _ _ _ _ _ _ _ _ _ _ _ _ B F X N T XB TB D T0 hk hdd hu h
theorem CallTurn.go {w : World} {f : Addr} {vs : List Value} {news : List (Addr × Obj)} {dd uu : Nat} {R : Value → List (Addr × Obj) → Prop}
  {mean : ExcName → Option Value} {mg mb : Str → Option Value} {dp un : Nat} {gd : Option (List Code)} {cn : Str} {cs : Scope} {a : Addr} {ccd : Value} {outer : List Env} {A₀ : Around} {base g₀ h₀ : Heap} {L : Addr} {m : Str → Option Value} {s : Shared} {Q E : Value → Shared → Prop}
  (N : News h₀ L s.heap news := by assumption) (B : Below A₀ base outer h₀ := by assumption) (F : Fr h₀ L s.heap m := by assumption) (X : (hd.heap_39 w.params).In h₀ := by assumption) (T : Top hd.view_39 (looseW hd.view_39 [Str.ofString "SyntaxFault"]) mean mg mb h₀ := by assumption) (XB : (hd.heap_39 w.params).In base := by assumption) (TB : Top hd.view_39 (looseW hd.view_39 [Str.ofString "SyntaxFault"]) mean mg mb base := by assumption) (D : KtsDicts (outer.filterMap (·.frame)) h₀ := by assumption) (T0 : KtsTurn (outer.filterMap (·.frame)) g₀ h₀ := by first | assumption | exact KtsTurn.refl) (hk : cs.kind = .function := by first | rfl | assumption) (hdd : dp + dd < recursionLimit := by ktr_room) (hu : un + uu < cLine := by ktr_units)
  (S : CallTurn w f vs news dd uu R)
  (h : ∀ v news' h' tk' h₀', R v news' → KtsTurn (outer.filterMap (·.frame)) g₀ h₀' → Fr h₀' L h' m → News h₀' L h' news' → Below A₀ base outer h₀' → (hd.heap_39 w.params).In h₀' → Top hd.view_39 (looseW hd.view_39 [Str.ofString "SyntaxFault"]) mean mg mb h₀' → KtsDicts (outer.filterMap (·.frame)) h₀' → Q v { s with heap := h', toks := tk' }) :
    wpAny (model PySem.Challenge.rw_xm0661_01.row.prog w) (ktrTop dp un gd cn cs L a ccd [] outer) (call (.ref f) vs) Q E s := S.use B F X N T XB TB D T0 hk hdd hu h

theorem ne_all {l : List (Addr × Obj)} {d : Addr} (h : ∀ p ∈ l, p.1 < d) : ∀ p ∈ l, p.1 ≠ d := fun p hp => Nat.ne_of_lt (h p hp)
theorem News.swap {h₀ h : Heap} {L : Addr} {a b : Addr × Obj} {r : List (Addr × Obj)} (N : News h₀ L h (a :: b :: r)) : News h₀ L h (b :: a :: r) := News.perm N fun p hp => by
  rcases List.mem_cons.mp hp with h | hp
  · rw [h]; exact .tail _ (.head _)
  rcases List.mem_cons.mp hp with h | hp
  · rw [h]; exact .head _
  · exact .tail _ (.tail _ hp)
theorem lt_allLt {d : Addr} {l : List (Addr × Obj)} (h : AllLt d l) : ∀ p ∈ l, p.1 < d := by
  induction l with
  | nil => intro p hp; exact absurd hp (List.not_mem_nil)
  | cons q r ih =>
    intro p hp
    rcases List.mem_cons.mp hp with e | e
    · rw [e]; exact h.1
    · exact ih h.2 p e
theorem law_equals_spec {w : World} {x : Str} {t : Tok} {k : Nat} {tk : Tok} {news : List (Addr × Obj)} (hx : x.length ≤ 1000) (hk0 : k ≤ x.cps.size) :
   CallTurn w 308 [.str x t, .int k tk] news 60 250 (fun v nw => ∃ D o, v = .ref D ∧ nw = (D, o) :: news ∧ (∀ p ∈ news, p.1 < D) ∧
      ((∃ b u, eqF x k = .ok b ∧ o = tupObj [.bool true, .int (b : Nat) u]) ∨ (∃ e u, eqF x k = .error e ∧ o = tupObj [.bool false, .int e u]))) := by
  w_top off
  k_with_none
  (k_with "m:call ref" => (k_here; (with_reducible show wpAny _ _ (call (Value.ref 28) _ _) _ _ _); k_dflt (refine' CallFly.go (N := News.swap (by assumption)) (S := (read_equals2 (by exact ne_all (by assumption)) (by exact Nat.ne_of_gt (by assumption)) (by assumption) (by assumption))) (h := ?_) (x := ?_); k_whole; rintro v' nw' h' tk' ⟨b', tk2', hs', hb', n1'⟩ F' N'; subst n1'; rotate_left; rintro g' e' de' msg' t' k' u' k1' k2' nw' h' tk' ⟨hs', at', tk2', n1'⟩ FG' R' U'; subst n1'; rotate_right)))
  (k_with "m:noteFrame ref" => (k_here; k_dflt (rename FlyD _ _ _ _ _ _ _ => R1; refine' caughtD R1 ?F ?K ?U ?XB ?TB ?D ?T0 ?ex ?_; (case U => assumption); (case F => assumption); (case K => assumption); (case XB => assumption); (case TB => assumption); (case D => assumption); (case T0 => first | assumption | exact KtsTurn.refl); (case ex => k_is); k_whole; clear R1; intro h' g' oe' vs' tk' oc' od' of' T' F' N' B' X' P' D')))
  (k_with "m:getAttr ref" => (k_here; (with_reducible show wpAny _ _ (getAttr _ ("place" : Str) _) _ _ _); k_dflt (rename News _ _ _ (_ :: (_, faultD _ _ _ _ _ _ _) :: _) => N9; rename Fr _ _ _ _ => F9; refine' get_place ?X (N9 _ (List.Mem.head _)).1 ?hc ?hdi ?hd9 (N9 _ (List.Mem.tail _ (List.Mem.head _))).1 ?_; (case X => exact Frag.In.keeps (by assumption) F9.keep); (case hc => assumption); (case hdi => assumption); (case hd9 => assumption); k_whole)))
  (k_with "m:enter" => (refine' code_defS ?k1 ?k2 ?k3 ?k4 ?k5 ?XB ?TB ?D ?T0 ?kA ?k6 ?k7 ?k8 ?k9 ?kB ?_ ?cK ?c2 ?c3 ?c4 ?c5; (case kA => exact rfl); (case k2 => k_asm); (case k1 => k_asm); (case XB => assumption); (case TB => assumption); (case D => assumption); (case T0 => assumption); (case k3 => k_asm); (case k4 => k_asm); (case k5 => k_asm); (case k6 => k_is); (case k7 => k_is); (case k8 => ktr_room); (case k9 => first | exact binds_K (by k_in) rfl (by k_is) rfl rfl rfl | exact BindsTo.of_eq rfl); (case kB => exact locs rfl); (case cK => assumption); (case c2 => exact rfl); (case c3 => exact rfl); (case c4 => exact rfl); (case c5 => decide); k_whole; intro g' L' h' FG' F' N' B' X' T' D'; (try dsimp only); (try k_lift B'); (try k_fold)))
  unfold CallTurn
  k_fill
  intro mean mg mb dp un gd cn cs a ccd outer A₀ base g₀ h₀ L m s Q E B F X N T XB TB D T0 hk hd hu hret
  refine wpAny_call ?_
  k_dflt (k_extra "m:enter")
  k_steps
  · k_dflt (
      (with_reducible rename _ ∧ _ ∧ AllLt _ news => l1)
      (with_reducible rename News h₀ L _ (_ :: _) => N1)
      refine' hret _ _ _ _ h₀ ⟨_, _, rfl, rfl, lt_allLt l1.2.2, .inl ⟨_, _, ?x1, rfl⟩⟩ T0 ?x2 (News.perm N1 ?x3) B X T D
      (case x2 => assumption)
      (case x1 => assumption)
      (case x3 =>
        intro p hp
        rcases List.mem_cons.mp hp with h | h
        · rw [h]; exact List.Mem.head _
        · exact List.Mem.tail _ (List.Mem.tail _ (List.Mem.tail _ h))))
  · k_dflt (
      (with_reducible rename _ ∧ _ ∧ _ ∧ _ ∧ AllLt _ news => l1)
      (with_reducible rename News _ L _ (_ :: _) => N1)
      refine' hret _ _ _ _ _ ⟨_, _, rfl, rfl, lt_allLt l1.2.2.2.2, .inr ⟨_, _, ?y1, rfl⟩⟩ ?y4 ?y2 (News.perm N1 ?y3) ?y5 ?y6 ?y7 ?y8
      (case y2 => assumption)
      (case y1 => assumption)
      (case y4 => assumption)
      (case y5 => assumption)
      (case y6 => assumption)
      (case y7 => assumption)
      (case y8 => assumption)
      (case y3 =>
        intro p hp
        rcases List.mem_cons.mp hp with h | h
        · rw [h]; exact List.Mem.head _
        · exact List.Mem.tail _ (List.Mem.tail _ (List.Mem.tail _ (List.Mem.tail _ (List.Mem.tail _ h))))))
end Mine
end

section
open PySem PySem.W PyProof.Rows PySem.Calls
set_option maxHeartbeats 2000000
namespace Mine
local macro_rules | `(tactic| k_all) => `(tactic| (with_reducible assumption))
local macro_rules | `(tactic| k_room) => `(tactic| ktr_room)
theorem law_value_spec {w : World} {x wd : Str} {t wt : Tok} {k : Nat} {tk : Tok} {news : List (Addr × Obj)} (hx : x.length ≤ 1000) (hw : wd.length ≤ 10) :
   CallTurn w 322 [.str x t, .int k tk, .str wd wt] news 80 300 (fun v nw => (∃ D val pl en u u2 u3, valF x k wd = .ok (val, pl, en) ∧ v = .ref D ∧ nw = (D, tupObj [.str val u, .int pl u2, .int en u3]) :: news ∧ (∀ p ∈ news, p.1 < D)) ∨
      (∃ e u, valF x k wd = .error e ∧ v = .int e u ∧ nw = news)) := by
  w_top off
  k_with_none
  (k_with "m:noteFrame ref" => (k_here; k_dflt (rename FlyD _ _ _ _ _ _ _ => R1; refine' caughtD R1 ?F ?K ?U ?XB ?TB ?D ?T0 ?ex ?_; (case U => assumption); (case F => assumption); (case K => assumption); (case XB => assumption); (case TB => assumption); (case D => assumption); (case T0 => first | assumption | exact KtsTurn.refl); (case ex => k_is); k_whole; clear R1; intro h' g' oe' vs' tk' oc' od' of' T' F' N' B' X' P' D')))
  (k_with "m:getAttr ref" => (k_here; (with_reducible show wpAny _ _ (getAttr _ ("place" : Str) _) _ _ _); k_dflt (rename News _ _ _ (_ :: (_, faultD _ _ _ _ _ _ _) :: _) => N9; rename Fr _ _ _ _ => F9; refine' get_place ?X (N9 _ (List.Mem.head _)).1 ?hc ?hdi ?hd9 (N9 _ (List.Mem.tail _ (List.Mem.head _))).1 ?_; (case X => exact Frag.In.keeps (by assumption) F9.keep); (case hc => assumption); (case hdi => assumption); (case hd9 => assumption); k_whole)))
  (k_with "m:call ref" => (k_here; (with_reducible show wpAny _ _ (call (Value.ref 35) _ _) _ _ _); k_dflt (refine' CallFly.go (N := News.swap (by assumption)) (S := (read_word_value_spec (by exact ne_all (by assumption)) (by exact Nat.ne_of_gt (by assumption)) (by assumption) (by assumption))) (h := ?_) (x := ?_); k_whole; rintro v' nw' h' tk' ⟨val', pl', en', u', u2', D', tk2', hs', v1', n1'⟩ F' N'; subst v1' n1'; rotate_left; rintro g' e' de' msg' t' k' u' k1' k2' nw' h' tk' ⟨hs', at', tk2', n1'⟩ FG' R' U'; subst n1'; rotate_right)))
  (k_with "m:enter" => (refine' code_defS ?k1 ?k2 ?k3 ?k4 ?k5 ?XB ?TB ?D ?T0 ?kA ?k6 ?k7 ?k8 ?k9 ?kB ?_ ?cK ?c2 ?c3 ?c4 ?c5; (case kA => exact rfl); (case k2 => k_asm); (case k1 => k_asm); (case XB => assumption); (case TB => assumption); (case D => assumption); (case T0 => assumption); (case k3 => k_asm); (case k4 => k_asm); (case k5 => k_asm); (case k6 => k_is); (case k7 => k_is); (case k8 => ktr_room); (case k9 => first | exact binds_K (by k_in) rfl (by k_is) rfl rfl rfl | exact BindsTo.of_eq rfl); (case kB => exact locs rfl); (case cK => assumption); (case c2 => exact rfl); (case c3 => exact rfl); (case c4 => exact rfl); (case c5 => decide); k_whole; intro g' L' h' FG' F' N' B' X' T' D'; (try dsimp only); (try k_lift B'); (try k_fold)))
  unfold CallTurn
  k_fill
  intro mean mg mb dp un gd cn cs a ccd outer A₀ base g₀ h₀ L m s Q E B F X N T XB TB D T0 hk hd hu hret
  refine wpAny_call ?_
  k_dflt (k_extra "m:enter")
  k_steps
  · k_dflt (
      (with_reducible rename _ ∧ _ ∧ _ ∧ AllLt _ news => l1)
      (with_reducible rename News h₀ L _ (_ :: _) => N1)
      refine' hret _ _ _ _ h₀ (.inl ⟨_, _, _, _, _, _, _, ?x1, rfl, rfl, lt_allLt l1.2.2.2⟩) T0 ?x2 (News.perm N1 ?x3) B X T D
      (case x2 => assumption)
      (case x1 => assumption)
      (case x3 =>
        intro p hp
        rcases List.mem_cons.mp hp with h | h
        · rw [h]; exact List.Mem.head _
        · exact List.Mem.tail _ (List.Mem.tail _ (List.Mem.tail _ (List.Mem.tail _ h)))))
  · k_dflt (
      (with_reducible rename News _ L _ (_ :: _) => N1)
      refine' hret _ _ _ _ _ (.inr ⟨_, _, ?y1, rfl, rfl⟩) ?y4 ?y2 (News.perm N1 ?y3) ?y5 ?y6 ?y7 ?y8
      (case y2 => assumption)
      (case y1 => assumption)
      (case y4 => assumption)
      (case y5 => assumption)
      (case y6 => assumption)
      (case y7 => assumption)
      (case y8 => assumption)
      (case y3 =>
        intro p h
        exact List.Mem.tail _ (List.Mem.tail _ (List.Mem.tail _ (List.Mem.tail _ h)))))
end Mine
end

section
open PySem PySem.W PyProof.Rows PySem.Calls
set_option maxHeartbeats 2000000
namespace Mine
local macro_rules | `(tactic| k_all) => `(tactic| (with_reducible assumption))
local macro_rules | `(tactic| k_room) => `(tactic| ktr_room)
def strOf : Value → Option Str
  | .str s _ => some s
  | _ => none
theorem strs_of {v : Value} {vs : List Value} (hv : v ∈ vs) (h : (vs.all fun v => match strOf v with | some s => decide (s.length ≤ 8) | none => false) = true) : ∃ s u, v = .str s u ∧ s ∈ vs.filterMap strOf ∧ s.length ≤ 8 := by
  have := List.all_eq_true.mp h v hv
  cases v with
  | str s u => exact ⟨s, u, rfl, List.mem_filterMap.mpr ⟨_, hv, rfl⟩, by simpa [strOf] using this⟩
  | _ => simp [strOf] at this
def spL : List Str := [Str.ofString "", Str.ofString "", Str.ofString " ", Str.ofString "\t\n", Str.ofString "\r"]
theorem law_spaces_core {w : World} {src : Addr} {x y : Int} {tx ty : Tok} {n : Nat} {rest : List (Addr × Obj)} (hne : ∀ p ∈ rest, p.1 ≠ src) (hs : SrcOk x y) :
   CallSpec w 301 [.ref src] ((src, srcObj x y tx ty n) :: rest) 4 30
    (fun v nw => ∃ sp u x' y' tx' ty' n', v = .str sp u ∧ sp ∈ spL ∧ sp.length ≤ 8 ∧ SrcOk x' y' ∧ nw = (src, srcObj x' y' tx' ty' n') :: rest) := by
  w_top off
  k_with_none
  (k_with "m:call ref" => (k_here; (with_reducible show wpAny _ _ (call (Value.ref 284) _ _) _ _ _); k_dflt (refine' CallSpec.go (S := (one_spec (by k_updF) (by k_mem) (by k_ne) (by assumption) (by exact Nat.le_of_ble_eq_true (by kernel_rfl)) (by exact Nat.le_of_ble_eq_true (by kernel_rfl)))) (h := ?_); k_whole; rintro v9 nw9 h9 tk9 ⟨hv9, x9, y9, tx9, ty9, n9, hs9, f9⟩ F9 N9; subst f9; obtain ⟨s9, u9, e9, m9, l9⟩ := strs_of hv9 (by kernel_rfl); subst e9; clear hv9; (try dsimp only at N9))))
  (k_with "m:enter" => (refine' code_def ?k1 ?k2 ?k3 ?k4 ?k5 ?kA ?kF ?kK ?k6 ?k7 ?k8 ?k9 ?kB ?_ ?c2 ?c3 ?c4 ?c5; (case kA => exact rfl); (case kF => exact rfl); (case kK => assumption); (case k1 => k_asm); (case k2 => k_asm); (case k3 => k_asm); (case k4 => k_asm); (case k5 => k_asm); (case k6 => k_is); (case k7 => k_is); (case k8 => ktr_room); (case k9 => first | exact BindsTo.of_eq rfl | exact binds_K (by k_in) rfl (by k_is) rfl rfl rfl); (case c5 => decide); (case kB => exact locs rfl); (case c2 => exact rfl); (case c3 => exact rfl); (case c4 => exact rfl); k_whole; intro g' L' h' FG' F' N' B' X' T'; (try dsimp only); (try k_lift B'); (try k_fold)))
  unfold CallSpec
  k_fill
  intro mean mg mb dp un gd cn cs a ccd cl outer A₀ base h₀ L m s Q E B F X N T hk hd hu hret
  refine wpAny_call ?_
  k_dflt (k_extra "m:enter")
  k_steps
  k_dflt (
    (with_reducible rename News h₀ L _ (_ :: _) => N1)
    refine' hret _ _ _ _ ⟨_, _, _, _, _, _, _, rfl, ?x1, ?x2, ?x3, rfl⟩ ?x4 (News.perm N1 fun p hp => List.Mem.tail _ hp)
    (case x4 => assumption)
    (case x1 => assumption)
    (case x2 => assumption)
    (case x3 => assumption))
theorem law_spaces_spec {w : World} {src : Addr} {x y : Int} {tx ty : Tok} {n : Nat} {news : List (Addr × Obj)} {U : Obj → List (Addr × Obj)} (hU : UpdF src (srcObj x y tx ty n) news U) (hs : SrcOk x y) :
   CallSpec w 301 [.ref src] news 4 30
    (fun v nw => ∃ sp u x' y' tx' ty' n', v = .str sp u ∧ sp ∈ spL ∧ sp.length ≤ 8 ∧ SrcOk x' y' ∧ nw = U (srcObj x' y' tx' ty' n')) := by
  intro mean mg mb dp un gd cn cs a ccd cl outer A₀ base h₀ L m s Q E B F X N T hk hd hu hret
  obtain ⟨rest, h1, h2, h3⟩ := UpdF.front hU
  have N1 : News h₀ L s.heap ((src, srcObj x y tx ty n) :: rest) := News.perm N fun p hp => (h2 p).mpr hp
  refine (law_spaces_core h1 hs).use B F X N1 T hk hd hu ?_
  rintro v news' h' tk' ⟨sp, u, x', y', tx', ty', n', rfl, hm, hl, h2, rfl⟩ F' N'
  exact hret _ _ h' tk' ⟨_, _, x', y', tx', ty', n', rfl, hm, hl, h2, rfl⟩ F' (News.perm N' fun p hp => (h3 _ p).mp hp)
end Mine
end

section
open PySem PySem.W PyProof.Rows PySem.Calls
set_option maxHeartbeats 2000000
namespace Mine
/-- a text's numbers -/
def li (x : Str) : List Nat := x.cps.toList
theorem li_len (x : Str) : (li x).length = x.length := by simp [li, Str.length]
theorem li_app (a b : Str) : li (a ++ b) = li a ++ li b := by simp [li, Str.cps_append]
theorem li_inj {a b : Str} (h : li a = li b) : a = b := by
  obtain ⟨⟨a⟩⟩ := a
  obtain ⟨⟨b⟩⟩ := b
  have h' : a = b := h
  rw [h']
def preL : List Nat → List Nat → Bool
  | [], _ => true
  | _ :: _, [] => false
  | c :: w, d :: l => Nat.beq c d && preL w l
def spB (c : Nat) : Bool := Nat.beq c 32 || Nat.beq c 9 || Nat.beq c 10 || Nat.beq c 13
def spcL : List Nat → Nat
  | [] => 0
  | c :: l => bif spB c then spcL l + 1 else 0
def idxL (c : Nat) : List Nat → Option Nat
  | [] => none
  | d :: l => bif Nat.beq d c then some 0 else (match idxL c l with | none => none | some i => some (i + 1))
theorem preL_eq : ∀ w l : List Nat, preL w l = (decide (w.length ≤ l.length) && (l.take w.length == w))
  | [], l => by simp [preL]
  | c :: w, [] => by simp [preL]
  | c :: w, d :: l => by
    rw [preL, preL_eq w l]
    have e : Nat.beq c d = (d == c) := by
      rw [Bool.eq_iff_iff, beq_iff_eq, Nat.beq_eq]; exact eq_comm
    rw [e]
    simp only [List.length_cons, List.take_succ_cons, Nat.add_le_add_iff_right]
    show (d == c && (decide (w.length ≤ l.length) && (List.take w.length l == w))) = (decide (w.length ≤ l.length) && (d == c && (List.take w.length l == w)))
    cases (d == c) <;> cases (decide (w.length ≤ l.length)) <;> rfl
theorem start_li {x wd : Str} {k : Nat} (hw : 0 < wd.length) : Txt.startswith3 x wd k = preL (li wd) ((li x).drop k) := by
  have hf : fromIndex x.length (k : Int) = k := by unfold fromIndex; omega
  unfold Txt.startswith3
  rw [hf, StrLaws.subAt_eq, preL_eq, li_len, List.length_drop, li_len]
  have e : decide (k + wd.length ≤ x.length) = decide (wd.length ≤ x.length - k) := by rw [decide_eq_decide]; omega
  rw [e]; rfl
theorem sp_eq (c : Nat) : isSp c = spB c := by
  unfold isSp spB
  rw [Bool.eq_iff_iff]
  simp only [decide_eq_true_eq, Bool.or_eq_true, Nat.beq_eq]
  omega
theorem drop_li {x : Str} {k : Nat} (h : k < x.cps.size) : (li x).drop k = cpN x k :: (li x).drop (k + 1) := by
  have h' : k < (li x).length := by rw [li_len]; exact h
  rw [List.drop_eq_getElem_cons h']
  congr 1
  simp [li, cpN, h]
theorem spG_li (x : Str) : ∀ n k, k + n = x.cps.size → spG x n k = k + spcL ((li x).drop k)
  | 0, k, h => by
    have : (li x).drop k = [] := List.drop_eq_nil_of_le (by rw [li_len]; show x.cps.size ≤ k; omega)
    rw [this]; rfl
  | n + 1, k, h => by
    rw [drop_li (by omega)]
    show (if isSp (cpN x k) then spG x n (k + 1) else k) = k + (bif spB (cpN x k) then spcL ((li x).drop (k + 1)) + 1 else 0)
    rw [sp_eq]
    cases spB (cpN x k) with
    | true => rw [if_pos rfl, spG_li x n (k + 1) (by omega)]; show _ = k + (_ + 1); omega
    | false => rw [if_neg (by decide)]; rfl
theorem spF_li (x : Str) (k : Nat) (h : k ≤ x.cps.size) : spF x k = k + spcL ((li x).drop k) := spG_li x _ k (by omega)
theorem spcL_le : ∀ l : List Nat, spcL l ≤ l.length
  | [] => Nat.le_refl _
  | c :: l => by
    show (bif spB c then spcL l + 1 else 0) ≤ l.length + 1
    have := spcL_le l
    cases spB c
    · exact Nat.zero_le _
    · show spcL l + 1 ≤ _; omega
theorem idx_none : ∀ {c : Nat} {l : List Nat}, idxL c l = none → ∀ j : Nat, l[j]? ≠ some c
  | c, [], _, j => by simp
  | c, d :: l, h, j => by
    unfold idxL at h
    cases e : Nat.beq d c with
    | true => rw [e] at h; cases h
    | false =>
      rw [e] at h
      have h' : idxL c l = none := by
        cases hq : idxL c l with
        | none => rfl
        | some i => rw [hq] at h; cases h
      cases j with
      | zero => simp; exact Nat.ne_of_beq_eq_false e
      | succ j => simpa using idx_none h' j
theorem idx_some : ∀ {c : Nat} {l : List Nat} {i : Nat}, idxL c l = some i → l[i]? = some c ∧ ∀ j, j < i → l[j]? ≠ some c
  | c, [], i, h => by cases h
  | c, d :: l, i, h => by
    unfold idxL at h
    cases e : Nat.beq d c with
    | true =>
      rw [e] at h
      obtain rfl : 0 = i := Option.some.inj h
      exact ⟨by simp [Nat.eq_of_beq_eq_true e], fun j hj => absurd hj (Nat.not_lt_zero _)⟩
    | false =>
      rw [e] at h
      cases hq : idxL c l with
      | none => rw [hq] at h; cases h
      | some i' =>
        rw [hq] at h
        obtain rfl : i' + 1 = i := Option.some.inj h
        have ⟨h1, h2⟩ := idx_some hq
        refine ⟨by simpa using h1, fun j hj => ?_⟩
        cases j with
        | zero => simp; exact Nat.ne_of_beq_eq_false e
        | succ j => simpa using h2 j (by omega)
theorem getD_li {x : Str} {v : Nat} (hv : v < x.length) : (li x)[v]? = some (x.cps.getD v 0) := by
  have hv' : v < x.cps.size := hv
  simp [li, hv']
theorem find_li (x : Str) (c k : Nat) (hk : k ≤ x.length) : Txt.find3 x ⟨#[c]⟩ (k : Int) = match idxL c ((li x).drop k) with | none => -1 | some i => ((k + i : Nat) : Int) := by
  have hf : fromIndex x.length (k : Int) = k := by unfold fromIndex; omega
  have hl := li_len x
  rcases StrLaws.find3_spec x c k with ⟨h0, h1⟩ | ⟨m, h0, h1, h2, h3, h4⟩
  · rw [h0]
    rw [hf] at h1
    cases hq : idxL c ((li x).drop k) with
    | none => rfl
    | some i =>
      exfalso
      have ⟨h5, _⟩ := idx_some hq
      rw [List.getElem?_drop] at h5
      have hlt : k + i < (li x).length := by
        have := List.getElem?_eq_some_iff.mp h5
        exact this.1
      rw [getD_li (by omega)] at h5
      exact h1 (k + i) (by omega) (by omega) (Option.some.inj h5)
  · rw [h0]
    rw [hf] at h1 h4
    cases hq : idxL c ((li x).drop k) with
    | none =>
      exfalso
      refine idx_none hq (m - k) ?_
      rw [List.getElem?_drop, show k + (m - k) = m by omega, getD_li h2, h3]
    | some i =>
      have ⟨h5, h6⟩ := idx_some hq
      rw [List.getElem?_drop] at h5
      have hlt : k + i < (li x).length := (List.getElem?_eq_some_iff.mp h5).1
      rw [getD_li (by omega)] at h5
      have e1 : ¬ k + i < m := fun q => h4 (k + i) (by omega) q (Option.some.inj h5)
      have e2 : ¬ m - k < i := fun q => by
        refine h6 (m - k) q ?_
        rw [List.getElem?_drop, show k + (m - k) = m by omega, getD_li h2, h3]
      show (m : Int) = ((k + i : Nat) : Int)
      omega
theorem slice_li {x : Str} {i j : Nat} (h : i ≤ j) (h2 : j ≤ x.length) : li (Txt.slice x (some i) (some j)) = ((li x).drop i).take (j - i) := by
  have := slice_closes (x := x) (i := i) (j := j) ⟨by omega, by omega, by rw [show x.cps.toList.length = x.length by simp [Str.length]]; omega⟩
  rw [eq_of_beq this]
  simp only [li]
  congr 1
  omega
theorem slice_over {x : Str} {i : Nat} (h : x.length ≤ i) : Txt.slice x (some (i : Int)) (some (i + 1)) = Str.empty := by
  have e : Builtin.Str.strSliceIndices (some (i : Int)) (some ((i : Int) + 1)) 1 x.length = [] := by
    unfold Builtin.Str.strSliceIndices sliceRange
    have a1 : ¬ (i : Int) < 0 := by omega
    have a2 : ¬ (i : Int) + 1 < 0 := by omega
    have a3 : min (i : Int) (x.length : Int) = x.length := by omega
    have a4 : min ((i : Int) + 1) (x.length : Int) = x.length := by omega
    simp [a1, a2, a3, a4]
  unfold Txt.slice
  rw [e]
  split
  · rename_i h'
    have : x.length = 0 := by simp at h'; omega
    exact li_inj (List.eq_nil_of_length_eq_zero ((li_len x).trans this))
  · rfl
def up : Except Nat (List Nat × Nat × Nat) → Except Int (Str × Int × Int)
  | .error e => .error (e : Int)
  | .ok (v, p, e) => .ok (⟨v.toArray⟩, (p : Int), (e : Int))
def quoL (k : Nat) : List Nat → Except Nat (List Nat × Nat × Nat)
  | [] => .error k
  | q :: r => bif Nat.beq q 34 || Nat.beq q 39 then (match idxL q r with | none => .error (k + 1) | some i => .ok (r.take i, k + 1, k + 1 + i + 1)) else .error k
/-- read_word_value upon lists: l is what stands from the place k on -/
def valL (l : List Nat) (k : Nat) (wd : List Nat) : Except Nat (List Nat × Nat × Nat) :=
  bif preL wd l then
    (let l1 := l.drop wd.length
     let n1 := spcL l1
     let l2 := l1.drop n1
     bif preL [61] l2 then
      (let l3 := l2.drop 1
       let n2 := spcL l3
       quoL (k + wd.length + n1 + 1 + n2) (l3.drop n2))
     else .error (k + wd.length + n1))
  else .error k
theorem one_li : li (Str.ofString "\"") = [34] := by decide +kernel
theorem two_li : li (Str.ofString "'") = [39] := by decide +kernel
theorem eqs_li : li (Str.ofString "=") = [61] := by decide +kernel
theorem ne_li {a b : Str} : (a != b) = !(li a == li b) := by
  rw [bne]
  congr 1
  rw [Bool.eq_iff_iff, beq_iff_eq, beq_iff_eq]
  exact ⟨fun h => by rw [h], li_inj⟩
theorem quo_li {x : Str} {k : Nat} (hk : k ≤ x.length) : quoF x k = up (quoL k ((li x).drop k)) := by
  by_cases h : k < x.length
  · have hd := drop_li (x := x) (k := k) h
    have hs : li (Txt.slice x (some (k : Int)) (some (k + 1))) = [cpN x k] := by
      have := slice_li (x := x) (i := k) (j := k + 1) (by omega) (by omega)
      rw [hd, show k + 1 - k = 1 by omega] at this
      exact this
    have hq : Txt.slice x (some (k : Int)) (some (k + 1)) = ⟨#[cpN x k]⟩ := li_inj (hs.trans rfl)
    have hf := find_li x (cpN x k) (k + 1) (by omega)
    have hc : ((k + 1 : Nat) : Int) = (k : Int) + 1 := by omega
    rw [hc] at hf
    unfold quoF
    dsimp only
    rw [hd, hq, ne_li, ne_li, one_li, two_li, hf]
    show _ = up (bif Nat.beq (cpN x k) 34 || Nat.beq (cpN x k) 39 then (match idxL (cpN x k) ((li x).drop (k + 1)) with | none => Except.error (k + 1) | some i => Except.ok (((li x).drop (k + 1)).take i, k + 1, k + 1 + i + 1)) else Except.error k)
    have b1 : (li (⟨#[cpN x k]⟩ : Str) == [34]) = Nat.beq (cpN x k) 34 := by
      rw [Bool.eq_iff_iff, beq_iff_eq, Nat.beq_eq]
      exact ⟨fun h => (List.cons.inj h).1, fun h => by rw [h]; rfl⟩
    have b2 : (li (⟨#[cpN x k]⟩ : Str) == [39]) = Nat.beq (cpN x k) 39 := by
      rw [Bool.eq_iff_iff, beq_iff_eq, Nat.beq_eq]
      exact ⟨fun h => (List.cons.inj h).1, fun h => by rw [h]; rfl⟩
    rw [b1, b2]
    have b3 : (!Nat.beq (cpN x k) 34 && !Nat.beq (cpN x k) 39) = !(Nat.beq (cpN x k) 34 || Nat.beq (cpN x k) 39) := by cases Nat.beq (cpN x k) 34 <;> cases Nat.beq (cpN x k) 39 <;> rfl
    rw [b3]
    cases (Nat.beq (cpN x k) 34 || Nat.beq (cpN x k) 39) with
    | false => rfl
    | true =>
      show (if (false : Bool) = true then _ else _) = _
      rw [if_neg (by decide)]
      cases hi : idxL (cpN x k) ((li x).drop (k + 1)) with
      | none => show (if (-1 : Int) < 0 then _ else _) = _; rw [if_pos (by decide)]; exact congrArg Except.error hc.symm
      | some i =>
        have ⟨h5, _⟩ := idx_some hi
        rw [List.getElem?_drop] at h5
        have hlt : k + 1 + i < (li x).length := (List.getElem?_eq_some_iff.mp h5).1
        rw [li_len] at hlt
        show (if ((k + 1 + i : Nat) : Int) < 0 then _ else _) = _
        rw [if_neg (by omega)]
        have h7 : Txt.slice x (some ((k : Int) + 1)) (some ((k + 1 + i : Nat) : Int)) = ⟨(((li x).drop (k + 1)).take i).toArray⟩ := by
          refine li_inj ?_
          have := slice_li (x := x) (i := k + 1) (j := k + 1 + i) (by omega) (by omega)
          rw [show k + 1 + i - (k + 1) = i by omega, hc] at this
          rw [this]; rfl
        show Except.ok (Txt.slice x (some ((k : Int) + 1)) (some ((k + 1 + i : Nat) : Int)), (k : Int) + 1, ((k + 1 + i : Nat) : Int) + ((⟨#[cpN x k]⟩ : Str).length : Int)) = Except.ok (_, ((k + 1 : Nat) : Int), ((k + 1 + i + 1 : Nat) : Int))
        rw [h7]
        have e8 : ((k + 1 + i : Nat) : Int) + ((⟨#[cpN x k]⟩ : Str).length : Int) = ((k + 1 + i + 1 : Nat) : Int) := rfl
        rw [e8, hc]
  · have hd : (li x).drop k = [] := List.drop_eq_nil_of_le (by rw [li_len]; omega)
    have hq := slice_over (x := x) (i := k) (by omega)
    unfold quoF
    dsimp only
    rw [hd, hq, ne_li, ne_li, one_li, two_li]
    rfl
theorem val_li {x wd : Str} {k : Nat} (hw : 0 < wd.length) (hk : k ≤ x.length) : valF x k wd = up (valL ((li x).drop k) k (li wd)) := by
  have eA : ((li x).drop k).drop wd.length = (li x).drop (k + wd.length) := List.drop_drop ..
  unfold valF valL
  rw [start_li hw]
  cases h0 : preL (li wd) ((li x).drop k) with
  | false => rfl
  | true =>
    rw [preL_eq, Bool.and_eq_true, decide_eq_true_eq, List.length_drop, li_len, li_len] at h0
    have hk1 : k + wd.length ≤ x.length := by omega
    have hk1' : k + wd.length ≤ x.cps.size := hk1
    rw [if_pos rfl]
    simp only [cond_true]
    unfold eqF
    rw [spF_li x _ hk1', start_li (by decide : 0 < (Str.ofString "=").length), eqs_li, li_len, eA]
    have hs := spcL_le ((li x).drop (k + wd.length))
    rw [List.length_drop, li_len] at hs
    generalize hn : spcL ((li x).drop (k + wd.length)) = n1 at *
    have eB : ((li x).drop (k + wd.length)).drop n1 = (li x).drop (k + wd.length + n1) := List.drop_drop ..
    rw [eB]
    cases h2 : preL [61] ((li x).drop (k + wd.length + n1)) with
    | false => rfl
    | true =>
      rw [preL_eq, Bool.and_eq_true, decide_eq_true_eq, List.length_drop, li_len] at h2
      have h3 : 1 ≤ x.length - (k + wd.length + n1) := h2.1
      have eC : ((li x).drop (k + wd.length + n1)).drop 1 = (li x).drop (k + wd.length + n1 + 1) := List.drop_drop ..
      have hk2 : k + wd.length + n1 + 1 ≤ x.cps.size := by show _ ≤ x.length; omega
      rw [if_pos rfl, eC, spF_li x _ hk2]
      simp only [cond_true]
      have hs2 := spcL_le ((li x).drop (k + wd.length + n1 + 1))
      rw [List.length_drop, li_len] at hs2
      generalize hm : spcL ((li x).drop (k + wd.length + n1 + 1)) = n2 at *
      have eD : ((li x).drop (k + wd.length + n1 + 1)).drop n2 = (li x).drop (k + wd.length + n1 + 1 + n2) := List.drop_drop ..
      rw [eD]
      exact quo_li (by omega)
/-- read_equals upon lists -/
def eqL (l : List Nat) (k : Nat) : Except Nat Nat :=
  (let n1 := spcL l
   let l2 := l.drop n1
   bif preL [61] l2 then .ok (k + n1 + 1 + spcL (l2.drop 1)) else .error (k + n1))
def upE : Except Nat Nat → Except Int Nat
  | .error e => .error (e : Int)
  | .ok b => .ok b
theorem eq_li {x : Str} {k : Nat} (hk : k ≤ x.length) : eqF x k = upE (eqL ((li x).drop k) k) := by
  unfold eqF eqL
  have hk' : k ≤ x.cps.size := hk
  rw [spF_li x _ hk', start_li (by decide : 0 < (Str.ofString "=").length), eqs_li]
  have hs := spcL_le ((li x).drop k)
  rw [List.length_drop, li_len] at hs
  generalize hn : spcL ((li x).drop k) = n1 at *
  have eB : ((li x).drop k).drop n1 = (li x).drop (k + n1) := List.drop_drop ..
  dsimp only
  rw [eB]
  cases h2 : preL [61] ((li x).drop (k + n1)) with
  | false => rfl
  | true =>
    rw [preL_eq, Bool.and_eq_true, decide_eq_true_eq, List.length_drop, li_len] at h2
    have h3 : 1 ≤ x.length - (k + n1) := h2.1
    have eC : ((li x).drop (k + n1)).drop 1 = (li x).drop (k + n1 + 1) := List.drop_drop ..
    have hk2 : k + n1 + 1 ≤ x.cps.size := by show _ ≤ x.length; omega
    rw [if_pos rfl, eC, spF_li x _ hk2]
    rfl
theorem eq_cut {a y : Str} : eqF (a ++ y) a.length = upE (eqL (li y) a.length) := by
  rw [eq_li (by rw [Str.length_append]; omega), li_app, List.drop_left' (li_len a)]
def eqGoodL (l : List Nat) (k n : Nat) : Bool := match eqL l k with | .ok b => Nat.beq b n | .error _ => false
def eqBadL (l : List Nat) (k n : Nat) : Bool := match eqL l k with | .ok _ => false | .error e => Nat.beq e n
end Mine
end

section
open PySem PySem.W PyProof.Rows PySem.Calls
set_option maxHeartbeats 2000000
namespace Mine
local macro_rules | `(tactic| k_all) => `(tactic| (with_reducible assumption))
local macro_rules | `(tactic| k_room) => `(tactic| ktr_room)
abbrev eqL1 : List Str := [Str.ofString "", Str.ofString "a", Str.ofString " ="]
abbrev eqL2 : List Str := [Str.ofString "", Str.ofString "'x'", Str.ofString "=", Str.ofString "x "]
abbrev eqL3 : List Str := [Str.ofString "", Str.ofString "x=", Str.ofString "'='", Str.ofString "-"]
theorem eq_all1 : ∀ a ∈ eqL1, ∀ o ∈ spL, ∀ p ∈ spL, ∀ r ∈ eqL2, eqGoodL (li o ++ ([61] ++ (li p ++ li r))) a.length (a.length + o.length + (Str.ofString "=").length + p.length) = true := by decide +kernel
theorem eq_all2 : ∀ a ∈ eqL1, ∀ o ∈ spL, ∀ r ∈ eqL3, eqBadL (li o ++ li r) a.length (a ++ o).length = true := by decide +kernel
theorem eq_shape {a o p r : Str} : eqF (a ++ o ++ Str.ofString "=" ++ p ++ r) a.length = upE (eqL (li o ++ ([61] ++ (li p ++ li r))) a.length) := by
  have e : a ++ o ++ Str.ofString "=" ++ p ++ r = a ++ (o ++ Str.ofString "=" ++ p ++ r) := li_inj (by simp only [li_app, List.append_assoc])
  rw [e, eq_cut]
  simp only [li_app, List.append_assoc, eqs_li]
theorem eq_shape2 {a o r : Str} : eqF (a ++ o ++ r) a.length = upE (eqL (li o ++ li r) a.length) := by
  have e : a ++ o ++ r = a ++ (o ++ r) := li_inj (by simp only [li_app, List.append_assoc])
  rw [e, eq_cut, li_app]
theorem eq1 {a o p r : Str} {b : Nat} (q : eqF (a ++ o ++ Str.ofString "=" ++ p ++ r) a.length = .ok b) (ha : a ∈ eqL1) (ho : o ∈ spL) (hp : p ∈ spL) (hr : r ∈ eqL2) : b = a.length + o.length + (Str.ofString "=").length + p.length := by
  have h := eq_all1 a ha o ho p hp r hr
  rw [eq_shape] at q
  unfold eqGoodL at h
  cases hq : eqL (li o ++ ([61] ++ (li p ++ li r))) a.length with
  | error e => rw [hq] at h; cases h
  | ok b' =>
    rw [hq] at h q
    obtain rfl : b' = b := Except.ok.inj q
    exact Nat.eq_of_beq_eq_true h
theorem eq1e {a o p r : Str} {b : Int} (q : eqF (a ++ o ++ Str.ofString "=" ++ p ++ r) a.length = .error b) (ha : a ∈ eqL1) (ho : o ∈ spL) (hp : p ∈ spL) (hr : r ∈ eqL2) : False := by
  have h := eq_all1 a ha o ho p hp r hr
  rw [eq_shape] at q
  unfold eqGoodL at h
  cases hq : eqL (li o ++ ([61] ++ (li p ++ li r))) a.length with
  | error e => rw [hq] at h; cases h
  | ok b' => rw [hq] at q; cases q
theorem eq2 {a o r : Str} {b : Int} (q : eqF (a ++ o ++ r) a.length = .error b) (ha : a ∈ eqL1) (ho : o ∈ spL) (hr : r ∈ eqL3) : b = ((a ++ o).length : Nat) := by
  have h := eq_all2 a ha o ho r hr
  rw [eq_shape2] at q
  unfold eqBadL at h
  cases hq : eqL (li o ++ li r) a.length with
  | ok b' => rw [hq] at h; cases h
  | error e =>
    rw [hq] at h q
    obtain rfl : (e : Int) = b := Except.error.inj q
    rw [Nat.eq_of_beq_eq_true h]
theorem eq2o {a o r : Str} {b : Nat} (q : eqF (a ++ o ++ r) a.length = .ok b) (ha : a ∈ eqL1) (ho : o ∈ spL) (hr : r ∈ eqL3) : False := by
  have h := eq_all2 a ha o ho r hr
  rw [eq_shape2] at q
  unfold eqBadL at h
  cases hq : eqL (li o ++ li r) a.length with
  | ok b' => rw [hq] at h; cases h
  | error e => rw [hq] at q; cases q
/-- as CallSpec, from a frame that stands alone -/
def CallTop (w : World) (f : Addr) (vs : List Value) (news : List (Addr × Obj)) (dd uu : Nat) (R : Value → List (Addr × Obj) → Prop) : Prop :=
  ∀ (mean : ExcName → Option Value) (mg mb : Str → Option Value) (dp un : Nat) (gd : Option (List Code)) (cn : Str) (cs : Scope) (a : Addr) (ccd : Value) (A₀ : Around) (base h₀ : Heap) (L : Addr) (m : Str → Option Value) (s : Shared) (Q E : Value → Shared → Prop),
    Below A₀ base [] h₀ → Fr h₀ L s.heap m → (hd.heap_39 w.params).In h₀ → News h₀ L s.heap news → Top hd.view_39 (looseW hd.view_39 [Str.ofString "SyntaxFault"]) mean mg mb h₀ →
    (hd.heap_39 w.params).In base → Top hd.view_39 (looseW hd.view_39 [Str.ofString "SyntaxFault"]) mean mg mb base → cs.kind = .function →
    dp + dd < recursionLimit → un + uu < cLine →
    (∀ v news' h' tk', R v news' → Fr h₀ L h' m → News h₀ L h' news' → Q v { s with heap := h', toks := tk' }) →
    wpAny (model PySem.Challenge.rw_xm0661_01.row.prog w) (ktrTop dp un gd cn cs L a ccd [] []) (call (.ref f) vs) Q E s
theorem keep_two {src : Addr} {o : Obj} {rest l : List (Addr × Obj)} (h1 : (src, o) ∈ l) (h2 : ∀ p ∈ rest, p ∈ l) : ∀ p ∈ (src, o) :: rest, p ∈ l := fun p hp => by
  rcases List.mem_cons.mp hp with h | h
  · rw [h]; exact h1
  · exact h2 p h
theorem equals_right_core {w : World} {src : Addr} {x y : Int} {tx ty : Tok} {n : Nat} {rest : List (Addr × Obj)} (hne : ∀ p ∈ rest, p.1 ≠ src) (hs : SrcOk x y) :
   CallTop w 315 [.ref src] ((src, srcObj x y tx ty n) :: rest) 100 400
    (fun v nw => v = .bool true ∧ ∃ x' y' tx' ty' n', SrcOk x' y' ∧ nw = (src, srcObj x' y' tx' ty' n') :: rest) := by
  w_top off
  k_with_none
  (k_with "m:call ref" => (k_here; (with_reducible show wpAny _ _ (call (Value.ref 284) _ _) _ _ _); k_dflt (refine' CallSpec.go (S := (one_spec (by k_updF) (by k_mem) (by k_ne) (by assumption) (by exact Nat.le_of_ble_eq_true (by kernel_rfl)) (by exact Nat.le_of_ble_eq_true (by kernel_rfl)))) (h := ?_); k_whole; rintro v9 nw9 h9 tk9 ⟨hv9, x9, y9, tx9, ty9, n9, hs9, f9⟩ F9 N9; subst f9; obtain ⟨s9, u9, e9, m9, l9⟩ := strs_of hv9 (by kernel_rfl); subst e9; clear hv9; (try dsimp only [List.filterMap, strOf] at m9); (try dsimp only at N9))))
  (k_with "m:call ref" => (k_here; (with_reducible show wpAny _ _ (call (Value.ref 301) _ _) _ _ _); k_dflt (refine' CallSpec.go (S := (law_spaces_spec (by k_updF) (by assumption))) (h := ?_); k_whole; rintro v9 nw9 h9 tk9 ⟨s9, u9, x9, y9, tx9, ty9, n9, e9, m9, l9, hs9, f9⟩ F9 N9; subst e9 f9; (try dsimp only at N9))))
  (k_with "m:call ref" => (k_here; (with_reducible show wpAny _ _ (call (Value.ref 308) _ _) _ _ _); k_dflt (refine' CallTurn.go (S := (law_equals_spec (by have e1 : (Str.ofString "=").length = 1 := rfl; omega) (by show _ ≤ Str.length _; have e1 : (Str.ofString "=").length = 1 := rfl; omega))) (h := ?_); k_whole; rintro v' nw' h' tk' h0' ⟨D', o', v1', n1', ne', (⟨b', u', q', o1'⟩ | ⟨b', u', q', o1'⟩)⟩ T0' F' N' B' X' P' D0' <;> subst v1' n1' o1' <;> (try k_lt ne') <;> (try dsimp only [tupObj] at N'))))
  (k_with "m:enter" => (refine' code_defS0 ?k1 ?k2 ?k3 ?k4 ?k5 ?kA ?k6 ?k7 ?k8 ?k9 ?kB ?_ ?cK ?c2 ?c3 ?c4 ?c5; (case kA => exact rfl); (case k2 => k_asm); (case k1 => k_asm); (case k3 => k_asm); (case k4 => k_asm); (case k5 => k_asm); (case k6 => k_is); (case k7 => k_is); (case k8 => ktr_room); (case k9 => first | exact binds_K (by k_in) rfl (by k_is) rfl rfl rfl | exact BindsTo.of_eq rfl); (case kB => exact locs rfl); (case cK => assumption); (case c2 => exact rfl); (case c3 => exact rfl); (case c4 => exact rfl); (case c5 => decide); k_whole; intro g' L' h' FG' F' N' B' X' T' D'; (try dsimp only); (try k_lift B'); (try k_fold)))
  unfold CallTop
  k_fill
  intro mean mg mb dp un gd cn cs a ccd A₀ base h₀ L m s Q E B F X N T XB TB hk hd hu hret
  refine wpAny_call ?_
  k_dflt (k_extra "m:enter")
  k_steps
  · exact (eq2o (by with_reducible assumption) (by with_reducible assumption) (by with_reducible assumption) (by with_reducible assumption)).elim
  · have e := eq2 (by with_reducible assumption) (by with_reducible assumption) (by with_reducible assumption) (by with_reducible assumption)
    (with_reducible rename News h₀ L _ (_ :: _) => N1)
    rw [e]
    k_dflt (
      refine' hret _ _ _ _ ⟨by simp, _, _, _, _, _, ?b1, rfl⟩ ?b2 (News.perm N1 (keep_two ?m1 ?m2))
      (case m1 => k_mem)
      (case m2 => intro p h; repeat (first | exact h | refine List.Mem.tail _ ?_))
      (case b2 => assumption)
      (case b1 => with_reducible assumption))
  · have e := eq1 (by with_reducible assumption) (by with_reducible assumption) (by with_reducible assumption) (by with_reducible assumption) (by with_reducible assumption)
    omega
  · exact (eq1e (by with_reducible assumption) (by with_reducible assumption) (by with_reducible assumption) (by with_reducible assumption) (by with_reducible assumption)).elim
  · exact (eq1e (by with_reducible assumption) (by with_reducible assumption) (by with_reducible assumption) (by with_reducible assumption) (by with_reducible assumption)).elim
  · exact (eq1e (by with_reducible assumption) (by with_reducible assumption) (by with_reducible assumption) (by with_reducible assumption) (by with_reducible assumption)).elim
end Mine
end

section
open PySem PySem.W PyProof.Rows PySem.Calls
set_option maxHeartbeats 2000000
namespace Mine
abbrev vaL1 : List Str := [Str.ofString "", Str.ofString "<?xml "]
abbrev vaL2 : List Str := [Str.ofString "version", Str.ofString "a"]
abbrev vaL3 : List Str := [Str.ofString "", Str.ofString "?>", Str.ofString "'"]
abbrev quQ : List (Str × Str) := [(Str.ofString "\"", Str.ofString "'"), (Str.ofString "'", Str.ofString "\"")]
abbrev vaL4 (other : Str) : List Str := [Str.ofString "", Str.ofString "1.0", Str.ofString "UTF-8", Str.ofString " " ++ other ++ Str.ofString "=", Str.ofString "<"]
def vaGood (x : Str) (k : Nat) (wd : Str) (v : Str) (pl en : Nat) : Bool := match valF x k wd with | .ok (v', p', e') => v' == v && p' == (pl : Int) && e' == (en : Int) | .error _ => false
def vaBad (x : Str) (k : Nat) (wd : Str) (n : Int) : Bool := match valF x k wd with | .ok _ => false | .error e => e == n
def eqN : List Nat → List Nat → Bool
  | [], [] => true
  | a :: x, b :: y => Nat.beq a b && eqN x y
  | _, _ => false
theorem eqN_eq : ∀ {x y : List Nat}, eqN x y = true → x = y
  | [], [], _ => rfl
  | a :: x, b :: y, h => by
    rw [eqN, Bool.and_eq_true] at h
    rw [Nat.eq_of_beq_eq_true h.1, eqN_eq h.2]
def goodL (l : List Nat) (k : Nat) (wd v : List Nat) (pl en : Nat) : Bool := match valL l k wd with | .ok (v', p', e') => eqN v' v && Nat.beq p' pl && Nat.beq e' en | .error _ => false
def badL (l : List Nat) (k : Nat) (wd : List Nat) (n : Nat) : Bool := match valL l k wd with | .ok _ => false | .error e => Nat.beq e n
theorem good_li {a y wd v : Str} {pl en : Nat} (hw : 0 < wd.length) (h : goodL (li y) a.length (li wd) (li v) pl en = true) : vaGood (a ++ y) a.length wd v pl en = true := by
  unfold vaGood
  unfold goodL at h
  rw [val_li hw (by rw [Str.length_append]; omega), li_app, List.drop_left' (li_len a)]
  cases hq : valL (li y) a.length (li wd) with
  | error e => rw [hq] at h; cases h
  | ok r =>
    obtain ⟨v', p', e'⟩ := r
    rw [hq] at h
    simp only [Bool.and_eq_true] at h
    obtain ⟨⟨h1, h2⟩, h3⟩ := h
    have h1' := eqN_eq h1
    have h2' := Nat.eq_of_beq_eq_true h2
    have h3' := Nat.eq_of_beq_eq_true h3
    subst h2' h3'
    have : (⟨v'.toArray⟩ : Str) = v := li_inj h1'
    simp [up, this]
theorem bad_li {a y wd : Str} {n : Nat} (hw : 0 < wd.length) (h : badL (li y) a.length (li wd) n = true) : vaBad (a ++ y) a.length wd n = true := by
  unfold vaBad
  unfold badL at h
  rw [val_li hw (by rw [Str.length_append]; omega), li_app, List.drop_left' (li_len a)]
  cases hq : valL (li y) a.length (li wd) with
  | ok r => rw [hq] at h; cases h
  | error e =>
    rw [hq] at h
    have h' := Nat.eq_of_beq_eq_true h
    subst h'
    simp [up]
theorem wd_pos : ∀ w ∈ vaL2, 0 < w.length := by decide +kernel
theorem good_all : ∀ a ∈ vaL1, ∀ w ∈ vaL2, ∀ s1 ∈ spL, ∀ s2 ∈ spL, ∀ q ∈ quQ, ∀ v ∈ vaL4 q.2, ∀ r ∈ vaL3,
    goodL (li w ++ (li s1 ++ ([61] ++ (li s2 ++ (li q.1 ++ (li v ++ (li q.1 ++ li r))))))) a.length (li w) (li v) (a.length + w.length + (s1.length + 1 + s2.length) + 1) (a.length + w.length + (s1.length + 1 + s2.length) + q.1.length + v.length + q.1.length) = true := by decide +kernel
theorem bad_all1 : ∀ a ∈ vaL1, ∀ w ∈ vaL2, ∀ s1 ∈ spL, ∀ s2 ∈ spL, ∀ q ∈ quQ,
    badL ([120] ++ (li w ++ (li s1 ++ ([61] ++ (li s2 ++ li q.1))))) a.length (li w) a.length = true := by decide +kernel
theorem bad_all2 : ∀ a ∈ vaL1, ∀ w ∈ vaL2, badL (li (Txt.slice w none (some (-1)))) a.length (li w) a.length = true := by decide +kernel
theorem bad_all3 : ∀ a ∈ vaL1, ∀ w ∈ vaL2, ∀ s1 ∈ spL, badL (li w ++ li s1) a.length (li w) (a.length + w.length + s1.length) = true := by decide +kernel
theorem bad_all4 : ∀ a ∈ vaL1, ∀ w ∈ vaL2, ∀ s1 ∈ spL, ∀ q ∈ quQ, ∀ v ∈ vaL4 q.2,
    badL (li w ++ (li s1 ++ (li q.1 ++ (li v ++ li q.1)))) a.length (li w) (a.length + w.length + s1.length) = true := by decide +kernel
theorem bad_all5 : ∀ a ∈ vaL1, ∀ w ∈ vaL2, ∀ s1 ∈ spL, ∀ s2 ∈ spL,
    badL (li w ++ (li s1 ++ ([61] ++ li s2))) a.length (li w) (a.length + w.length + (s1.length + 1 + s2.length)) = true := by decide +kernel
theorem bad_all6 : ∀ a ∈ vaL1, ∀ w ∈ vaL2, ∀ s1 ∈ spL, ∀ s2 ∈ spL, ∀ q ∈ quQ,
    badL (li w ++ (li s1 ++ ([61] ++ (li s2 ++ ([120] ++ li q.1))))) a.length (li w) (a.length + w.length + (s1.length + 1 + s2.length)) = true := by decide +kernel
theorem bad_all7 : ∀ a ∈ vaL1, ∀ w ∈ vaL2, ∀ s1 ∈ spL, ∀ s2 ∈ spL, ∀ q ∈ quQ, ∀ v ∈ vaL4 q.2,
    badL (li w ++ (li s1 ++ ([61] ++ (li s2 ++ (li q.1 ++ li v))))) a.length (li w) (a.length + w.length + (s1.length + 1 + s2.length) + 1) = true := by decide +kernel
theorem bad_all8 : ∀ a ∈ vaL1, ∀ w ∈ vaL2, ∀ s1 ∈ spL, ∀ s2 ∈ spL, ∀ q ∈ quQ, ∀ v ∈ vaL4 q.2,
    badL (li w ++ (li s1 ++ ([61] ++ (li s2 ++ (li q.1 ++ (li v ++ li q.2)))))) a.length (li w) (a.length + w.length + (s1.length + 1 + s2.length) + 1) = true := by decide +kernel
theorem len1 : ∀ a ∈ vaL1, a.length ≤ 6 := by decide +kernel
theorem len2 : ∀ w ∈ vaL2, w.length ≤ 7 := by decide +kernel
theorem lenS : ∀ s ∈ spL, s.length ≤ 2 := by decide +kernel
theorem len4 : ∀ q ∈ quQ, ∀ v ∈ vaL4 q.2, v.length ≤ 8 := by decide +kernel
theorem lenQ : ∀ q ∈ quQ, q.1.length = 1 ∧ q.2.length = 1 := by decide +kernel
theorem lenE : (Str.ofString "=").length = 1 := rfl
theorem lenX : (Str.ofString "x").length = 1 := rfl
theorem xs_li : li (Str.ofString "x") = [120] := by decide +kernel
theorem find_all : ∀ s ∈ spL, ∀ p ∈ spL, Txt.find (s ++ Str.ofString "=" ++ p) (Str.ofString "=") = s.length := by decide +kernel
theorem find_no {s p : Str} (h1 : s ∈ spL) (h2 : p ∈ spL) (h : Txt.find (s ++ Str.ofString "=" ++ p) (Str.ofString "=") = -1) : False := by
  have := find_all s h1 p h2
  omega
theorem va_ok2 : ∀ q ∈ quQ, ∀ v ∈ vaL4 q.2, PyData.strOk v = true := by decide +kernel
theorem okQ {v q o : Str} (hq : (q, o) ∈ quQ) (hv : v ∈ vaL4 o) : PyData.strOk v = true := va_ok2 (q, o) hq v hv
theorem vgQ {a w r s1 s2 v q o : Str} (hq : (q, o) ∈ quQ) (ha : a ∈ vaL1) (hw : w ∈ vaL2) (hr : r ∈ vaL3) (h1 : s1 ∈ spL) (h2 : s2 ∈ spL) (hv : v ∈ vaL4 o) :
   vaGood (a ++ w ++ (s1 ++ Str.ofString "=" ++ s2) ++ q ++ v ++ q ++ r) a.length w v ((a ++ w ++ (s1 ++ Str.ofString "=" ++ s2)).length + 1) (a ++ w ++ (s1 ++ Str.ofString "=" ++ s2) ++ q ++ v ++ q).length = true := by
  have h := good_all a ha w hw s1 h1 s2 h2 (q, o) hq v hv r hr
  have e : a ++ w ++ (s1 ++ Str.ofString "=" ++ s2) ++ q ++ v ++ q ++ r = a ++ (w ++ (s1 ++ Str.ofString "=" ++ s2) ++ q ++ v ++ q ++ r) := li_inj (by simp only [li_app, List.append_assoc])
  rw [e]
  refine good_li (wd_pos w hw) ?_
  simpa only [li_app, List.append_assoc, eqs_li, Str.length_append, lenE] using h
/-- the wrong text t is refused at d -/
def BadAt (k : Nat) (wd t : Str) (d : Int) : Prop := vaBad t k wd d = true ∧ t.length ≤ 1000
theorem cut_at {a w s1 s2 : Str} (h1 : s1 ∈ spL) (h2 : s2 ∈ spL) :
    Txt.slice (a ++ w ++ (s1 ++ Str.ofString "=" ++ s2)) none (some ((a ++ w).length + Txt.find (s1 ++ Str.ofString "=" ++ s2) (Str.ofString "="))) = a ++ (w ++ s1) := by
  rw [find_all s1 h1 s2 h2]
  have := slice_closes_to (x := a ++ w ++ (s1 ++ Str.ofString "=" ++ s2)) (j := ((a ++ w).length : Int) + s1.length) ⟨by omega, by
    have := li_len (a ++ w ++ (s1 ++ Str.ofString "=" ++ s2))
    show _ ≤ (((li (a ++ w ++ (s1 ++ Str.ofString "=" ++ s2))).length : Nat) : Int)
    rw [this]; simp only [Str.length_append]; omega⟩
  rw [eq_of_beq this]
  refine li_inj ?_
  show List.take (((a ++ w).length : Int) + s1.length - 0).toNat (List.drop (0 : Int).toNat (li (a ++ w ++ (s1 ++ Str.ofString "=" ++ s2)))) = _
  have e0 : (0 : Int).toNat = 0 := rfl
  rw [e0, List.drop_zero]
  have e1 : (((a ++ w).length : Int) + s1.length - 0).toNat = (li (a ++ (w ++ s1))).length := by rw [li_len]; simp only [Str.length_append]; omega
  rw [e1]
  have e2 : li (a ++ w ++ (s1 ++ Str.ofString "=" ++ s2)) = li (a ++ (w ++ s1)) ++ li (Str.ofString "=" ++ s2) := by simp only [li_app, List.append_assoc]
  rw [e2, List.take_left']
  rfl
theorem bad_of {a w y t : Str} {n : Nat} {d : Int} (hw : w ∈ vaL2) (hb : badL (li y) a.length (li w) n = true) (ht : li t = li (a ++ y)) (hd : d = n) (hl : t.length ≤ 1000) : BadAt a.length w t d := by
  rw [li_inj ht] at hl ⊢
  rw [hd]
  exact ⟨bad_li (wd_pos w hw) hb, hl⟩
section
variable {a w s1 s2 v q o : Str} (hq : (q, o) ∈ quQ) (ha : a ∈ vaL1) (hw : w ∈ vaL2) (h1 : s1 ∈ spL) (h2 : s2 ∈ spL) (hv : v ∈ vaL4 o)
include hq ha hw h1 h2 hv
theorem lens : a.length ≤ 6 ∧ w.length ≤ 7 ∧ s1.length ≤ 2 ∧ s2.length ≤ 2 ∧ v.length ≤ 8 ∧ q.length = 1 ∧ o.length = 1 :=
  ⟨len1 _ ha, len2 _ hw, lenS _ h1, lenS _ h2, len4 _ hq _ hv, (lenQ _ hq).1, (lenQ _ hq).2⟩
theorem vb1 : BadAt a.length w (a ++ Str.ofString "x" ++ w ++ (s1 ++ Str.ofString "=" ++ s2) ++ q) a.length :=
  bad_of hw (y := Str.ofString "x" ++ w ++ (s1 ++ Str.ofString "=" ++ s2) ++ q)
   (by simpa only [li_app, List.append_assoc, eqs_li, xs_li] using bad_all1 a ha w hw s1 h1 s2 h2 _ hq) (by simp only [li_app, List.append_assoc]) rfl
   (by have := lens hq ha hw h1 h2 hv; simp only [Str.length_append, lenE, lenX]; omega)
theorem vb2 : BadAt a.length w (a ++ Txt.slice w none (some (-1))) a.length :=
  bad_of hw (bad_all2 a ha w hw) rfl rfl
   (by have := lens hq ha hw h1 h2 hv; have := Txt.slice_le w none (some (-1)); simp only [Str.length_append]; omega)
theorem vb3 : BadAt a.length w (Txt.slice (a ++ w ++ (s1 ++ Str.ofString "=" ++ s2)) none (some ((a ++ w).length + Txt.find (s1 ++ Str.ofString "=" ++ s2) (Str.ofString "=")))) ((a ++ w).length + Txt.find (s1 ++ Str.ofString "=" ++ s2) (Str.ofString "=")) := by
  rw [cut_at h1 h2, find_all s1 h1 s2 h2]
  exact bad_of hw (y := w ++ s1)
   (by simpa only [li_app] using bad_all3 a ha w hw s1 h1) rfl (by simp only [Str.length_append]; omega)
   (by have := lens hq ha hw h1 h2 hv; simp only [Str.length_append]; omega)
theorem vb4 : BadAt a.length w (Txt.slice (a ++ w ++ (s1 ++ Str.ofString "=" ++ s2)) none (some ((a ++ w).length + Txt.find (s1 ++ Str.ofString "=" ++ s2) (Str.ofString "="))) ++ q ++ v ++ q) ((a ++ w).length + Txt.find (s1 ++ Str.ofString "=" ++ s2) (Str.ofString "=")) := by
  rw [cut_at h1 h2, find_all s1 h1 s2 h2]
  exact bad_of hw (y := w ++ s1 ++ q ++ v ++ q)
   (by simpa only [li_app, List.append_assoc] using bad_all4 a ha w hw s1 h1 _ hq v hv) (by simp only [li_app, List.append_assoc]) (by simp only [Str.length_append]; omega)
   (by have := lens hq ha hw h1 h2 hv; simp only [Str.length_append]; omega)
theorem vb5 : BadAt a.length w (a ++ w ++ (s1 ++ Str.ofString "=" ++ s2)) ((a.length + w.length + (s1.length + (Str.ofString "=").length + s2.length) : Nat) : Int) :=
  bad_of hw (y := w ++ (s1 ++ Str.ofString "=" ++ s2))
   (by simpa only [li_app, List.append_assoc, eqs_li] using bad_all5 a ha w hw s1 h1 s2 h2) (by simp only [li_app, List.append_assoc]) (by rw [lenE])
   (by have := lens hq ha hw h1 h2 hv; simp only [Str.length_append, lenE]; omega)
theorem vb6 : BadAt a.length w (a ++ w ++ (s1 ++ Str.ofString "=" ++ s2) ++ Str.ofString "x" ++ q) (a ++ w ++ (s1 ++ Str.ofString "=" ++ s2)).length :=
  bad_of hw (y := w ++ (s1 ++ Str.ofString "=" ++ s2) ++ Str.ofString "x" ++ q)
   (by simpa only [li_app, List.append_assoc, eqs_li, xs_li] using bad_all6 a ha w hw s1 h1 s2 h2 _ hq) (by simp only [li_app, List.append_assoc]) (by simp only [Str.length_append, lenE])
   (by have := lens hq ha hw h1 h2 hv; simp only [Str.length_append, lenE, lenX]; omega)
theorem vb7 : BadAt a.length w (a ++ w ++ (s1 ++ Str.ofString "=" ++ s2) ++ q ++ v) ((a ++ w ++ (s1 ++ Str.ofString "=" ++ s2)).length + 1) :=
  bad_of hw (y := w ++ (s1 ++ Str.ofString "=" ++ s2) ++ q ++ v)
   (by simpa only [li_app, List.append_assoc, eqs_li] using bad_all7 a ha w hw s1 h1 s2 h2 _ hq v hv) (by simp only [li_app, List.append_assoc]) (by simp only [Str.length_append, lenE]; omega)
   (by have := lens hq ha hw h1 h2 hv; simp only [Str.length_append, lenE]; omega)
theorem vb8 : BadAt a.length w (a ++ w ++ (s1 ++ Str.ofString "=" ++ s2) ++ q ++ v ++ o) ((a ++ w ++ (s1 ++ Str.ofString "=" ++ s2)).length + 1) :=
  bad_of hw (y := w ++ (s1 ++ Str.ofString "=" ++ s2) ++ q ++ v ++ o)
   (by simpa only [li_app, List.append_assoc, eqs_li] using bad_all8 a ha w hw s1 h1 s2 h2 _ hq v hv) (by simp only [li_app, List.append_assoc]) (by simp only [Str.length_append, lenE]; omega)
   (by have := lens hq ha hw h1 h2 hv; simp only [Str.length_append, lenE]; omega)
end
end Mine
end

section
open PySem PySem.W PyProof.Rows PySem.Calls
set_option maxHeartbeats 2000000
namespace Mine
local macro_rules | `(tactic| k_all) => `(tactic| (with_reducible assumption))
local macro_rules | `(tactic| k_room) => `(tactic| ktr_room)
theorem mem2 {v : Value} {a b : Addr} (h : v ∈ [Value.ref a, .ref b]) : v = .ref a ∨ v = .ref b := by simpa using h
theorem mem8 {v : Value} {a b c d e f g i : Addr} (h : v ∈ [Value.ref a, .ref b, .ref c, .ref d, .ref e, .ref f, .ref g, .ref i]) : v = .ref a ∨ v = .ref b ∨ v = .ref c ∨ v = .ref d ∨ v = .ref e ∨ v = .ref f ∨ v = .ref g ∨ v = .ref i := by simpa using h
theorem CallTurn.mono {w : World} {f : Addr} {vs : List Value} {news : List (Addr × Obj)} {dd uu : Nat} {R R' : Value → List (Addr × Obj) → Prop} (S : CallTurn w f vs news dd uu R) (h1 : ∀ v n, R v n → R' v n) : CallTurn w f vs news dd uu R' := by
  intro mean mg mb dp un gd cn cs a ccd outer A₀ base g₀ h₀ L m s Q E B F X N T XB TB D T0 hk hd hu hret
  exact S.use B F X N T XB TB D T0 hk hd hu fun v n h t g r => hret v n h t g (h1 _ _ r)
theorem law_value_good {w : World} {x wd v : Str} {t wt : Tok} {k pl en : Nat} {tk : Tok} {news : List (Addr × Obj)} (hx : x.length ≤ 1000) (hw : wd.length ≤ 10) (h : vaGood x k wd v pl en = true) :
   CallTurn w 322 [.str x t, .int k tk, .str wd wt] news 80 300 (fun r nw => ∃ D u u2 u3, r = .ref D ∧ nw = (D, tupObj [.str v u, .int (pl : Nat) u2, .int (en : Nat) u3]) :: news ∧ (∀ p ∈ news, p.1 < D)) := by
  refine (law_value_spec hx hw).mono ?_
  unfold vaGood at h
  rintro r nw (⟨D, val, p, e, u, u2, u3, hq, rfl, rfl, hlt⟩ | ⟨e, u, hq, rfl, rfl⟩)
  · rw [hq] at h
    simp only [Bool.and_eq_true, beq_iff_eq] at h
    obtain ⟨⟨rfl, rfl⟩, rfl⟩ := h
    exact ⟨D, u, u2, u3, rfl, rfl, hlt⟩
  · rw [hq] at h; cases h
theorem law_value_err {w : World} {x wd : Str} {t wt : Tok} {k : Nat} {n : Int} {tk : Tok} {news : List (Addr × Obj)} (hx : x.length ≤ 1000) (hw : wd.length ≤ 10) (h : vaBad x k wd n = true) :
   CallTurn w 322 [.str x t, .int k tk, .str wd wt] news 80 300 (fun r nw => ∃ u, r = .int n u ∧ nw = news) := by
  refine (law_value_spec hx hw).mono ?_
  unfold vaBad at h
  rintro r nw (⟨D, val, p, e, u, u2, u3, hq, rfl, rfl, hlt⟩ | ⟨e, u, hq, rfl, rfl⟩)
  · rw [hq] at h; cases h
  · rw [hq] at h
    have := beq_iff_eq.mp h
    subst this
    exact ⟨u, rfl, rfl⟩
theorem shaped3 {v : Str} {a b : Int} (h : PyData.strOk v = true) : SeqAt.shaped (.tuple [.str v, .int a, .int b]) = true := by
  simp [SeqAt.shaped, PyData.canLay0, PyData.canLayAll0, PyData.depth, PyData.depthAll, h]
end Mine
end

section
open PySem PySem.W PyProof.Rows PySem.Calls
set_option maxHeartbeats 2000000
namespace Mine
theorem pick2 {h₀ h : Heap} {L : Addr} {v : Value} {a b src : Addr} {l : List (Addr × Obj)} {q1 o1 q2 o2 : Str} {t1 t2 t3 t4 : Tok} (N : News h₀ L h l) (hv : v ∈ [Value.ref a, .ref b])
   (h1 : (a, tupObj [.str q1 t1, .str o1 t2]) ∈ l) (h2 : (b, tupObj [.str q2 t3, .str o2 t4]) ∈ l) {x y : Int} {tx ty : Tok} {n : Nat} (h0 : (src, srcObj x y tx ty n) ∈ l) (l1 : @LT.lt Nat _ src a) (l2 : @LT.lt Nat _ src b) :
   ∃ c q o u1 u2, v = .ref c ∧ (c, tupObj [.str q u1, .str o u2]) ∈ l ∧ @LT.lt Nat _ src c ∧ (q, o) ∈ [(q1, o1), (q2, o2)] := by
  rcases mem2 hv with rfl | rfl
  · exact ⟨_, _, _, _, _, rfl, h1, l1, .head _⟩
  · exact ⟨_, _, _, _, _, rfl, h2, l2, .tail _ (.head _)⟩
theorem pick8 {h₀ h : Heap} {L : Addr} {v : Value} {c1 c2 c3 c4 c5 c6 c7 c8 : Addr} {l : List (Addr × Obj)} {k : Nat} {wd x1 x2 x3 x4 x5 x6 x7 x8 : Str} {d1 d2 d3 d4 d5 d6 d7 d8 : Int} {t1 t2 t3 t4 t5 t6 t7 t8 u1 u2 u3 u4 u5 u6 u7 u8 : Tok}
   (N : News h₀ L h l) (hv : v ∈ [Value.ref c1, .ref c2, .ref c3, .ref c4, .ref c5, .ref c6, .ref c7, .ref c8])
   (h1 : (c1, tupObj [.str x1 t1, .int d1 u1]) ∈ l) (h2 : (c2, tupObj [.str x2 t2, .int d2 u2]) ∈ l) (h3 : (c3, tupObj [.str x3 t3, .int d3 u3]) ∈ l) (h4 : (c4, tupObj [.str x4 t4, .int d4 u4]) ∈ l)
   (h5 : (c5, tupObj [.str x5 t5, .int d5 u5]) ∈ l) (h6 : (c6, tupObj [.str x6 t6, .int d6 u6]) ∈ l) (h7 : (c7, tupObj [.str x7 t7, .int d7 u7]) ∈ l) (h8 : (c8, tupObj [.str x8 t8, .int d8 u8]) ∈ l)
   (b1 : BadAt k wd x1 d1) (b2 : BadAt k wd x2 d2) (b3 : BadAt k wd x3 d3) (b4 : BadAt k wd x4 d4) (b5 : BadAt k wd x5 d5) (b6 : BadAt k wd x6 d6) (b7 : BadAt k wd x7 d7) (b8 : BadAt k wd x8 d8) :
   ∃ c t d u1 u2, v = .ref c ∧ (c, tupObj [.str t u1, .int d u2]) ∈ l ∧ BadAt k wd t d := by
  rcases mem8 hv with rfl | rfl | rfl | rfl | rfl | rfl | rfl | rfl
  · exact ⟨_, _, _, _, _, rfl, h1, b1⟩
  · exact ⟨_, _, _, _, _, rfl, h2, b2⟩
  · exact ⟨_, _, _, _, _, rfl, h3, b3⟩
  · exact ⟨_, _, _, _, _, rfl, h4, b4⟩
  · exact ⟨_, _, _, _, _, rfl, h5, b5⟩
  · exact ⟨_, _, _, _, _, rfl, h6, b6⟩
  · exact ⟨_, _, _, _, _, rfl, h7, b7⟩
  · exact ⟨_, _, _, _, _, rfl, h8, b8⟩
theorem keep_three {c src : Addr} {o1 o : Obj} {rest l : List (Addr × Obj)} (hne : ∀ p ∈ rest, p.1 ≠ src) (h0 : (c, o1) ∈ l) (h1 : (src, o) ∈ l) (h2 : ∀ p ∈ rest, p ∈ l) : ∀ p ∈ (c, o1) :: (src, o) :: rest, p ∈ l := fun p hp => by
  rcases List.mem_cons.mp hp with h | h
  · rw [h]; exact h0
  · exact keep_two h1 h2 p h
theorem len4' {q o v : Str} (hq : (q, o) ∈ quQ) (hv : v ∈ vaL4 o) : v.length ≤ 8 := len4 (q, o) hq v hv
theorem strs_first {v : Value} {a : Str} {t : Tok} {l : List Value} (hv : v ∈ Value.str a t :: l) : True := trivial
theorem strs5 {v : Value} {a b c d e : Str} {t1 t2 t3 t4 t5 : Tok} (hv : v ∈ [Value.str a t1, .str b t2, .str c t3, .str d t4, .str e t5]) : ∃ s u, v = .str s u ∧ s ∈ [a, b, c, d, e] := by
  simp only [List.mem_cons, List.not_mem_nil, or_false] at hv
  rcases hv with h | h | h | h | h <;> exact ⟨_, _, h, by simp⟩
end Mine
end

section
open PySem PySem.W PyProof.Rows PySem.Calls
set_option maxHeartbeats 2000000
namespace Mine
local macro_rules | `(tactic| k_all) => `(tactic| (with_reducible assumption))
local macro_rules | `(tactic| k_room) => `(tactic| ktr_room)
theorem News.tail {h₀ h : Heap} {L : Addr} {a : Addr × Obj} {r : List (Addr × Obj)} (N : News h₀ L h (a :: r)) : News h₀ L h r := fun p hp => N p (.tail _ hp)
theorem value_right_core {w : World} {src : Addr} {x y : Int} {tx ty : Tok} {n : Nat} {rest : List (Addr × Obj)} (hne : ∀ p ∈ rest, p.1 ≠ src) (hs : SrcOk x y) :
   CallTop w 329 [.ref src] ((src, srcObj x y tx ty n) :: rest) 120 450
    (fun v nw => v = .bool true ∧ ∃ x' y' tx' ty' n', SrcOk x' y' ∧ nw = (src, srcObj x' y' tx' ty' n') :: rest) := by
  w_top off
  k_with_none
  (k_with "m:call ref" => (k_here; (with_reducible show wpAny _ _ (call (Value.ref 284) _ _) _ _ _); refine hold ?_))
  (k_with "m:call ref" => (k_here; (with_reducible show wpAny _ _ (call (Value.ref 284) _ _) _ _ _); k_dflt (refine' CallSpec.go (S := (one_spec (by k_updF) (by k_mem) (by k_ne) (by assumption) (by exact Nat.le_of_ble_eq_true (by kernel_rfl)) (by exact Nat.le_of_ble_eq_true (by kernel_rfl)))) (h := ?_); k_whole; rintro v9 nw9 h9 tk9 ⟨hv9, x9, y9, tx9, ty9, n9, hs9, f9⟩ F9 N9; subst f9; have hq9 := strs_first hv9; clear hq9; obtain ⟨s9, u9, e9, m9, l9⟩ := strs_of hv9 (by kernel_rfl); subst e9; clear hv9; (try dsimp only [List.filterMap, strOf] at m9); (try dsimp only at N9); replace N9 := News.tail N9)))
  (k_with "m:call ref" => (k_here; (with_reducible show wpAny _ _ (call (Value.ref 301) _ _) _ _ _); k_dflt (refine' CallSpec.go (S := (law_spaces_spec (by k_updF) (by assumption))) (h := ?_); k_whole; rintro v9 nw9 h9 tk9 ⟨s9, u9, x9, y9, tx9, ty9, n9, e9, m9, l9, hs9, f9⟩ F9 N9; subst e9 f9; (try dsimp only at N9))))
  (k_with "m:call ref" => (k_here; (with_reducible show wpAny _ _ (call (Value.ref 284) _ _) _ _ _); k_dflt (refine' CallSpec.go (S := (one_spec (by k_updF) (by k_mem) (by k_ne) (by assumption) (by exact Nat.le_of_ble_eq_true (by kernel_rfl)) (by exact Nat.le_of_ble_eq_true (by kernel_rfl)))) (h := ?_); k_whole; rintro v9 nw9 h9 tk9 ⟨hv9, x9, y9, tx9, ty9, n9, hs9, f9⟩ F9 N9; subst f9; obtain ⟨s9, u9, e9, m9⟩ := strs5 hv9; subst e9; clear hv9; have l9 := len4' (by with_reducible assumption) m9; (try dsimp only at N9); replace N9 := News.tail N9)))
  (k_with "m:call ref" => (k_here; (with_reducible show wpAny _ _ (call (Value.ref 284) _ _) _ _ _); k_dflt (refine' CallSpec.go (S := (one_spec (by k_updF) (by k_mem) (by k_ne) (by assumption) (by exact Nat.le_of_ble_eq_true (by kernel_rfl)) (by exact Nat.le_of_ble_eq_true (by kernel_rfl)))) (h := ?_); k_whole; rintro v9 nw9 h9 tk9 ⟨hv9, x9, y9, tx9, ty9, n9, hs9, f9⟩ F9 N9; subst f9; (try dsimp only at N9); obtain ⟨c9, q9, o9, u9, u8, e9, m9, k9, p9⟩ := pick2 N9 hv9 (by k_mem) (by k_mem) (by k_mem) (by refine ltN ?_; omega) (by refine ltN ?_; omega); subst e9; clear hv9; replace N9 := News.perm N9 (keep_three (by with_reducible assumption) m9 (by k_mem) (by intro p h; repeat (first | exact h | refine List.Mem.tail _ ?_))); clear m9; have k8 := lenQ _ p9; (try dsimp only at k8); (try dsimp only [tupObj] at N9))))
  (k_with "m:call ref" => (k_here; (with_reducible show wpAny _ _ (call (Value.ref 284) _ _) _ _ _); k_dflt (refine' CallSpec.go (S := (one_spec (by k_updF) (by k_mem) (by k_ne) (by assumption) (by exact Nat.le_of_ble_eq_true (by kernel_rfl)) (by exact Nat.le_of_ble_eq_true (by kernel_rfl)))) (h := ?_); k_whole; rintro v9 nw9 h9 tk9 ⟨hv9, x9, y9, tx9, ty9, n9, hs9, f9⟩ F9 N9; subst f9; (try dsimp only at N9); obtain ⟨c9, t9, d9, u9, u8, e9, m9, b9⟩ := pick8 N9 hv9 (by k_mem) (by k_mem) (by k_mem) (by k_mem) (by k_mem) (by k_mem) (by k_mem) (by k_mem) (vb1 (by with_reducible assumption) (by with_reducible assumption) (by with_reducible assumption) (by with_reducible assumption) (by with_reducible assumption) (by with_reducible assumption)) (vb2 (by with_reducible assumption) (by with_reducible assumption) (by with_reducible assumption) (by with_reducible assumption) (by with_reducible assumption) (by with_reducible assumption)) (vb3 (by with_reducible assumption) (by with_reducible assumption) (by with_reducible assumption) (by with_reducible assumption) (by with_reducible assumption) (by with_reducible assumption)) (vb4 (by with_reducible assumption) (by with_reducible assumption) (by with_reducible assumption) (by with_reducible assumption) (by with_reducible assumption) (by with_reducible assumption)) (vb5 (by with_reducible assumption) (by with_reducible assumption) (by with_reducible assumption) (by with_reducible assumption) (by with_reducible assumption) (by with_reducible assumption)) (vb6 (by with_reducible assumption) (by with_reducible assumption) (by with_reducible assumption) (by with_reducible assumption) (by with_reducible assumption) (by with_reducible assumption)) (vb7 (by with_reducible assumption) (by with_reducible assumption) (by with_reducible assumption) (by with_reducible assumption) (by with_reducible assumption) (by with_reducible assumption)) (vb8 (by with_reducible assumption) (by with_reducible assumption) (by with_reducible assumption) (by with_reducible assumption) (by with_reducible assumption) (by with_reducible assumption)); subst e9; clear hv9; replace N9 := News.perm N9 (keep_three (by with_reducible assumption) m9 (by k_mem) (by intro p h; repeat (first | exact h | refine List.Mem.tail _ ?_))); clear m9; (try dsimp only [tupObj] at N9))))
  (k_with "m:call ref" => (k_here; (with_reducible show wpAny _ _ (call (Value.ref 322) _ _) _ _ _); k_dflt (refine' CallTurn.go (S := (law_value_good (by have e1 := lenE; omega) (by omega) (by with_reducible exact vgQ (by with_reducible assumption) (by with_reducible assumption) (by with_reducible assumption) (by with_reducible assumption) (by with_reducible assumption) (by with_reducible assumption) (by with_reducible assumption)))) (h := ?_); k_whole; rintro v' nw' h' tk' h0' ⟨D', u', u2', u3', v1', n1', ne'⟩ T0' F' N' B' X' P' D0'; subst v1' n1'; (try k_lt ne'); (try dsimp only [tupObj] at N'))))
  (k_with "m:call ref" => (k_here; (with_reducible show wpAny _ _ (call (Value.ref 322) _ _) _ _ _); k_dflt (rename BadAt _ _ _ _ => b8; refine' CallTurn.go (S := (law_value_err b8.2 (by omega) b8.1)) (h := ?_); k_whole; rintro v' nw' h' tk' h0' ⟨u', v1', n1'⟩ T0' F' N' B' X' P' D0'; subst v1' n1')))
  (k_with "m:compareOp NotEq ref ref" => (k_here; (with_reducible show wpAny _ _ (compareOp CmpOp.NotEq (Value.ref _) (Value.ref _)) _ _ _); k_dflt (refine ne_dataH (by ke_read) (by ke_read) (shaped3 (by with_reducible first | exact okQ (by assumption) (by assumption))) (shaped3 (by with_reducible first | exact okQ (by assumption) (by assumption))) (by ke_room) ?_); ke_norm))
  (k_with "m:enter" => (refine' code_defS0 ?k1 ?k2 ?k3 ?k4 ?k5 ?kA ?k6 ?k7 ?k8 ?k9 ?kB ?_ ?cK ?c2 ?c3 ?c4 ?c5; (case kA => exact rfl); (case k2 => k_asm); (case k1 => k_asm); (case k3 => k_asm); (case k4 => k_asm); (case k5 => k_asm); (case k6 => k_is); (case k7 => k_is); (case k8 => ktr_room); (case k9 => first | exact binds_K (by k_in) rfl (by k_is) rfl rfl rfl | exact BindsTo.of_eq rfl); (case kB => exact locs rfl); (case cK => assumption); (case c2 => exact rfl); (case c3 => exact rfl); (case c4 => exact rfl); (case c5 => decide); k_whole; intro g' L' h' FG' F' N' B' X' T' D'; (try dsimp only); (try k_lift B'); (try k_fold)))
  unfold CallTop
  k_fill
  intro mean mg mb dp un gd cn cs a ccd A₀ base h₀ L m s Q E B F X N T XB TB hk hd hu hret
  refine wpAny_call ?_
  k_dflt (k_extra "m:enter")
  k_steps
  · (with_reducible rename Txt.find _ _ = -1 => hf)
    exact (find_no (by with_reducible assumption) (by with_reducible assumption) hf).elim
  · (with_reducible rename News h₀ L _ (_ :: _) => N1)
    k_dflt (
      refine' hret _ _ _ _ ⟨by simp, _, _, _, _, _, ?b1, rfl⟩ ?b2 (News.perm N1 (keep_two ?m1 ?m2))
      (case m1 => k_mem)
      (case m2 => intro p h; repeat (first | exact h | refine List.Mem.tail _ ?_))
      (case b2 => assumption)
      (case b1 => with_reducible assumption))
  · (with_reducible rename (_ && _) = false => hf)
    exfalso
    simp only [PySem.Str.length_append] at hf
    simp at hf
end Mine
end

section
open PySem PySem.W PyProof.Rows PySem.Calls
set_option maxHeartbeats 8000000
namespace Mine
/-- a call of _law_pool from a frame that stands alone, upon the script -/
def PoolTop (w : World) (f : Addr) (l : Addr) (vs : List Value) (ns : List Int) (dd uu : Nat) (R : Value → List (Addr × Obj) → Prop) : Prop :=
  ∀ (mean : ExcName → Option Value) (mg mb : Str → Option Value) (dp un : Nat) (gd : Option (List Code)) (cn : Str) (cs : Scope) (a : Addr) (ccd : Value) (A₀ : Around) (base h₀ : Heap) (L : Addr) (m : Str → Option Value) (s : Shared) (Q E : Value → Shared → Prop),
    Below A₀ base [] h₀ → Fr h₀ L s.heap m → (hd.heap_39 w.params).In h₀ → News h₀ L s.heap [] → Top hd.view_39 (looseW hd.view_39 [Str.ofString "SyntaxFault"]) mean mg mb h₀ →
    base.IsList l vs.toArray → IntsAre vs ns → ns.length ≤ 63 → cs.kind = .function →
    dp + dd < recursionLimit → un + uu < cLine →
    (∀ v news' h' tk', R v news' → Fr h₀ L h' m → News h₀ L h' news' → Q v { s with heap := h', toks := tk' }) →
    wpAny (model PySem.Challenge.rw_xm0661_01.row.prog w) (ktrTop dp un gd cn cs L a ccd [] []) (call (.ref f) [.ref l]) Q E s
theorem PoolTop.use {w : World} {f l : Addr} {vs : List Value} {ns : List Int} {dd uu : Nat} {R : Value → List (Addr × Obj) → Prop} (S : PoolTop w f l vs ns dd uu R)
  {mean : ExcName → Option Value} {mg mb : Str → Option Value} {dp un : Nat} {gd : Option (List Code)} {cn : Str} {cs : Scope} {a : Addr} {ccd : Value} {A₀ : Around} {base h₀ : Heap} {L : Addr} {m : Str → Option Value} {s : Shared} {Q E : Value → Shared → Prop}
  (B : Below A₀ base [] h₀) (F : Fr h₀ L s.heap m) (X : (hd.heap_39 w.params).In h₀) (N : News h₀ L s.heap []) (T : Top hd.view_39 (looseW hd.view_39 [Str.ofString "SyntaxFault"]) mean mg mb h₀)
  (hl : base.IsList l vs.toArray) (hi : IntsAre vs ns) (hn : ns.length ≤ 63) (hk : cs.kind = .function)
  (hdd : dp + dd < recursionLimit) (hu : un + uu < cLine)
  (h : ∀ v news' h' tk', R v news' → Fr h₀ L h' m → News h₀ L h' news' → Q v { s with heap := h', toks := tk' }) :
    wpAny (model PySem.Challenge.rw_xm0661_01.row.prog w) (ktrTop dp un gd cn cs L a ccd [] []) (call (.ref f) [.ref l]) Q E s := S _ _ _ _ _ _ _ _ _ _ _ _ _ _ _ _ _ _ B F X N T hl hi hn hk hdd hu h
theorem PoolTop.go {w : World} {f l : Addr} {vs : List Value} {ns : List Int} {dd uu : Nat} {R : Value → List (Addr × Obj) → Prop}
  {mean : ExcName → Option Value} {mg mb : Str → Option Value} {dp un : Nat} {gd : Option (List Code)} {cn : Str} {cs : Scope} {a : Addr} {ccd : Value} {A₀ : Around} {base h₀ : Heap} {L : Addr} {m : Str → Option Value} {s : Shared} {Q E : Value → Shared → Prop}
  (N : News h₀ L s.heap [] := by assumption) (B : Below A₀ base [] h₀ := by assumption) (F : Fr h₀ L s.heap m := by assumption) (X : (hd.heap_39 w.params).In h₀ := by assumption) (T : Top hd.view_39 (looseW hd.view_39 [Str.ofString "SyntaxFault"]) mean mg mb h₀ := by assumption) (hl : base.IsList l vs.toArray := by assumption) (hi : IntsAre vs ns := by assumption) (hn : ns.length ≤ 63 := by omega) (hk : cs.kind = .function := by first | rfl | assumption) (hdd : dp + dd < recursionLimit := by ktr_room) (hu : un + uu < cLine := by ktr_units)
  (S : PoolTop w f l vs ns dd uu R)
  (h : ∀ v news' h' tk', R v news' → Fr h₀ L h' m → News h₀ L h' news' → Q v { s with heap := h', toks := tk' }) :
    wpAny (model PySem.Challenge.rw_xm0661_01.row.prog w) (ktrTop dp un gd cn cs L a ccd [] []) (call (.ref f) [.ref l]) Q E s := S.use B F X N T hl hi hn hk hdd hu h

theorem pool_spec {w : World} {l : Addr} {vs : List Value} {ns : List Int} :
   PoolTop w 270 l vs ns 1 8 (fun v nw => ∃ D x y tx ty n, v = .ref D ∧ SrcOk x y ∧ nw = [(D, srcObj x y tx ty n)]) := by
  w_top off
  k_with_none
  unfold PoolTop
  k_fill
  intro mean mg mb dp un gd cn cs a ccd A₀ base h₀ L m s Q E B F X N T hl hi hn hk hd hu hret
  refine wpAny_call ?_
  k_dflt cell_enter
  k_steps
  all_goals (
    (with_reducible rename News h₀ L _ (_ :: _) => N1)
    exact hret _ _ _ _ ⟨_, _, _, _, _, _, rfl, ⟨by first | exact Int.le_refl _ | assumption | omega, fmod_bd _ _ (by decide)⟩, rfl⟩ (by assumption) N1)
end Mine
end

section
open PySem PySem.W PyProof.Rows PySem.Calls
set_option maxHeartbeats 2000000
namespace Mine
/-- between two turns of a loop of law's: source is at D, a pair of good ints -/
def SrcAt (D : Addr) (m : Str → Option Value) (nx : List (Addr × Obj)) : Prop :=
  m (Str.ofString "source") = some (.ref D) ∧ ∃ x y tx ty n, SrcOk x y ∧ nx = [(D, srcObj x y tx ty n)]
theorem src_map {D : Addr} {m : Str → Option Value} (hm : m (Str.ofString "source") = some (.ref D)) : (fun z => if z = Str.ofString "source" then some (Value.ref D) else m z) = m := by
  funext z
  by_cases h1 : z = Str.ofString "source"
  · simp [h1, hm]
  · simp only [if_neg h1]
theorem src_loop {prog : Program} {w : World} {A : Around} {E : Value → Shared → Prop} {s : Shared} {env : Env} {h₀ : Heap} {x : Str} {body : List Stmt} {Q : Flow → Shared → Prop}
    {D r : Addr} {a₀ b₀ : Int} {t₀ u₀ v₀ : Tok} {n : Nat} {m₀ : Str → Option Value} {news : List (Addr × Obj)} {xs ys : Int} {txs tys : Tok} {ns : Nat}
    (hh : A.handled = none) (hr : IsRange s.heap r a₀ b₀ 1 t₀ u₀ v₀) (hsmall : Builtin.Range.small a₀ b₀ 1 = true) (hn : Builtin.Range.rangeSize a₀ b₀ 1 = (n : Int)) (F : Fr h₀ env.locals s.heap m₀) (N : News h₀ env.locals s.heap news)
    (hD : (D, srcObj xs ys txs tys ns) ∈ news) (hs : SrcOk xs ys) (hm : m₀ (Str.ofString "source") = some (.ref D))
    (turn : ∀ k t (u : Str → Option Value) x' y' tx ty n' h tk own, (∀ p ∈ own, p.1 ≠ D) → SrcOk x' y' → Fr h₀ env.locals h (fun z => if z = x then some (.int k t) else if z = Str.ofString "source" then some (.ref D) else u z) → News h₀ env.locals h ((D, srcObj x' y' tx ty n') :: own) →
      wpAny (model prog w) A (execs body env) (InvPostN h₀ env.locals (SrcAt D) own [D] { s with heap := h, toks := tk } Q) E { s with heap := h, toks := tk })
    (done : ∀ (u : Str → Option Value) x' y' tx ty n' h tk, SrcOk x' y' → Fr h₀ env.locals h (fun z => if z = Str.ofString "source" then some (.ref D) else u z) → News h₀ env.locals h [(D, srcObj x' y' tx ty n')] → Q .next { s with heap := h, toks := tk }) :
    wpAny (model prog w) A (pyIter (.ref r)) (fun it s₂ => LoopAtV prog w A h₀ env x body Q E it s₂) E s := by
  have N1 : News h₀ env.locals s.heap [(D, srcObj xs ys txs tys ns)] := fun p hp => N p (by rw [List.mem_singleton.mp hp]; exact hD)
  refine iter_rangeS (σ := Unit) (fun _ m nx => SrcAt D m nx) (fun _ _ => ()) () hh hr hsmall hn F N1 ⟨hm, _, _, _, _, _, hs, rfl⟩ ?_ ?_
  · rintro k t _ m₁ nx h tk own hk hoff ⟨hm₁, x', y', tx, ty, n', hs', rfl⟩ F₁ N₁
    rw [← src_map hm₁] at F₁
    exact turn k t m₁ x' y' tx ty n' h tk own (fun p hp => hoff p hp D (.head _)) hs' F₁ N₁
  · rintro m₁ nx h tk ⟨hm₁, x', y', tx, ty, n', hs', rfl⟩ F₁ N₁
    rw [← src_map hm₁] at F₁
    exact done m₁ x' y' tx ty n' h tk hs' F₁ N₁
theorem src_end {D : Addr} {h₀ : Heap} {L : Addr} {m' : Str → Option Value} {own news' : List (Addr × Obj)} {s₁ : Shared} {h' : Heap} {tk : Nat} {x y : Int} {tx ty : Tok} {n : Nat}
    (F : Fr h₀ L h' m') (N : News h₀ L h' news') (hm : m' (Str.ofString "source") = some (.ref D)) (hs : SrcOk x y) (h1 : (D, srcObj x y tx ty n) ∈ news') (h2 : ∀ p ∈ own, p ∈ news') :
    InvEndN h₀ L (SrcAt D) own [D] s₁ { s₁ with heap := h', toks := tk } :=
  InvEndN.intro F N ⟨hm, _, _, _, _, _, hs, rfl⟩ rfl (fun p hp => by rw [List.mem_singleton.mp hp]; exact h1) h2
end Mine
end

section
open PySem PySem.W PyProof.Rows PySem.Calls
set_option maxHeartbeats 2000000
namespace Mine
theorem CallTop.use {w : World} {f : Addr} {vs : List Value} {news : List (Addr × Obj)} {dd uu : Nat} {R : Value → List (Addr × Obj) → Prop} (S : CallTop w f vs news dd uu R)
  {mean : ExcName → Option Value} {mg mb : Str → Option Value} {dp un : Nat} {gd : Option (List Code)} {cn : Str} {cs : Scope} {a : Addr} {ccd : Value} {A₀ : Around} {base h₀ : Heap} {L : Addr} {m : Str → Option Value} {s : Shared} {Q E : Value → Shared → Prop}
  (B : Below A₀ base [] h₀) (F : Fr h₀ L s.heap m) (X : (hd.heap_39 w.params).In h₀) (N : News h₀ L s.heap news) (T : Top hd.view_39 (looseW hd.view_39 [Str.ofString "SyntaxFault"]) mean mg mb h₀)
  (XB : (hd.heap_39 w.params).In base) (TB : Top hd.view_39 (looseW hd.view_39 [Str.ofString "SyntaxFault"]) mean mg mb base) (hk : cs.kind = .function)
  (hdd : dp + dd < recursionLimit) (hu : un + uu < cLine)
  (h : ∀ v news' h' tk', R v news' → Fr h₀ L h' m → News h₀ L h' news' → Q v { s with heap := h', toks := tk' }) :
    wpAny (model PySem.Challenge.rw_xm0661_01.row.prog w) (ktrTop dp un gd cn cs L a ccd [] []) (call (.ref f) vs) Q E s := S _ _ _ _ _ _ _ _ _ _ _ _ _ _ _ _ _ _ B F X N T XB TB hk hdd hu h
theorem CallTop.go {w : World} {f : Addr} {vs : List Value} {news : List (Addr × Obj)} {dd uu : Nat} {R : Value → List (Addr × Obj) → Prop}
  {mean : ExcName → Option Value} {mg mb : Str → Option Value} {dp un : Nat} {gd : Option (List Code)} {cn : Str} {cs : Scope} {a : Addr} {ccd : Value} {A₀ : Around} {base h₀ : Heap} {L : Addr} {m : Str → Option Value} {s : Shared} {Q E : Value → Shared → Prop}
  (N : News h₀ L s.heap news := by assumption) (B : Below A₀ base [] h₀ := by assumption) (F : Fr h₀ L s.heap m := by assumption) (X : (hd.heap_39 w.params).In h₀ := by assumption) (T : Top hd.view_39 (looseW hd.view_39 [Str.ofString "SyntaxFault"]) mean mg mb h₀ := by assumption) (XB : (hd.heap_39 w.params).In base := by assumption) (TB : Top hd.view_39 (looseW hd.view_39 [Str.ofString "SyntaxFault"]) mean mg mb base := by assumption) (hk : cs.kind = .function := by first | rfl | assumption) (hdd : dp + dd < recursionLimit := by ktr_room) (hu : un + uu < cLine := by ktr_units)
  (S : CallTop w f vs news dd uu R)
  (h : ∀ v news' h' tk', R v news' → Fr h₀ L h' m → News h₀ L h' news' → Q v { s with heap := h', toks := tk' }) :
    wpAny (model PySem.Challenge.rw_xm0661_01.row.prog w) (ktrTop dp un gd cn cs L a ccd [] []) (call (.ref f) vs) Q E s := S.use B F X N T XB TB hk hdd hu h

local macro_rules | `(tactic| k_all) => `(tactic| (with_reducible assumption))
local macro_rules | `(tactic| k_room) => `(tactic| ktr_room)
theorem law_holds : PySem.Challenge.rw_xm0661_01.Holds := by
  w_top off
  k_with_none
  (k_with "m:call ref" => (k_here; (with_reducible show wpAny _ _ (call (Value.ref 284) _ _) _ _ _); k_dflt (refine' CallSpec.go (S := (one_spec (by k_updF) (by k_mem) (by k_ne) (by assumption) (by exact Nat.le_of_ble_eq_true (by kernel_rfl)) (by exact Nat.le_of_ble_eq_true (by kernel_rfl)))) (h := ?_); k_whole; rintro v9 nw9 h9 tk9 ⟨hv9, x9, y9, tx9, ty9, n9, hs9, f9⟩ F9 N9; subst f9; obtain ⟨s9, u9, e9, m9, l9⟩ := strs_of hv9 (by kernel_rfl); subst e9; clear hv9; (try dsimp only [List.filterMap, strOf] at m9); (try dsimp only at N9))))
  (k_with "m:call ref" => (k_here; (with_reducible show wpAny _ _ (call (Value.ref 49) _ _) _ _ _); k_dflt (refine' CallSpec.go (S := (is_version_spec (by first | decide | omega))) (h := ?_); k_whole; rintro v9 nw9 h9 tk9 ⟨e9, f9⟩ F9 N9; subst e9 f9)))
  (k_with "m:call ref" => (k_here; (with_reducible show wpAny _ _ (call (Value.ref 42) _ _) _ _ _); k_dflt (refine' CallSpec.go (S := (is_encoding_spec (by first | decide | omega))) (h := ?_); k_whole; rintro v9 nw9 h9 tk9 ⟨e9, f9⟩ F9 N9; subst e9 f9)))
  (k_with "m:call ref" => (k_here; (with_reducible show wpAny _ _ (call (Value.ref 289) _ _) _ _ _); k_dflt (refine' CallSpec.go (S := (law_is_version_spec (by first | decide | omega))) (h := ?_); k_whole; rintro v9 nw9 h9 tk9 ⟨e9, f9⟩ F9 N9; subst e9 f9)))
  (k_with "m:call ref" => (k_here; (with_reducible show wpAny _ _ (call (Value.ref 294) _ _) _ _ _); k_dflt (refine' CallSpec.go (S := (law_is_encoding_spec (by first | decide | omega))) (h := ?_); k_whole; rintro v9 nw9 h9 tk9 ⟨e9, f9⟩ F9 N9; subst e9 f9)))
  (k_with "m:call ref" => (k_here; (with_reducible show wpAny _ _ (call (Value.ref 270) _ _) _ _ _); k_dflt (refine' PoolTop.go (S := pool_spec) (h := ?_); k_whole; rintro v9 nw9 h9 tk9 ⟨D9, x9, y9, tx9, ty9, n9, e9, hs9, f9⟩ F9 N9; subst e9 f9)))
  (k_with "m:call ref" => (k_here; (with_reducible show wpAny _ _ (call (Value.ref 315) _ _) _ _ _); k_dflt (refine' CallTop.go (S := (equals_right_core (by assumption) (by assumption))) (h := ?_); k_whole; rintro v9 nw9 h9 tk9 ⟨e9, x9, y9, tx9, ty9, n9, hs9, f9⟩ F9 N9; subst e9 f9)))
  (k_with "m:call ref" => (k_here; (with_reducible show wpAny _ _ (call (Value.ref 329) _ _) _ _ _); k_dflt (refine' CallTop.go (S := (value_right_core (by assumption) (by assumption))) (h := ?_); k_whole; rintro v9 nw9 h9 tk9 ⟨e9, x9, y9, tx9, ty9, n9, hs9, f9⟩ F9 N9; subst e9 f9)))
  (k_with "m:exec For Name Call cons nil" => (k_here; (rename Fr _ _ _ _ => lF'); (with_unfolding_all refine' For_invVF lF' ?_ ?_ ?_; (focus (exact rfl)); (focus (exact rfl)); k_whole)))
  (k_with "m:pyIter ref" => ((with_reducible show wpAny _ _ (pyIter (Value.ref _)) (fun it s₂ => LoopAtV _ _ _ _ _ _ _ _ _ it s₂) _ _); (rename Fr _ _ _ _ => lF'); (rename News _ _ _ _ => lN'); (rename IsRange _ _ _ _ _ _ _ _ => rgX); (rename SrcOk _ _ => hs8); (with_unfolding_all refine' src_loop (by rfl) rgX (by decide) (by exact rangeSize_nat _ _) lF' lN' (by exact List.Mem.head _) hs8 (by rfl) (fun k' t' u' x8' y8' tx8' ty8' n8' h' tk' own' hoff' hs8' F' N' => ?_) (fun u' x8' y8' tx8' ty8' n8' h' tk' hs8' F' N' => ?_)); (all_goals (try clear lF' lN' rgX hs8))))
  (k_with "m:InvEndN" => (refine hold ?_))
  refine hd ?_
  k_go0
  k_steps
  · refine unhold ?_
    k_dflt (
      (with_reducible rename News _ _ _ (_ :: _) => N1)
      refine' src_end ?F N1 ?hm ?hs ?h1 ?h2
      (case F => assumption)
      (case hm => rfl)
      (case hs => assumption)
      (case h1 => k_mem)
      (case h2 => intro p h; repeat (first | exact h | refine List.Mem.tail _ ?_)))
  · refine unhold ?_
    k_dflt (
      (with_reducible rename News _ _ _ (_ :: _) => N1)
      refine' src_end ?F2 N1 ?hm2 ?hs2 ?h12 ?h22
      (case F2 => assumption)
      (case hm2 => rfl)
      (case hs2 => assumption)
      (case h12 => k_mem)
      (case h22 => intro p h; repeat (first | exact h | refine List.Mem.tail _ ?_)))
end Mine
end

set_option maxRecDepth 100000 in
theorem PySem.Challenge.cw_xm0661_01_holds : PySem.Challenge.rw_xm0661_01.Holds :=
  Mine.law_holds
