import PyProof.Rows.All
import Wide.All
import OpenK.AllK
import Wide.FinOn
import HandS.ForMost
import HandS.ForExc
import HandS.Wide
import HandS.IsInst
import HandS.Style
import HandS.Walk
import HandS.TupAny
import HandS.TupMul
import HandS.Flow
import HandS.WideBits
import KE.GoesEnum
import HandS.Deep
import HandS.Steps
import HandS.Conv
import KE.KStateDown
import HandS.Base
import HandS.Call
import HandS.Ends
import HandS.Words
import HandS.Head0
import HandS.Head1
import HandS.Head2
import HandS.HeadHook1
import HandS.HeadHook2
import KE.KRevSl
import KE.GoesComp
import KE.KAsSuite
import HandS.TryMany
import HandS.ExcIs
import PySem.Challenge.RW_echelon_k52_characteristic_by_primes
set_option Elab.async false
set_option linter.all false
set_option maxRecDepth 100000
set_option maxHeartbeats 4000000
namespace Hx
open PySem PySem.Spec PyProof.Rows L2

/-- a list of addresses, worked out first -/
def frL {α : Type} : List Addr → (List Addr → α) → α
  | [], k => k []
  | a :: r, k => HandSHeadRun.frNat a fun a => frL r fun r => k (a :: r)
theorem frL_eq {α : Type} : ∀ (as : List Addr) (k : List Addr → α), frL as k = k as
  | [], _ => rfl
  | a :: r, k => by
    show HandSHeadRun.frNat a (fun a => frL r fun r => k (a :: r)) = _
    rw [HandSHeadRun.frNat_eq, frL_eq r]
/-- the objects at these addresses, worked out first -/
def frK {α : Type} (g : Addr → Option Obj) : List Addr → (PySem.W.Frag → α) → α
  | [], k => k []
  | a :: r, k => match g a with
    | some o => frK g r fun K => k ((a, o) :: K)
    | none => frK g r k
theorem frK_eq {α : Type} (g : Addr → Option Obj) : ∀ (as : List Addr) (k : PySem.W.Frag → α), frK g as k = k (He.frG g as)
  | [], _ => rfl
  | a :: r, k => by
    unfold frK
    cases e : g a with
    | none =>
      dsimp only
      rw [frK_eq g r]
      unfold He.frG
      rw [List.filterMap_cons, e]
      rfl
    | some o =>
      dsimp only
      rw [frK_eq g r]
      unfold He.frG
      rw [List.filterMap_cons, e]
      rfl
/-- what these objects name -/
def nxt (g : Addr → Option Obj) (as : List Addr) : List Addr := as.flatMap fun a => match g a with
  | some o => He.refsO o
  | none => []
def goA {α : Type} (g : Addr → Option Obj) : Nat → List Addr → List Addr → (List Addr → α) → α
  | 0, acc, cur, k => frL (acc ++ cur) k
  | n + 1, acc, cur, k => frL (nxt g cur) fun nx => goA g n (acc ++ cur) nx k
def asF (g : Addr → Option Obj) : Nat → List Addr → List Addr → List Addr
  | 0, acc, cur => acc ++ cur
  | n + 1, acc, cur => asF g n (acc ++ cur) (nxt g cur)
theorem goA_eq {α : Type} (g : Addr → Option Obj) : ∀ (n : Nat) (acc cur : List Addr) (k : List Addr → α), goA g n acc cur k = k (asF g n acc cur)
  | 0, acc, cur, k => frL_eq _ k
  | n + 1, acc, cur, k => by
    show frL (nxt g cur) _ = _
    rw [frL_eq]
    exact goA_eq g n (acc ++ cur) (nxt g cur) k

/-- what is asked of the top: the defs, the names of defs and classes, methods, classes that are made, classes with their fields, exceptions, which of them are kinds of which, free names, constants -/
structure Fd where
  fns : List He.FnD
  glo : List Str
  meth : List (Str × Str)
  mks : List Str
  cls : List (Str × List Str)
  exc : List Str
  sub : List (Str × Str × Bool)
  isi : Bool
  free : List Str
  zs : List (Str × Int)
  ss : List (Str × Str)
  ts : List (Str × List Str)

section
variable (K : PySem.W.Frag)
def kGlo (x : Str) : Bool := He.eqO (PySem.W.nsIn K mainGlobals x) (some (some (.ref (He.ga K x))))
def kDef (d : He.FnD) : Bool := (He.Fa.code d.at_ d.qual).ok K && PySem.W.keepIn K (.ref (He.fAd K d.at_))
def kCls (p : Str × List Str) : Bool := (He.Fa.cls p.1).ok K && p.2.all fun f => (He.Fa.noat p.1 f).ok K
def kExc (x : Str) : Bool := (He.Fa.exc x).ok K && PySem.W.isClsIn K (He.ga K x)
def kSub (q : Str × Str × Bool) : Bool := decide (PySem.W.subIn K (.ref (He.ga K q.1)) (.ref (He.ga K q.2.1)) = some q.2.2)
def kIsi (x : Str) : Bool :=
  He.eqO (PySem.W.findIn K (.ref (He.ga K x)) "__getattribute__") (some (some (.builtin "BaseException.__getattribute__"))) &&
  (He.eqO (PySem.W.findIn K (.ref (He.ga K x)) "__getattr__") (some none) &&
  (PySem.W.hasDictIn K (He.ga K x) &&
  (He.eqO (PySem.W.findIn K (.ref (He.ga K x)) "__class__") (some (some (.builtin "object.__class__"))) &&
  (decide (PySem.W.mroIn K (He.ga K x) (.type "object") = some true) &&
  (decide (PySem.W.subIn K (.ref (He.ga K x)) (.type "ValueError") = some true) &&
  decide (PySem.W.subIn K (.ref (He.ga K x)) (.ref (He.ga K x)) = some true))))))
def kCl0 : Bool := He.eqO (PySem.W.specialIn K (.builtin "object.__class__") "__get__") (some (some (.builtin "getset_descriptor.__get__"))) && decide (PySem.W.takesIn K (.builtin "object.__class__") = some true)
def kFree (x : Str) : Bool := He.eqO (PySem.W.nsIn K mainGlobals x) (some none)
def kTxts (p : Str × List Str) : Bool := match K.lookup (He.ga K p.1) with
  | some ⟨.type c, _, .seq its _, _⟩ => decide (c = "tuple") && (decide (its.size ≤ sizeLine) && He.relAll (p.2.map V.str) its.toList)
  | _ => false
def kAll (D : Fd) : Bool :=
  (D.glo.all fun x => kGlo K x) && ((D.fns.all fun d => kDef K d) && ((D.meth.all fun p => (He.Fa.meth p.1 p.2).ok K) && ((D.mks.all fun x => (He.Fa.mkr x).ok K) && ((D.cls.all fun p => kCls K p) &&
  ((D.exc.all fun x => kExc K x) && ((D.sub.all fun q => kSub K q) && ((!D.isi || (kCl0 K && D.exc.all fun x => kIsi K x)) && ((D.free.all fun x => kFree K x) &&
  ((D.zs.all fun q => (He.Fa.int q.1 q.2).ok K) && ((D.ss.all fun q => (He.Fa.str q.1 q.2).ok K) && D.ts.all fun q => kTxts K q))))))))))
end
/-- the facts, the defs: each seen by a run of its own -/
def obs1 (D : Fd) (g : Addr → Option Obj) : Bool := goA g 4 [] [mainGlobals] fun as => frK g as fun K => kAll K D
def obs2 (D : Fd) (g : Addr → Option Obj) : List He.FnV := goA g 4 [] [mainGlobals] fun as => frK g as fun K => D.fns.map fun d => He.fnObs K d.at_
def obsX (D : Fd) (g : Addr → Option Obj) : Bool × List He.FnV := (obs1 D g, obs2 D g)
structure Says (D : Fd) (K : PySem.W.Frag) : Prop where
  all : kAll K D = true
  fns : D.fns.map (fun d => He.fnObs K d.at_) = D.fns.map He.FnD.val
def hk (D : Fd) : PySem.W.Hook where
  α := Bool × List He.FnV
  obs := fun s => obsX D s.heap.get?
  val := fun _ => (true, D.fns.map He.FnD.val)
  says := fun _ h => ∃ K : PySem.W.Frag, K.In h ∧ Says D K
  of := fun _ s e => by
    unfold obsX obs1 obs2 at e
    rw [goA_eq, goA_eq, frK_eq, frK_eq] at e
    exact ⟨_, He.frG_in, (Prod.mk.inj e).1, (Prod.mk.inj e).2⟩
  keeps := fun _ _ _ ⟨K, hK, c⟩ k => ⟨K, PySem.W.Frag.In.keeps hK k, c⟩
/-- the same off the tree -/
def ob (D : Fd) (s : PySem.W.SharedT) : Bool × List He.FnV := obsX D (HandSHeadRun.getT s)
theorem ob_eq (D : Fd) (s : PySem.W.SharedT) : ob D s = (hk D).obs s.abs := by
  have e : HandSHeadRun.getT s = s.abs.heap.get? := funext (HandSHeadRun.getT_eq s)
  show obsX D (HandSHeadRun.getT s) = obsX D s.abs.heap.get?
  rw [e]
/-- the state behind the top, by the twins -/
noncomputable abbrev endS (M : Nat) (p : Program) (w : World) (os : OsState) : Option PySem.W.SharedT := HandSHeadRun.endF (HandSHeadRun.stepQ (HandSHeadRun.denQ HandSHeadRun.tabQ) p w) M p w os
/-- three runs are one -/
theorem run_of {r : PySem.W.OpenRow} {q : Program} {D : Fd} {M : Nat} {loose : List Str} {w : World} (h : HandSHeadRun.RunEq r q PySem.W.Hook.none (fun _ => ()) M loose w)
    (h1 : ∀ os : OsState, (endS M r.prog w os).map (fun s => obs1 D (HandSHeadRun.getT s)) = some true)
    (h2 : ∀ os : OsState, (endS M r.prog w os).map (fun s => obs2 D (HandSHeadRun.getT s)) = some (D.fns.map He.FnD.val)) : HandSHeadRun.RunEq r q (hk D) (ob D) M loose w := by
  intro os
  have a := h os
  have b := h1 os
  have c := h2 os
  obtain ⟨s, hs, ha⟩ := Option.map_eq_some_iff.mp a
  unfold endS at b c
  rw [hs, Option.map_some] at b c
  rw [hs, Option.map_some]
  have ha2 := Prod.mk.inj ha
  have ha3 := Prod.mk.inj ha2.2
  refine congrArg some (Prod.ext ha2.1 (Prod.ext ha3.1 ?_))
  show (obs1 D (HandSHeadRun.getT s), obs2 D (HandSHeadRun.getT s)) = (true, D.fns.map He.FnD.val)
  rw [Option.some.inj b, Option.some.inj c]

section
variable {D : Fd} {K : PySem.W.Frag}
theorem Says.parts (c : Says D K) : (∀ x ∈ D.glo, kGlo K x = true) ∧ (∀ d ∈ D.fns, kDef K d = true) ∧ (∀ p ∈ D.meth, (He.Fa.meth p.1 p.2).ok K = true) ∧ (∀ x ∈ D.mks, (He.Fa.mkr x).ok K = true) ∧ (∀ p ∈ D.cls, kCls K p = true) ∧
    (∀ x ∈ D.exc, kExc K x = true) ∧ (∀ q ∈ D.sub, kSub K q = true) ∧ (D.isi = true → kCl0 K = true ∧ ∀ x ∈ D.exc, kIsi K x = true) ∧ (∀ x ∈ D.free, kFree K x = true) ∧ (∀ q ∈ D.zs, (He.Fa.int q.1 q.2).ok K = true) ∧
    (∀ q ∈ D.ss, (He.Fa.str q.1 q.2).ok K = true) ∧ (∀ q ∈ D.ts, kTxts K q = true) := by
  have h := c.all
  unfold kAll at h
  simp only [Bool.and_eq_true, List.all_eq_true, Bool.or_eq_true, Bool.not_eq_true'] at h
  obtain ⟨h1, h2, h3, h4, h5, h6, h7, h8, h9, h10, h11, h12⟩ := h
  refine ⟨h1, h2, h3, h4, h5, h6, h7, fun e => ?_, h9, h10, h11, h12⟩
  rcases h8 with z | z
  · rw [e] at z; cases z
  · exact z
theorem Says.glo (c : Says D K) {x : Str} (h : x ∈ D.glo) : PySem.W.nsIn K mainGlobals x = some (some (.ref (He.ga K x))) := He.eqO_ok (c.parts.1 x h)
theorem Says.free (c : Says D K) {x : Str} (h : x ∈ D.free) : PySem.W.nsIn K mainGlobals x = some none := He.eqO_ok (c.parts.2.2.2.2.2.2.2.2.1 x h)
theorem Says.fn (c : Says D K) (i : Nat) {d : He.FnD} (h : D.fns[i]? = some d) :
    ∃ oc od osl kV doc pm an cdv ct, K.lookup (He.fAd K d.at_) = some ⟨oc, od, .func (PySem.W.fnOf d.name d.qual d.params d.body d.scope .none kV doc pm an cdv ct), osl⟩ ∧ PySem.W.codeIn K cdv d.qual = true ∧ PySem.W.keepIn K (.ref (He.fAd K d.at_)) = true := by
  have k := c.parts.2.1 d (List.mem_of_getElem? h)
  obtain ⟨k1, k2⟩ := He.ba k
  have e2 : (D.fns.map fun d => He.fnObs K d.at_)[i]? = (D.fns.map He.FnD.val)[i]? := by rw [c.fns]
  rw [List.getElem?_map, List.getElem?_map, h] at e2
  obtain ⟨oc, od, osl, kV, doc, pm, an, cdv, ct, l, q⟩ := He.fn_ok (Option.some.inj e2) k1
  exact ⟨oc, od, osl, kV, doc, pm, an, cdv, ct, l, q, k2⟩
theorem Says.txt (c : Says D K) {q : Str × List Str} (h : q ∈ D.ts) : ∃ (o : Obj) (its : Array Value) (n : Nat), K.lookup (He.ga K q.1) = some o ∧ o.cls = .type "tuple" ∧ o.data = .seq its n ∧ its.size ≤ sizeLine ∧ Vals (q.2.map V.str) its.toList := by
  have k := c.parts.2.2.2.2.2.2.2.2.2.2.2 q h
  unfold kTxts at k
  cases e : K.lookup (He.ga K q.1) with
  | none => rw [e] at k; cases k
  | some o =>
    obtain ⟨oc, od, dt, osl⟩ := o
    rw [e] at k
    cases oc with
    | type c =>
      cases dt with
      | seq its n =>
        obtain ⟨h1, h2⟩ := He.ba (show (decide (c = "tuple") && (decide (its.size ≤ sizeLine) && He.relAll (q.2.map V.str) its.toList)) = true from k)
        obtain ⟨h3, h4⟩ := He.ba h2
        exact ⟨_, its, n, rfl, congrArg Value.type (of_decide_eq_true h1), rfl, of_decide_eq_true h3, He.relAll_ok h4⟩
      | _ => cases k
    | _ => cases dt <;> cases k
end
end Hx

namespace Lw
namespace Hd
open PySem PySem.W PySem.Calls PyProof.Rows
def topS (i : Nat) : Stmt := PySem.Challenge.pw_echelon_k52_characteristic_by_primes.main.body.getD i (.Pass ⟨0, 0, 0, 0⟩)
def fnL_0 : List He.FnD := [⟨("common", none), "common", "common", L2.defArgs (topS 6), L2.defBody (topS 6), L2.defScope (topS 6)⟩, ⟨("divisor", none), "divisor", "divisor", L2.defArgs (topS 7), L2.defBody (topS 7), L2.defScope (topS 7)⟩, ⟨("combine", none), "combine", "combine", L2.defArgs (topS 8), L2.defBody (topS 8), L2.defScope (topS 8)⟩, ⟨("is_prime", none), "is_prime", "is_prime", L2.defArgs (topS 9), L2.defBody (topS 9), L2.defScope (topS 9)⟩, ⟨("next_prime", none), "next_prime", "next_prime", L2.defArgs (topS 10), L2.defBody (topS 10), L2.defScope (topS 10)⟩, ⟨("fraction", none), "fraction", "fraction", L2.defArgs (topS 11), L2.defBody (topS 11), L2.defScope (topS 11)⟩, ⟨("root", none), "root", "root", L2.defArgs (topS 12), L2.defBody (topS 12), L2.defScope (topS 12)⟩, ⟨("symmetric", none), "symmetric", "symmetric", L2.defArgs (topS 13), L2.defBody (topS 13), L2.defScope (topS 13)⟩, ⟨("is_integer", none), "is_integer", "is_integer", L2.defArgs (topS 16), L2.defBody (topS 16), L2.defScope (topS 16)⟩, ⟨("is_domain", none), "is_domain", "is_domain", L2.defArgs (topS 17), L2.defBody (topS 17), L2.defScope (topS 17)⟩, ⟨("is_field", none), "is_field", "is_field", L2.defArgs (topS 18), L2.defBody (topS 18), L2.defScope (topS 18)⟩, ⟨("need_field", none), "need_field", "need_field", L2.defArgs (topS 19), L2.defBody (topS 19), L2.defScope (topS 19)⟩, ⟨("zero", none), "zero", "zero", L2.defArgs (topS 20), L2.defBody (topS 20), L2.defScope (topS 20)⟩, ⟨("one", none), "one", "one", L2.defArgs (topS 21), L2.defBody (topS 21), L2.defScope (topS 21)⟩, ⟨("from_integer", none), "from_integer", "from_integer", L2.defArgs (topS 22), L2.defBody (topS 22), L2.defScope (topS 22)⟩, ⟨("trimmed", none), "trimmed", "trimmed", L2.defArgs (topS 23), L2.defBody (topS 23), L2.defScope (topS 23)⟩, ⟨("add", none), "add", "add", L2.defArgs (topS 24), L2.defBody (topS 24), L2.defScope (topS 24)⟩, ⟨("negate", none), "negate", "negate", L2.defArgs (topS 25), L2.defBody (topS 25), L2.defScope (topS 25)⟩, ⟨("subtract", none), "subtract", "subtract", L2.defArgs (topS 26), L2.defBody (topS 26), L2.defScope (topS 26)⟩, ⟨("multiply", none), "multiply", "multiply", L2.defArgs (topS 27), L2.defBody (topS 27), L2.defScope (topS 27)⟩, ⟨("inverse", none), "inverse", "inverse", L2.defArgs (topS 28), L2.defBody (topS 28), L2.defScope (topS 28)⟩, ⟨("quotient", none), "quotient", "quotient", L2.defArgs (topS 29), L2.defBody (topS 29), L2.defScope (topS 29)⟩, ⟨("need_shape", none), "need_shape", "need_shape", L2.defArgs (topS 31), L2.defBody (topS 31), L2.defScope (topS 31)⟩, ⟨("need_square", none), "need_square", "need_square", L2.defArgs (topS 32), L2.defBody (topS 32), L2.defScope (topS 32)⟩, ⟨("may_change", none), "may_change", "may_change", L2.defArgs (topS 33), L2.defBody (topS 33), L2.defScope (topS 33)⟩, ⟨("changed", none), "changed", "changed", L2.defArgs (topS 34), L2.defBody (topS 34), L2.defScope (topS 34)⟩, ⟨("change", none), "change", "change", L2.defArgs (topS 35), L2.defBody (topS 35), L2.defScope (topS 35)⟩, ⟨("hessenberg", none), "hessenberg", "hessenberg", L2.defArgs (topS 37), L2.defBody (topS 37), L2.defScope (topS 37)⟩, ⟨("exchange", none), "exchange", "exchange", L2.defArgs (topS 38), L2.defBody (topS 38), L2.defScope (topS 38)⟩, ⟨("clear_entry", none), "clear_entry", "clear_entry", L2.defArgs (topS 39), L2.defBody (topS 39), L2.defScope (topS 39)⟩]
def fnL_1 : List He.FnD := [⟨("characteristic", none), "characteristic", "characteristic", L2.defArgs (topS 40), L2.defBody (topS 40), L2.defScope (topS 40)⟩, ⟨("row_square", none), "row_square", "row_square", L2.defArgs (topS 43), L2.defBody (topS 43), L2.defScope (topS 43)⟩, ⟨("coefficient_bound", none), "coefficient_bound", "coefficient_bound", L2.defArgs (topS 44), L2.defBody (topS 44), L2.defScope (topS 44)⟩, ⟨("primes_for", none), "primes_for", "primes_for", L2.defArgs (topS 45), L2.defBody (topS 45), L2.defScope (topS 45)⟩, ⟨("characteristic_by_primes", none), "characteristic_by_primes", "characteristic_by_primes", L2.defArgs (topS 46), L2.defBody (topS 46), L2.defScope (topS 46)⟩, ⟨("_law_start", none), "_law_start", "_law_start", L2.defArgs (topS 48), L2.defBody (topS 48), L2.defScope (topS 48)⟩, ⟨("_law_fill", none), "_law_fill", "_law_fill", L2.defArgs (topS 49), L2.defBody (topS 49), L2.defScope (topS 49)⟩, ⟨("_law_take", none), "_law_take", "_law_take", L2.defArgs (topS 50), L2.defBody (topS 50), L2.defScope (topS 50)⟩, ⟨("_law_common", none), "_law_common", "_law_common", L2.defArgs (topS 52), L2.defBody (topS 52), L2.defScope (topS 52)⟩, ⟨("_law_fraction", none), "_law_fraction", "_law_fraction", L2.defArgs (topS 53), L2.defBody (topS 53), L2.defScope (topS 53)⟩, ⟨("_law_zero", none), "_law_zero", "_law_zero", L2.defArgs (topS 54), L2.defBody (topS 54), L2.defScope (topS 54)⟩, ⟨("_law_strip", none), "_law_strip", "_law_strip", L2.defArgs (topS 55), L2.defBody (topS 55), L2.defScope (topS 55)⟩, ⟨("_law_number", none), "_law_number", "_law_number", L2.defArgs (topS 56), L2.defBody (topS 56), L2.defScope (topS 56)⟩, ⟨("_law_part", none), "_law_part", "_law_part", L2.defArgs (topS 57), L2.defBody (topS 57), L2.defScope (topS 57)⟩, ⟨("_law_add", none), "_law_add", "_law_add", L2.defArgs (topS 58), L2.defBody (topS 58), L2.defScope (topS 58)⟩, ⟨("_law_multiply", none), "_law_multiply", "_law_multiply", L2.defArgs (topS 59), L2.defBody (topS 59), L2.defScope (topS 59)⟩, ⟨("_law_small", none), "_law_small", "_law_small", L2.defArgs (topS 68), L2.defBody (topS 68), L2.defScope (topS 68)⟩, ⟨("_law_matrix", none), "_law_matrix", "_law_matrix", L2.defArgs (topS 69), L2.defBody (topS 69), L2.defScope (topS 69)⟩, ⟨("_law_dot", none), "_law_dot", "_law_dot", L2.defArgs (topS 70), L2.defBody (topS 70), L2.defScope (topS 70)⟩, ⟨("_law_column", none), "_law_column", "_law_column", L2.defArgs (topS 71), L2.defBody (topS 71), L2.defScope (topS 71)⟩, ⟨("_law_product", none), "_law_product", "_law_product", L2.defArgs (topS 72), L2.defBody (topS 72), L2.defScope (topS 72)⟩, ⟨("_law_low", none), "_law_low", "_law_low", L2.defArgs (topS 74), L2.defBody (topS 74), L2.defScope (topS 74)⟩, ⟨("_law_orders", none), "_law_orders", "_law_orders", L2.defArgs (topS 76), L2.defBody (topS 76), L2.defScope (topS 76)⟩, ⟨("_law_sign", none), "_law_sign", "_law_sign", L2.defArgs (topS 77), L2.defBody (topS 77), L2.defScope (topS 77)⟩, ⟨("_law_determinant", none), "_law_determinant", "_law_determinant", L2.defArgs (topS 78), L2.defBody (topS 78), L2.defScope (topS 78)⟩, ⟨("_law_by_minors", none), "_law_by_minors", "_law_by_minors", L2.defArgs (topS 79), L2.defBody (topS 79), L2.defScope (topS 79)⟩, ⟨("_law_choices", none), "_law_choices", "_law_choices", L2.defArgs (topS 80), L2.defBody (topS 80), L2.defScope (topS 80)⟩, ⟨("_law_whole", none), "_law_whole", "_law_whole", L2.defArgs (topS 81), L2.defBody (topS 81), L2.defScope (topS 81)⟩, ⟨("_law_exact", none), "_law_exact", "_law_exact", L2.defArgs (topS 85), L2.defBody (topS 85), L2.defScope (topS 85)⟩, ⟨("_law_wide", none), "_law_wide", "_law_wide", L2.defArgs (topS 86), L2.defBody (topS 86), L2.defScope (topS 86)⟩]
def fnL_2 : List He.FnD := [⟨("law", none), "law", "law", L2.defArgs (topS 87), L2.defBody (topS 87), L2.defScope (topS 87)⟩]
def fnL : List He.FnD := fnL_0 ++ (fnL_1 ++ (fnL_2))
def gloL_0 : List PySem.Str := ["common", "divisor", "combine", "is_prime", "next_prime", "fraction", "root", "symmetric", "is_integer", "is_domain", "is_field", "need_field", "zero", "one", "from_integer", "trimmed", "add", "negate", "subtract", "multiply", "inverse", "quotient", "need_shape", "need_square", "may_change", "changed", "change", "hessenberg", "exchange", "clear_entry"]
def gloL_1 : List PySem.Str := ["characteristic", "row_square", "coefficient_bound", "primes_for", "characteristic_by_primes", "_law_start", "_law_fill", "_law_take", "_law_common", "_law_fraction", "_law_zero", "_law_strip", "_law_number", "_law_part", "_law_add", "_law_multiply", "_law_small", "_law_matrix", "_law_dot", "_law_column", "_law_product", "_law_low", "_law_orders", "_law_sign", "_law_determinant", "_law_by_minors", "_law_choices", "_law_whole", "_law_exact", "_law_wide"]
def gloL_2 : List PySem.Str := ["law", "DomainError", "ShapeError", "SingularError"]
def gloL : List PySem.Str := gloL_0 ++ (gloL_1 ++ (gloL_2))
def metL_0 : List (PySem.Str × PySem.Str) := []
def metL : List (PySem.Str × PySem.Str) := metL_0
def mkL_0 : List PySem.Str := []
def mkL : List PySem.Str := mkL_0
def clsL_0 : List (PySem.Str × List PySem.Str) := []
def clsL : List (PySem.Str × List PySem.Str) := clsL_0
def excL_0 : List PySem.Str := ["DomainError", "ShapeError", "SingularError"]
def excL : List PySem.Str := excL_0
def subL_0 : List (PySem.Str × PySem.Str × Bool) := [("DomainError", "DomainError", true), ("DomainError", "ShapeError", false), ("DomainError", "SingularError", false), ("ShapeError", "DomainError", false), ("ShapeError", "ShapeError", true), ("ShapeError", "SingularError", false), ("SingularError", "DomainError", false), ("SingularError", "ShapeError", false), ("SingularError", "SingularError", true)]
def subL : List (PySem.Str × PySem.Str × Bool) := subL_0
def frL_0 : List PySem.Str := ["abs", "len", "min", "max", "int", "tuple", "list", "all", "any", "sum", "isinstance", "bool", "str", "range", "enumerate", "ValueError", "sorted"]
def frL : List PySem.Str := frL_0
def zL_0 : List (PySem.Str × Int) := [("FIRST", 32768), ("MOST_PRIME", 65521)]
def zL : List (PySem.Str × Int) := zL_0
def sL_0 : List (PySem.Str × PySem.Str) := []
def sL : List (PySem.Str × PySem.Str) := sL_0
def tL_0 : List (PySem.Str × List PySem.Str) := []
def tL : List (PySem.Str × List PySem.Str) := tL_0
def loose_0 : List PySem.Str := ["EchelonError", "DomainError", "ShapeError", "SingularError", "common", "divisor", "combine", "is_prime", "next_prime", "fraction", "root", "symmetric", "MOST_PRIME", "is_integer", "is_domain", "is_field", "need_field", "zero", "one", "from_integer", "trimmed", "add", "negate", "subtract", "multiply", "inverse", "quotient", "need_shape", "need_square", "may_change"]
def loose_1 : List PySem.Str := ["changed", "change", "hessenberg", "exchange", "clear_entry", "characteristic", "FIRST", "row_square", "coefficient_bound", "primes_for", "characteristic_by_primes", "_law_start", "_law_fill", "_law_take", "_law_raised", "_law_common", "_law_fraction", "_law_zero", "_law_strip", "_law_number", "_law_part", "_law_add", "_law_multiply", "_law_subtract", "_law_power", "_law_inverse", "_law_some_prime", "_law_field", "_law_domain", "_law_integer"]
def loose_2 : List PySem.Str := ["_law_element", "_law_small", "_law_matrix", "_law_dot", "_law_column", "_law_product", "_law_identity", "_law_low", "_law_normal", "_law_orders", "_law_sign", "_law_determinant", "_law_by_minors", "_law_choices", "_law_whole", "_law_is_element", "_law_is_over", "_law_are_elements", "_law_exact", "_law_wide"]
def loose : List PySem.Str := loose_0 ++ (loose_1 ++ (loose_2))
def fd : Hx.Fd := ⟨fnL, gloL, metL, mkL, clsL, excL, subL, false, frL, zL, sL, tL⟩
abbrev R : OpenRow := OpenLaw.row PySem.Challenge.rw_echelon_k52_characteristic_by_primes
abbrev qv : Program := view R.prog [87]
abbrev dl : DefRec := HandSHeadRun.topDef R.prog 87
theorem run0 (w : World) : HandSHeadRun.RunEq R qv Hook.none (fun _ => ()) 60000 loose w := by
  intro os
  kernel_rfl
theorem run1 (w : World) (os : OsState) : (Hx.endS 60000 R.prog w os).map (fun s => Hx.obs1 fd (HandSHeadRun.getT s)) = some true := by kernel_rfl
theorem run2 (w : World) (os : OsState) : (Hx.endS 60000 R.prog w os).map (fun s => Hx.obs2 fd (HandSHeadRun.getT s)) = some (fd.fns.map He.FnD.val) := by kernel_rfl
theorem run (w : World) : HandSHeadRun.RunEq R qv (Hx.hk fd) (Hx.ob fd) 60000 loose w := Hx.run_of (run0 w) (run1 w) (run2 w)
end Hd
open PySem PySem.W PySem.Calls PyProof.Rows
set_option maxHeartbeats 0 in
theorem top_law (walk : WalkO Hd.qv Hd.loose (XL Hd.qv []) (Hx.hk Hd.fd).says Hd.R.toRowW Hd.dl [] fun f vs => PySem.call f vs) : PySem.Challenge.rw_echelon_k52_characteristic_by_primes.Holds := by
  w_on; o_law
  refine HandSHeadRun.head_any (r := Hd.R) (q := Hd.qv) (H := Hx.hk Hd.fd) (ob := Hx.ob Hd.fd) (M := 60000) (loose := Hd.loose) (d := Hd.dl) (kwd := []) (Hx.ob_eq Hd.fd) (by kernel_rfl) (fun s => by kernel_rfl) Hd.run (by kernel_rfl) (by kernel_rfl) (by kernel_rfl) (by rfl) (by first | assumption | decide +kernel) (by decide +kernel) ⟨rfl, rfl, rfl, rfl, rfl, by decide +kernel⟩ ?hw walk
  case hw => w_witness2
end Lw

namespace Ek
open PySem (Str IntMulOk)

/-- a class: its name, its fields in the order of their first store -/
structure Cl where
  name : Str
  fs : List Str
inductive U where
  | non | bl (b : Bool) | int (i : Int) | str (x : Str) | tup (us : List U) | ref (h : Nat) | fz (us : List U) | fn (x : Str) | obj (c : Cl) (h : Nat)
inductive Ob where
  | lst (us : List U)
abbrev Sto := List Ob
abbrev Sl := List (Option U)
abbrev UQ := U → Sto → Prop
abbrev XQ := Nat → Sl → Sto → Prop
def Ob.items : Ob → List U
  | .lst us => us

inductive Op where
  | add | sub | mul | fdiv | mod | pow | shl
  deriving DecidableEq
inductive Cm where
  | lt | le | gt | ge | eq | ne | isn | notn | mem | nomem
  deriving DecidableEq
inductive Ty where
  | int | bool | str | tuple | list
  deriving DecidableEq
inductive Bi where
  | abs | len | min2 | max2 | int1 | tup1 | lst1 | all | any | sum | isi (t : Ty) | bits | lrange | max1 | min1 | sort1
  deriving DecidableEq
inductive Ex where
  | var (i : Nat)
  | cint (i : Int) | cstr (x : Str) | cbl (b : Bool) | cnon | ctup (xs : List Str)
  | op (o : Op) (a b : Ex)
  | neg (a : Ex)
  | cmp (c : Cm) (a b : Ex)
  | chn (c c' : Cm) (a b d : Ex)
  | and (a b : Ex) | or (a b : Ex) | not (a : Ex)
  | ife (t a b : Ex)
  | tup (es : List Ex) | lst (es : List Ex)
  | ix (a i : Ex)
  | sl (a lo hi : Ex)
  | rev (a : Ex)
  /-- a list's index of an int -/
  | idx (a b : Ex)
  | call (f : Nat) (es : List Ex)
  /-- a def's name as a value; a call of what a slot holds, by the names of the defs -/
  | cfn (x : Str) | callv (i : Nat) (F : List Str) (es : List Ex)
  | bi (b : Bi) (es : List Ex)
  /-- an object's field; a new object by its __init__; a method's call -/
  | fld (a : Ex) (c : Cl) (i : Nat) | make (c : Cl) (f : Nat) (es : List Ex) | meth (a : Ex) (c : Cl) (f : Nat) (es : List Ex)
  /-- own: the block's slots; k: what is walked (0 a value, 1 range, 2 enumerate) -/
  | comp (own : List Nat) (ts : List Nat) (tp : Bool) (k : Nat) (es : List Ex) (tests : List Ex) (elt : Ex)
inductive Tg where
  | var (i : Nat) | tup (ts : List Tg) | sub (o i : Ex)
inductive Sm where
  | set (t : Tg) (e : Ex)
  | par2 (i j : Nat) (a b : Ex)
  | par3 (i j k : Nat) (a b c : Ex)
  | aug (i : Nat) (o : Op) (e : Ex)
  | ifs (c : Ex) (a b : List Sm)
  | whl (c : Ex) (b : List Sm)
  | for_ (t : Tg) (k : Nat) (es : List Ex) (b : List Sm)
  | fset (o : Ex) (c : Cl) (i : Nat) (e : Ex) | faug (o : Ex) (c : Cl) (i : Nat) (p : Op) (e : Ex)
  | ret (e : Ex) | retn | exp (e : Ex) | app (o e : Ex) | pass | brk | cnt | raise (c : Nat) | no
  /-- the number of classes; the body; what becomes of each class: its clause's result (none: continue) -/
  | try_ (n : Nat) (b : List Sm) (tb : List (Nat × Option Ex))
/-- sn: the name without that of the class; vc: which names hold objects of which classes; ini: an __init__ -/
structure Df where
  name : Str
  ps : List Str
  N : List Str
  body : List Sm
  sn : Str
  vc : List (Str × Cl)
  ini : Bool

mutual
def U.bnd (n : Nat) : U → Bool
  | .tup us => U.bnds n us
  | .fz us => U.bnds n us
  | .ref h => decide (h < n)
  | .obj _ h => decide (h < n)
  | _ => true
def U.bnds (n : Nat) : List U → Bool
  | [] => true
  | u :: us => U.bnd n u && U.bnds n us
end
mutual
def U.dat : Nat → U → Bool
  | 0, _ => false
  | _ + 1, .ref _ => false
  | _ + 1, .fz _ => false
  | _ + 1, .fn _ => false
  | _ + 1, .obj _ _ => false
  | n + 1, .tup us => U.dats n us
  | _ + 1, .str x => PySem.PyData.strOk x
  | _ + 1, _ => true
def U.dats : Nat → List U → Bool
  | _, [] => true
  | n, u :: us => U.dat n u && U.dats n us
end
mutual
def U.eqv : U → U → Bool
  | .non, .non => true
  | .bl a, .bl b => a == b
  | .bl a, .int j => (if a then 1 else 0) == j
  | .int i, .bl b => i == (if b then 1 else 0)
  | .int i, .int j => i == j
  | .str x, .str y => x == y
  | .tup us, .tup vs => U.eqvs us vs
  | _, _ => false
def U.eqvs : List U → List U → Bool
  | [], [] => true
  | u :: us, v :: vs => U.eqv u v && U.eqvs us vs
  | _, _ => false
end
def Ob.bnd (n : Nat) (o : Ob) : Bool := U.bnds n o.items
def big : Nat := 16000000

def addU : U → U → Sto → UQ → Prop
  | .int i, .int j, S, Q => Q (.int (i + j)) S
  | .str x, .str y, S, Q => x.length + y.length ≤ big ∧ Q (.str (x ++ y)) S
  | .tup us, .tup vs, S, Q => us.length + vs.length ≤ big ∧ Q (.tup (us ++ vs)) S
  | .ref h, .ref g, S, Q => ∃ us vs, S[h]? = some (.lst us) ∧ S[g]? = some (.lst vs) ∧ us.length + vs.length ≤ big ∧ Q (.ref S.length) (S ++ [.lst (us ++ vs)])
  | _, _, _, _ => False
def mulU : U → U → Sto → UQ → Prop
  | .int i, .int j, S, Q => IntMulOk i j ∧ Q (.int (i * j)) S
  | .ref h, .int k, S, Q => ∃ us, S[h]? = some (.lst us) ∧ -(2 ^ 62) ≤ k ∧ k < 2 ^ 62 ∧ us.length * k.toNat ≤ big ∧ Q (.ref S.length) (S ++ [.lst (List.replicate k.toNat us).flatten])
  | .tup us, .int k, S, Q => us ≠ [] ∧ -(2 ^ 62) ≤ k ∧ k ≤ 1000 ∧ us.length ≤ 1000 ∧ Q (.tup (List.replicate k.toNat us).flatten) S
  | _, _, _, _ => False
def ari (C : Int → Int → Prop) (g : Int → Int → Int) : U → U → Sto → UQ → Prop
  | .int i, .int j, S, Q => C i j ∧ Q (.int (g i j)) S
  | _, _, _, _ => False
def opU : Op → U → U → Sto → UQ → Prop
  | .add => addU
  | .sub => ari (fun _ _ => True) (· - ·)
  | .mul => mulU
  | .fdiv => ari (fun _ j => j ≠ 0 ∧ j.natAbs.log2 < 9000) Int.fdiv
  | .mod => ari (fun _ j => j ≠ 0) Int.fmod
  | .pow => ari L2.CPow fun i j => i ^ j.toNat
  | .shl => ari L2.CPow fun i j => i * 2 ^ j.toNat
def negU : U → Sto → UQ → Prop
  | .int i, S, Q => Q (.int (-i)) S
  | _, _, _ => False
abbrev BQ := Bool → Sto → Prop
def cmI (p : Int → Int → Bool) : U → U → Sto → BQ → Prop
  | .int i, .int j, S, Q => Q (p i j) S
  | _, _, _, _ => False
/-- lists of lists -/
def nestU (S : Sto) : List U → Option (List (List U))
  | [] => some []
  | .ref a :: us => match S[a]? with
    | some o => (nestU S us).map (o.items :: ·)
    | none => none
  | _ :: _ => none
def datss : List (List U) → Bool
  | [] => true
  | u :: us => U.dats 60 u && datss us
def eqvss : List (List U) → List (List U) → Bool
  | [], [] => true
  | u :: us, v :: vs => U.eqvs u v && eqvss us vs
  | _, _ => false
def eqU (n : Bool) : U → U → Sto → BQ → Prop
  | .int i, .int j, S, Q => Q (xor n (decide (i = j))) S
  | .str i, .str j, S, Q => Q (xor n (decide (i = j))) S
  | .ref h, .ref g, S, Q => ∃ o p, S[h]? = some o ∧ S[g]? = some p ∧ ((U.dats 60 o.items = true ∧ U.dats 60 p.items = true ∧ Q (xor n (U.eqvs o.items p.items)) S) ∨ ∃ us vs, nestU S o.items = some us ∧ nestU S p.items = some vs ∧ datss us = true ∧ datss vs = true ∧ Q (xor n (eqvss us vs)) S)
  | x, y, S, Q => U.dat 60 x = true ∧ U.dat 60 y = true ∧ Q (xor n (U.eqv x y)) S
def isN : U → Bool
  | .non => true
  | _ => false
def flatU : U → Bool
  | .non => true
  | .bl _ => true
  | .int _ => true
  | .str _ => true
  | _ => false
def memU (n : Bool) : U → U → Sto → BQ → Prop
  | x, .tup us, S, Q => ((flatU x = true ∧ us.all flatU = true) ∨ (x.dat 60 = true ∧ U.dats 60 us = true)) ∧ Q (xor n (us.any fun y => U.eqv y x)) S
  | x, .ref h, S, Q => ∃ o, S[h]? = some o ∧ ((flatU x = true ∧ o.items.all flatU = true) ∨ (x.dat 60 = true ∧ U.dats 60 o.items = true)) ∧ Q (xor n (o.items.any fun y => U.eqv y x)) S
  | .str x, .str y, S, Q => ∃ c, x = ⟨#[c]⟩ ∧ Q (xor n (decide (c ∈ y.cps.toList))) S
  | _, _, _, _ => False
/-- x is None, b is True (n: is not) -/
def isU (n : Bool) : U → U → Sto → BQ → Prop
  | x, .non, S, Q => Q (xor n (isN x)) S
  | .bl a, .bl b, S, Q => Q (xor n (decide (a = b))) S
  | _, _, _, _ => False
theorem isU_n {b : Bool} {u : U} {S : Sto} {Q : BQ} : isU b u .non S Q = Q (xor b (isN u)) S := by cases u <;> rfl
theorem isU_b {b x y : Bool} {S : Sto} {Q : BQ} : isU b (.bl x) (.bl y) S Q = Q (xor b (decide (x = y))) S := rfl
def cmU : Cm → U → U → Sto → BQ → Prop
  | .lt => cmI fun i j => decide (i < j)
  | .le => cmI fun i j => decide (i ≤ j)
  | .gt => cmI fun i j => decide (j < i)
  | .ge => cmI fun i j => decide (j ≤ i)
  | .eq => eqU false
  | .ne => eqU true
  | .isn => isU false
  | .notn => isU true
  | .mem => memU false
  | .nomem => memU true
def truU : U → Sto → BQ → Prop
  | .non, S, Q => Q false S
  | .bl b, S, Q => Q b S
  | .int i, S, Q => Q (i != 0) S
  | .str x, S, Q => x.length ≤ big ∧ Q ((x.length : Int) != 0) S
  | .tup us, S, Q => Q (!us.isEmpty) S
  | .fz us, S, Q => Q (!us.isEmpty) S
  | .fn _, _, _ => False
  | .obj _ _, _, _ => False
  | .ref h, S, Q => ∃ o, S[h]? = some o ∧ Q (!o.items.isEmpty) S
/-- xs[i], i of any sign -/
def atU (us : List U) (i : Int) : Option U := if 0 ≤ i then us[i.toNat]? else if -(us.length : Int) ≤ i then us[(i + us.length).toNat]? else none
def ixU : U → U → Sto → UQ → Prop
  | .tup us, .int i, S, Q => ∃ u, atU us i = some u ∧ Q u S
  | .fz us, .int i, S, Q => ∃ u, atU us i = some u ∧ Q u S
  | .ref h, .int i, S, Q => ∃ o u, S[h]? = some o ∧ atU o.items i = some u ∧ Q u S
  | .str x, .int i, S, Q => x.length ≤ big ∧ ∃ c, (if 0 ≤ i then x.cps.toList[i.toNat]? else if -(x.cps.toList.length : Int) ≤ i then x.cps.toList[(i + x.cps.toList.length).toNat]? else none) = some c ∧ Q (.str ⟨#[c]⟩) S
  | _, _, _, _ => False
/-- a bound of a slice, by the length -/
def cutB (n d : Nat) : U → Option Nat
  | .non => some d
  | .int i => some (HT.sIx n d (some i))
  | _ => none
def isP : U → Bool
  | .non => true
  | .int _ => true
  | _ => false
def slU : U → U → U → Sto → UQ → Prop
  | .tup us, lo, hi, S, Q => ∃ a b, cutB us.length 0 lo = some a ∧ cutB us.length us.length hi = some b ∧ Q (.tup ((us.drop a).take (b - a))) S
  | .fz us, lo, hi, S, Q => ∃ a b, cutB us.length 0 lo = some a ∧ cutB us.length us.length hi = some b ∧ Q (.ref S.length) (S ++ [.lst ((us.drop a).take (b - a))])
  | .ref h, lo, hi, S, Q => ∃ o a b, S[h]? = some o ∧ cutB o.items.length 0 lo = some a ∧ cutB o.items.length o.items.length hi = some b ∧ Q (.ref S.length) (S ++ [.lst ((o.items.drop a).take (b - a))])
  | _, _, _, _, _ => False
def revU : U → Sto → UQ → Prop
  | .tup us, S, Q => Q (.tup us.reverse) S
  | .ref h, S, Q => ∃ o, S[h]? = some o ∧ Q (.ref S.length) (S ++ [.lst o.items.reverse])
  | _, _, _ => False
def isT : Ty → U → Sto → Option Bool
  | .int, .int _, _ => some true
  | .int, .bl _, _ => some true
  | .int, .fz _, _ => none
  | .int, .fn _, _ => none
  | .int, .obj _ _, _ => none
  | .int, _, _ => some false
  | .bool, .bl _, _ => some true
  | .bool, .fz _, _ => none
  | .bool, .fn _, _ => none
  | .bool, .obj _ _, _ => none
  | .bool, _, _ => some false
  | .str, .str _, _ => some true
  | .str, .fz _, _ => none
  | .str, .fn _, _ => none
  | .str, .obj _ _, _ => none
  | .str, _, _ => some false
  | .tuple, .tup _, _ => some true
  | .tuple, .fz _, _ => none
  | .tuple, .fn _, _ => none
  | .tuple, .obj _ _, _ => none
  | .tuple, _, _ => some false
  | .list, .ref _, _ => some true
  | .list, .fz _, _ => none
  | .list, .fn _, _ => none
  | .list, .obj _ _, _ => none
  | .list, _, _ => some false
def lenU : U → Sto → Option Nat
  | .tup us, _ => some us.length
  | .fz us, _ => some us.length
  | .ref h, S => S[h]?.map (·.items.length)
  | .str x, _ => if x.length ≤ big then some x.length else none
  | _, _ => none
def itemsU : U → Sto → Option (List U)
  | .tup us, _ => some us
  | .fz us, _ => some us
  | .ref h, S => S[h]?.map (·.items)
  | _, _ => none
def blsU : List U → Option (List Bool)
  | [] => some []
  | .bl b :: us => (blsU us).map (b :: ·)
  | _ => none
def intsU : List U → Option (List Int)
  | [] => some []
  | .int b :: us => (intsU us).map (b :: ·)
  | _ => none
def biU : Bi → List U → Sto → UQ → Prop
  | .abs, [.int i], S, Q => Q (.int (if i < 0 then -i else i)) S
  | .len, [x], S, Q => ∃ n, lenU x S = some n ∧ Q (.int n) S
  | .min2, [.int i, .int j], S, Q => Q (.int (if j < i then j else i)) S
  | .max2, [.int i, .int j], S, Q => Q (.int (if j > i then j else i)) S
  | .int1, [.int i], S, Q => Q (.int i) S
  | .int1, [.bl b], S, Q => Q (.int (if b then 1 else 0)) S
  | .tup1, [x], S, Q => ∃ us, itemsU x S = some us ∧ Q (.tup us) S
  | .lst1, [x], S, Q => ∃ us, itemsU x S = some us ∧ Q (.ref S.length) (S ++ [.lst us])
  | .all, [.ref h], S, Q => ∃ o bs, S[h]? = some o ∧ blsU o.items = some bs ∧ Q (.bl (bs.all id)) S
  | .any, [.ref h], S, Q => ∃ o bs, S[h]? = some o ∧ blsU o.items = some bs ∧ Q (.bl (bs.any id)) S
  | .any, [.tup us], S, Q => ∃ ns, intsU us = some ns ∧ Q (.bl (ns.any fun i => !decide (i = 0))) S
  | .sum, [.ref h], S, Q => ∃ o ns, S[h]? = some o ∧ intsU o.items = some ns ∧ Q (.int ns.sum) S
  | .isi t, [x], S, Q => ∃ b, isT t x S = some b ∧ Q (.bl b) S
  | .bits, [.int i], S, Q => Q (.int (PySem.Builtin.Int.intBits i : Nat)) S
  | .lrange, [.int j], S, Q => -(2 ^ 61) ≤ j ∧ j ≤ 1000000 ∧ Q (.ref S.length) (S ++ [.lst ((List.range j.toNat).map fun i => U.int ((i : Nat) : Int))])
  | .max1, [.ref h], S, Q => ∃ o ns, S[h]? = some o ∧ intsU o.items = some ns ∧ 0 < ns.length ∧ ∀ m, m ∈ ns → (∀ y, y ∈ ns → y ≤ m) → Q (.int m) S
  | .min1, [.ref h], S, Q => ∃ o ns, S[h]? = some o ∧ intsU o.items = some ns ∧ 0 < ns.length ∧ ∀ m, m ∈ ns → (∀ y, y ∈ ns → m ≤ y) → Q (.int m) S
  | .sort1, [x], S, Q => ∃ us ns, itemsU x S = some us ∧ intsU us = some ns ∧ ns.length < 64 ∧ ∀ ns' : List Int, ns'.Perm ns → ns'.Pairwise (· ≤ ·) → Q (.ref S.length) (S ++ [.lst (ns'.map U.int)])
  | _, _, _, _ => False

def idxU : U → U → Sto → UQ → Prop
  | .ref h, .int k, S, Q => ∃ o ns j, S[h]? = some o ∧ intsU o.items = some ns ∧ ns[j]? = some k ∧ (∀ m, m < j → ns[m]? ≠ some k) ∧ Q (.int ((j : Nat) : Int)) S
  | _, _, _, _ => False

def fldU (c : Cl) (i : Nat) : U → Sto → UQ → Prop
  | .obj c' h, S, Q => c' = c ∧ ∃ us u, S[h]? = some (.lst us) ∧ us[i]? = some u ∧ Q u S
  | _, _, _ => False
/-- a field gets a value: one that is there, or the next one -/
def fsetU (c : Cl) (i : Nat) : U → U → Sto → (Sto → Prop) → Prop
  | .obj c' h, u, S, R => c' = c ∧ i < c.fs.length ∧ ∃ us, S[h]? = some (.lst us) ∧ i ≤ us.length ∧ R (S.set h (.lst (us.take i ++ u :: us.drop (i + 1))))
  | _, _, _, _ => False

def enumU : Nat → List U → List U
  | _, [] => []
  | n, u :: us => .tup [.int n, u] :: enumU (n + 1) us
def rangeU (lo : Int) (c : Int) : Nat → List U
  | 0 => []
  | n + 1 => .int lo :: rangeU (lo + c) c n
def live : Option Nat → Sto → List U → Prop
  | none, _, _ => True
  | some h, S, us => ∃ o, S[h]? = some o ∧ o.items = us
def near (i : Int) : Prop := -(2 ^ 61) ≤ i ∧ i < 2 ^ 61
/-- k: 0 a value, 1 range, 2 enumerate; the items; the list that is read (by its handle and items) -/
def srcU : Nat → List U → Sto → (List U → Option Nat → List U → Prop) → Prop
  | 0, [.tup us], _, R => R us none []
  | 0, [.fz us], _, R => R us none []
  | 0, [.ref h], S, R => ∃ o, S[h]? = some o ∧ R o.items (some h) o.items
  | 1, [.int j], _, R => near j ∧ R (rangeU 0 1 j.toNat) none []
  | 1, [.int i, .int j], _, R => near i ∧ near j ∧ R (rangeU i 1 (j - i).toNat) none []
  | 1, [.int i, .int j, .int c], _, R => c = -1 ∧ near i ∧ near j ∧ R (rangeU i (-1) (i - j).toNat) none []
  | 2, [.tup us], _, R => R (enumU 0 us) none []
  | 2, [.ref h], S, R => ∃ o, S[h]? = some o ∧ R (enumU 0 o.items) (some h) o.items
  | _, _, _, _ => False

abbrev CallS := Nat → List U → Sto → UQ → (Nat → Sto → Prop) → Prop
def wipeU (σ : Sl) : List Nat → Sl
  | [] => σ
  | v :: vs => (wipeU σ vs).set v none
/-- behind an exception out of a comprehension's element no slot is known -/
def nnS (σ : Sl) : Sl := σ.map fun _ => none
def exB (ex : XQ) : XQ := fun c σ S => ex c (nnS σ) S
/-- a comprehension's targets: one name, or several -/
def bindU (ts : List Nat) (tp : Bool) (u : U) (σ : Sl) (R : Sl → Prop) : Prop :=
  if tp = true then ∃ us, u = .tup us ∧ us.length = ts.length ∧ R ((ts.zip us).foldl (fun s p => s.set p.1 (some p.2)) σ)
  else match ts with
    | [i] => R (σ.set i (some u))
    | _ => False
def compU (B : U → Sl → (Sl → Prop) → Prop) (T : Sl → Sto → BQ → Prop) (E : Sl → Sto → UQ → Prop) (σ : Sl) (lv : Option Nat) (its : List U) (Q : UQ) : List U → List U → Sto → Prop
  | [], acc, S => live lv S its ∧ Q (.ref S.length) (S ++ [.lst acc])
  | x :: xs, acc, S => live lv S its ∧ acc.length < big ∧ B x σ fun σ2 => T σ2 S fun b S2 => if b = true then E σ2 S2 fun y S3 => compU B T E σ lv its Q xs (acc ++ [y]) S3 else compU B T E σ lv its Q xs acc S2
mutual
def wpE (C : CallS) (ex : XQ) : Ex → Sl → Sto → UQ → Prop
  | .var i, σ, S, Q => ∃ u, σ[i]? = some (some u) ∧ Q u S
  | .cint i, _, S, Q => Q (.int i) S
  | .cstr x, _, S, Q => Q (.str x) S
  | .cbl b, _, S, Q => Q (.bl b) S
  | .cnon, _, S, Q => Q .non S
  | .ctup xs, _, S, Q => Q (.tup (xs.map U.str)) S
  | .op o a b, σ, S, Q => wpE C ex a σ S fun x S1 => wpE C ex b σ S1 fun y S2 => opU o x y S2 Q
  | .neg a, σ, S, Q => wpE C ex a σ S fun x S1 => negU x S1 Q
  | .cmp c a b, σ, S, Q => wpE C ex a σ S fun x S1 => wpE C ex b σ S1 fun y S2 => cmU c x y S2 fun k S3 => Q (.bl k) S3
  | .chn c c' a b d, σ, S, Q => wpE C ex a σ S fun x S1 => wpE C ex b σ S1 fun y S2 => cmU c x y S2 fun k S3 => if k = true then wpE C ex d σ S3 fun z S4 => cmU c' y z S4 fun k' S5 => Q (.bl k') S5 else Q (.bl false) S3
  | .and a b, σ, S, Q => wpE C ex a σ S fun x S1 => ∃ k, x = .bl k ∧ if k = true then wpE C ex b σ S1 Q else Q (.bl false) S1
  | .or a b, σ, S, Q => wpE C ex a σ S fun x S1 => ∃ k, x = .bl k ∧ if k = true then Q (.bl true) S1 else wpE C ex b σ S1 Q
  | .not a, σ, S, Q => wpE C ex a σ S fun x S1 => truU x S1 fun k S2 => Q (.bl (!k)) S2
  | .ife t a b, σ, S, Q => wpT C ex t σ S fun k S1 => if k = true then wpE C ex a σ S1 Q else wpE C ex b σ S1 Q
  | .tup es, σ, S, Q => wpEs C ex es σ S fun us S1 => Q (.tup us) S1
  | .lst es, σ, S, Q => wpEs C ex es σ S fun us S1 => Q (.ref S1.length) (S1 ++ [.lst us])
  | .ix a i, σ, S, Q => wpE C ex a σ S fun x S1 => wpE C ex i σ S1 fun y S2 => ixU x y S2 Q
  | .sl a lo hi, σ, S, Q => wpE C ex a σ S fun x S1 => wpE C ex lo σ S1 fun l S2 => isP l = true ∧ wpE C ex hi σ S2 fun h S3 => isP h = true ∧ slU x l h S3 Q
  | .rev a, σ, S, Q => wpE C ex a σ S fun x S1 => revU x S1 Q
  | .idx a b, σ, S, Q => wpE C ex a σ S fun x S1 => (∃ h, x = .ref h) ∧ wpE C ex b σ S1 fun y S2 => idxU x y S2 Q
  | .call f es, σ, S, Q => wpEs C ex es σ S fun us S1 => C f us S1 Q fun c S2 => ex c σ S2
  | .cfn x, _, S, Q => Q (.fn x) S
  | .callv i F es, σ, S, Q => ∃ x f, σ[i]? = some (some (.fn x)) ∧ F[f]? = some x ∧ wpEs C ex es σ S fun us S1 => C f us S1 Q fun c S2 => ex c σ S2
  | .fld a c i, σ, S, Q => wpE C ex a σ S fun x S1 => fldU c i x S1 Q
  | .make c f es, σ, S, Q => wpEs C ex es σ S fun us S1 => C f (.obj c S1.length :: us) (S1 ++ [.lst []]) (fun u S2 => u = .non ∧ Q (.obj c S1.length) S2) fun c S2 => ex c σ S2
  | .meth a c f es, σ, S, Q => wpE C ex a σ S fun x S1 => (∃ h, x = .obj c h) ∧ wpEs C ex es σ S1 fun us S2 => C f (x :: us) S2 Q fun c S3 => ex c σ S3
  | .bi b es, σ, S, Q => wpEs C ex es σ S fun us S1 => biU b us S1 Q
  | .comp own ts tp k es tests elt, σ, S, Q => wpEs C ex es σ S fun us S1 => srcU k us S1 fun its lv li =>
      compU (bindU ts tp) (wpTs C tests) (wpE C (exB ex) elt) (wipeU σ own) lv li Q its [] S1
def wpT (C : CallS) (ex : XQ) : Ex → Sl → Sto → BQ → Prop
  | .and a b, σ, S, Q => wpT C ex a σ S fun k S1 => if k = true then wpT C ex b σ S1 Q else Q false S1
  | .or a b, σ, S, Q => wpT C ex a σ S fun k S1 => if k = true then Q true S1 else wpT C ex b σ S1 Q
  | .not a, σ, S, Q => wpT C ex a σ S fun k S1 => Q (!k) S1
  | .ife t a b, σ, S, Q => wpT C ex t σ S fun k S1 => if k = true then wpT C ex a σ S1 Q else wpT C ex b σ S1 Q
  | e, σ, S, Q => wpE C ex e σ S fun x S1 => truU x S1 Q
def wpEs (C : CallS) (ex : XQ) : List Ex → Sl → Sto → (List U → Sto → Prop) → Prop
  | [], _, S, Q => Q [] S
  | e :: es, σ, S, Q => wpE C ex e σ S fun u S1 => wpEs C ex es σ S1 fun us S2 => Q (u :: us) S2
def wpTs (C : CallS) : List Ex → Sl → Sto → BQ → Prop
  | [], _, S, Q => Q true S
  | e :: _, σ, S, Q => wpT C (fun _ _ _ => False) e σ S Q
end
section
variable {C : CallS} {ex : XQ}
theorem wpE_var {i : Nat} : wpE C ex (.var i) = fun σ S Q => ∃ u, σ[i]? = some (some u) ∧ Q u S := by
  funext σ S Q; simp only [wpE]
theorem wpE_cint {i : Int} : wpE C ex (.cint i) = fun x0 S Q => Q (.int i) S := by
  funext x0 S Q; simp only [wpE]
theorem wpE_cstr {x : Str} : wpE C ex (.cstr x) = fun x0 S Q => Q (.str x) S := by
  funext x0 S Q; simp only [wpE]
theorem wpE_cbl {b : Bool} : wpE C ex (.cbl b) = fun x0 S Q => Q (.bl b) S := by
  funext x0 S Q; simp only [wpE]
theorem wpE_cnon  : wpE C ex (.cnon) = fun x0 S Q => Q .non S := by
  funext x0 S Q; simp only [wpE]
theorem wpE_op {o : Op} {a b : Ex} : wpE C ex (.op o a b) = fun σ S Q => wpE C ex a σ S fun x S1 => wpE C ex b σ S1 fun y S2 => opU o x y S2 Q := by
  funext σ S Q; simp only [wpE]
theorem wpE_neg {a : Ex} : wpE C ex (.neg a) = fun σ S Q => wpE C ex a σ S fun x S1 => negU x S1 Q := by
  funext σ S Q; simp only [wpE]
theorem wpE_cmp {c : Cm} {a b : Ex} : wpE C ex (.cmp c a b) = fun σ S Q => wpE C ex a σ S fun x S1 => wpE C ex b σ S1 fun y S2 => cmU c x y S2 fun k S3 => Q (.bl k) S3 := by
  funext σ S Q; simp only [wpE]
theorem wpE_chn {c c' : Cm} {a b d : Ex} : wpE C ex (.chn c c' a b d) = fun σ S Q => wpE C ex a σ S fun x S1 => wpE C ex b σ S1 fun y S2 => cmU c x y S2 fun k S3 => if k = true then wpE C ex d σ S3 fun z S4 => cmU c' y z S4 fun k' S5 => Q (.bl k') S5 else Q (.bl false) S3 := by
  funext σ S Q; simp only [wpE]
theorem wpE_and {a b : Ex} : wpE C ex (.and a b) = fun σ S Q => wpE C ex a σ S fun x S1 => ∃ k, x = .bl k ∧ if k = true then wpE C ex b σ S1 Q else Q (.bl false) S1 := by
  funext σ S Q; simp only [wpE]
theorem wpE_or {a b : Ex} : wpE C ex (.or a b) = fun σ S Q => wpE C ex a σ S fun x S1 => ∃ k, x = .bl k ∧ if k = true then Q (.bl true) S1 else wpE C ex b σ S1 Q := by
  funext σ S Q; simp only [wpE]
theorem wpE_not {a : Ex} : wpE C ex (.not a) = fun σ S Q => wpE C ex a σ S fun x S1 => truU x S1 fun k S2 => Q (.bl (!k)) S2 := by
  funext σ S Q; simp only [wpE]
theorem wpE_ife {t a b : Ex} : wpE C ex (.ife t a b) = fun σ S Q => wpT C ex t σ S fun k S1 => if k = true then wpE C ex a σ S1 Q else wpE C ex b σ S1 Q := by
  funext σ S Q; simp only [wpE]
theorem wpE_tup {es : List Ex} : wpE C ex (.tup es) = fun σ S Q => wpEs C ex es σ S fun us S1 => Q (.tup us) S1 := by
  funext σ S Q; simp only [wpE]
theorem wpE_lst {es : List Ex} : wpE C ex (.lst es) = fun σ S Q => wpEs C ex es σ S fun us S1 => Q (.ref S1.length) (S1 ++ [.lst us]) := by
  funext σ S Q; simp only [wpE]
theorem wpE_ix {a i : Ex} : wpE C ex (.ix a i) = fun σ S Q => wpE C ex a σ S fun x S1 => wpE C ex i σ S1 fun y S2 => ixU x y S2 Q := by
  funext σ S Q; simp only [wpE]
theorem wpE_sl {a lo hi : Ex} : wpE C ex (.sl a lo hi) = fun σ S Q => wpE C ex a σ S fun x S1 => wpE C ex lo σ S1 fun l S2 => isP l = true ∧ wpE C ex hi σ S2 fun h S3 => isP h = true ∧ slU x l h S3 Q := by
  funext σ S Q; simp only [wpE]
theorem wpE_ctup {xs : List Str} : wpE C ex (.ctup xs) = fun x0 S Q => Q (.tup (xs.map U.str)) S := by
  funext x0 S Q; simp only [wpE]
theorem wpE_idx {a b : Ex} : wpE C ex (.idx a b) = fun σ S Q => wpE C ex a σ S fun x S1 => (∃ h, x = .ref h) ∧ wpE C ex b σ S1 fun y S2 => idxU x y S2 Q := by
  funext σ S Q; simp only [wpE]
theorem wpE_rev {a : Ex} : wpE C ex (.rev a) = fun σ S Q => wpE C ex a σ S fun x S1 => revU x S1 Q := by
  funext σ S Q; simp only [wpE]
theorem wpE_call {f : Nat} {es : List Ex} : wpE C ex (.call f es) = fun σ S Q => wpEs C ex es σ S fun us S1 => C f us S1 Q fun c S2 => ex c σ S2 := by
  funext σ S Q; simp only [wpE]
theorem wpE_cfn {x : Str} : wpE C ex (.cfn x) = fun x0 S Q => Q (.fn x) S := by
  funext x0 S Q; simp only [wpE]
theorem wpE_callv {i : Nat} {F : List Str} {es : List Ex} : wpE C ex (.callv i F es) = fun σ S Q => ∃ x f, σ[i]? = some (some (.fn x)) ∧ F[f]? = some x ∧ wpEs C ex es σ S fun us S1 => C f us S1 Q fun c S2 => ex c σ S2 := by
  funext σ S Q; simp only [wpE]
theorem wpE_fld {a : Ex} {c : Cl} {i : Nat} : wpE C ex (.fld a c i) = fun σ S Q => wpE C ex a σ S fun x S1 => fldU c i x S1 Q := by
  funext σ S Q; simp only [wpE]
theorem wpE_make {c : Cl} {f : Nat} {es : List Ex} : wpE C ex (.make c f es) = fun σ S Q => wpEs C ex es σ S fun us S1 => C f (.obj c S1.length :: us) (S1 ++ [.lst []]) (fun u S2 => u = .non ∧ Q (.obj c S1.length) S2) fun c S2 => ex c σ S2 := by
  funext σ S Q; simp only [wpE]
theorem wpE_meth {a : Ex} {c : Cl} {f : Nat} {es : List Ex} : wpE C ex (.meth a c f es) = fun σ S Q => wpE C ex a σ S fun x S1 => (∃ h, x = .obj c h) ∧ wpEs C ex es σ S1 fun us S2 => C f (x :: us) S2 Q fun c S3 => ex c σ S3 := by
  funext σ S Q; simp only [wpE]
theorem wpE_bi {b : Bi} {es : List Ex} : wpE C ex (.bi b es) = fun σ S Q => wpEs C ex es σ S fun us S1 => biU b us S1 Q := by
  funext σ S Q; simp only [wpE]
theorem wpE_comp {own ts : List Nat} {tp : Bool} {k : Nat} {es tests : List Ex} {elt : Ex} : wpE C ex (.comp own ts tp k es tests elt) = fun σ S Q => wpEs C ex es σ S fun us S1 => srcU k us S1 fun its lv li =>
      compU (bindU ts tp) (wpTs C tests) (wpE C (exB ex) elt) (wipeU σ own) lv li Q its [] S1 := by
  funext σ S Q; simp only [wpE]
theorem wpT_and {a b : Ex} : wpT C ex (.and a b) = fun σ S Q => wpT C ex a σ S fun k S1 => if k = true then wpT C ex b σ S1 Q else Q false S1 := by
  funext σ S Q; simp only [wpT]
theorem wpT_or {a b : Ex} : wpT C ex (.or a b) = fun σ S Q => wpT C ex a σ S fun k S1 => if k = true then Q true S1 else wpT C ex b σ S1 Q := by
  funext σ S Q; simp only [wpT]
theorem wpT_not {a : Ex} : wpT C ex (.not a) = fun σ S Q => wpT C ex a σ S fun k S1 => Q (!k) S1 := by
  funext σ S Q; simp only [wpT]
theorem wpT_var {i : Nat} : wpT C ex (.var i) = fun σ S Q => wpE C ex (.var i) σ S fun x S1 => truU x S1 Q := by
  funext σ S Q; simp only [wpT]
theorem wpT_cint {i : Int} : wpT C ex (.cint i) = fun σ S Q => wpE C ex (.cint i) σ S fun x S1 => truU x S1 Q := by
  funext σ S Q; simp only [wpT]
theorem wpT_cstr {x : Str} : wpT C ex (.cstr x) = fun σ S Q => wpE C ex (.cstr x) σ S fun x S1 => truU x S1 Q := by
  funext σ S Q; simp only [wpT]
theorem wpT_cbl {b : Bool} : wpT C ex (.cbl b) = fun σ S Q => wpE C ex (.cbl b) σ S fun x S1 => truU x S1 Q := by
  funext σ S Q; simp only [wpT]
theorem wpT_cnon  : wpT C ex (.cnon) = fun σ S Q => wpE C ex (.cnon) σ S fun x S1 => truU x S1 Q := by
  funext σ S Q; simp only [wpT]
theorem wpT_op {o : Op} {a b : Ex} : wpT C ex (.op o a b) = fun σ S Q => wpE C ex (.op o a b) σ S fun x S1 => truU x S1 Q := by
  funext σ S Q; simp only [wpT]
theorem wpT_neg {a : Ex} : wpT C ex (.neg a) = fun σ S Q => wpE C ex (.neg a) σ S fun x S1 => truU x S1 Q := by
  funext σ S Q; simp only [wpT]
theorem wpT_cmp {c : Cm} {a b : Ex} : wpT C ex (.cmp c a b) = fun σ S Q => wpE C ex (.cmp c a b) σ S fun x S1 => truU x S1 Q := by
  funext σ S Q; simp only [wpT]
theorem wpT_chn {c c' : Cm} {a b d : Ex} : wpT C ex (.chn c c' a b d) = fun σ S Q => wpE C ex (.chn c c' a b d) σ S fun x S1 => truU x S1 Q := by
  funext σ S Q; simp only [wpT]
theorem wpT_ife {t a b : Ex} : wpT C ex (.ife t a b) = fun σ S Q => wpT C ex t σ S fun k S1 => if k = true then wpT C ex a σ S1 Q else wpT C ex b σ S1 Q := by
  funext σ S Q; simp only [wpT]
theorem wpT_tup {es : List Ex} : wpT C ex (.tup es) = fun σ S Q => wpE C ex (.tup es) σ S fun x S1 => truU x S1 Q := by
  funext σ S Q; simp only [wpT]
theorem wpT_lst {es : List Ex} : wpT C ex (.lst es) = fun σ S Q => wpE C ex (.lst es) σ S fun x S1 => truU x S1 Q := by
  funext σ S Q; simp only [wpT]
theorem wpT_ix {a i : Ex} : wpT C ex (.ix a i) = fun σ S Q => wpE C ex (.ix a i) σ S fun x S1 => truU x S1 Q := by
  funext σ S Q; simp only [wpT]
theorem wpT_sl {a lo hi : Ex} : wpT C ex (.sl a lo hi) = fun σ S Q => wpE C ex (.sl a lo hi) σ S fun x S1 => truU x S1 Q := by
  funext σ S Q; simp only [wpT]
theorem wpT_ctup {xs : List Str} : wpT C ex (.ctup xs) = fun σ S Q => wpE C ex (.ctup xs) σ S fun x S1 => truU x S1 Q := by
  funext σ S Q; simp only [wpT]
theorem wpT_idx {a b : Ex} : wpT C ex (.idx a b) = fun σ S Q => wpE C ex (.idx a b) σ S fun x S1 => truU x S1 Q := by
  funext σ S Q; simp only [wpT]
theorem wpT_rev {a : Ex} : wpT C ex (.rev a) = fun σ S Q => wpE C ex (.rev a) σ S fun x S1 => truU x S1 Q := by
  funext σ S Q; simp only [wpT]
theorem wpT_call {f : Nat} {es : List Ex} : wpT C ex (.call f es) = fun σ S Q => wpE C ex (.call f es) σ S fun x S1 => truU x S1 Q := by
  funext σ S Q; simp only [wpT]
theorem wpT_cfn {x : Str} : wpT C ex (.cfn x) = fun σ S Q => wpE C ex (.cfn x) σ S fun x S1 => truU x S1 Q := by
  funext σ S Q; simp only [wpT]
theorem wpT_callv {i : Nat} {F : List Str} {es : List Ex} : wpT C ex (.callv i F es) = fun σ S Q => wpE C ex (.callv i F es) σ S fun x S1 => truU x S1 Q := by
  funext σ S Q; simp only [wpT]
theorem wpT_fld {a : Ex} {c : Cl} {i : Nat} : wpT C ex (.fld a c i) = fun σ S Q => wpE C ex (.fld a c i) σ S fun x S1 => truU x S1 Q := by
  funext σ S Q; simp only [wpT]
theorem wpT_make {c : Cl} {f : Nat} {es : List Ex} : wpT C ex (.make c f es) = fun σ S Q => wpE C ex (.make c f es) σ S fun x S1 => truU x S1 Q := by
  funext σ S Q; simp only [wpT]
theorem wpT_meth {a : Ex} {c : Cl} {f : Nat} {es : List Ex} : wpT C ex (.meth a c f es) = fun σ S Q => wpE C ex (.meth a c f es) σ S fun x S1 => truU x S1 Q := by
  funext σ S Q; simp only [wpT]
theorem wpT_bi {b : Bi} {es : List Ex} : wpT C ex (.bi b es) = fun σ S Q => wpE C ex (.bi b es) σ S fun x S1 => truU x S1 Q := by
  funext σ S Q; simp only [wpT]
theorem wpT_comp {own ts : List Nat} {tp : Bool} {k : Nat} {es tests : List Ex} {elt : Ex} : wpT C ex (.comp own ts tp k es tests elt) = fun σ S Q => wpE C ex (.comp own ts tp k es tests elt) σ S fun x S1 => truU x S1 Q := by
  funext σ S Q; simp only [wpT]
theorem wpEs_nil  : wpEs C ex [] = fun x0 S Q => Q [] S := by
  funext x0 S Q; simp only [wpEs]
theorem wpEs_cons {e : Ex} {es : List Ex} : wpEs C ex (e :: es) = fun σ S Q => wpE C ex e σ S fun u S1 => wpEs C ex es σ S1 fun us S2 => Q (u :: us) S2 := by
  funext σ S Q; simp only [wpEs]
theorem wpTs_nil  : wpTs C [] = fun x0 S Q => Q true S := by
  funext x0 S Q; simp only [wpTs]
theorem wpTs_cons {e : Ex} {r : List Ex} : wpTs C (e :: r) = fun σ S Q => wpT C (fun _ _ _ => False) e σ S Q := by
  funext σ S Q; simp only [wpTs]
end

structure EndU where
  nx : Sl → Sto → Prop
  rt : UQ
  bk : Sl → Sto → Prop := fun _ _ => False
  ct : Sl → Sto → Prop := fun _ _ => False
def setU : U → U → U → Sto → (Sto → Prop) → Prop
  | .ref h, .int k, v, S, R => ∃ us j, S[h]? = some (.lst us) ∧ L2.ixN us.length k = some j ∧ R (S.set h (.lst (us.set j v)))
  | _, _, _, _, _ => False
def appU : U → U → Sto → (Sto → Prop) → Prop
  | .ref h, y, S, R => ∃ us, S[h]? = some (.lst us) ∧ us.length < big ∧ R (S.set h (.lst (us ++ [y])))
  | _, _, _, _ => False
def augU : Op → U → U → Sto → UQ → Prop
  | .add, .int i, .int j, S, Q => Q (.int (i + j)) S
  | .sub, .int i, .int j, S, Q => Q (.int (i - j)) S
  | _, _, _, _, _ => False
mutual
def asg (C : CallS) (ex : XQ) : Tg → U → Sl → Sto → (Sl → Sto → Prop) → Prop
  | .var i, u, σ, S, R => R (σ.set i (some u)) S
  | .tup ts, u, σ, S, R => ∃ us, u = .tup us ∧ us.length = ts.length ∧ asgs C ex ts us σ S R
  | .sub o i, u, σ, S, R => wpE C ex o σ S fun x S1 => wpE C ex i σ S1 fun y S2 => setU x y u S2 fun S3 => R σ S3
def asgs (C : CallS) (ex : XQ) : List Tg → List U → Sl → Sto → (Sl → Sto → Prop) → Prop
  | [], us, σ, S, R => us = [] ∧ R σ S
  | t :: ts, us, σ, S, R => ∃ u r, us = u :: r ∧ asg C ex t u σ S fun σ1 S1 => asgs C ex ts r σ1 S1 R
end
def whU (T : Sl → Sto → BQ → Prop) (B : EndU → Sl → Sto → Prop) (D : EndU) : Nat → Sl → Sto → Prop
  | 0, _, _ => False
  | n + 1, σ, S => T σ S fun k S1 => if k = true then B { D with nx := whU T B D n, ct := whU T B D n, bk := D.nx } σ S1 else D.nx σ S1
def forU (A : U → Sl → Sto → (Sl → Sto → Prop) → Prop) (B : EndU → Sl → Sto → Prop) (D : EndU) (lv : Option Nat) (li : List U) : List U → Sl → Sto → Prop
  | [], σ, S => live lv S li ∧ D.nx σ S
  | x :: xs, σ, S => live lv S li ∧ A x σ S fun σ1 S1 => B { D with nx := forU A B D lv li xs, ct := forU A B D lv li xs, bk := D.nx } σ1 S1
/-- what becomes of an exception at a try: its clause's result, continue, or it passes on -/
def wpH (C : CallS) (ex : XQ) : Option (Option Ex) → Nat → EndU → Sl → Sto → Prop
  | some (some e), _, D, σ, S => wpE C ex e σ S D.rt
  | some none, _, D, σ, S => D.ct σ S
  | none, c, _, σ, S => ex c σ S
mutual
def wpS (C : CallS) (ex : XQ) : Sm → EndU → Sl → Sto → Prop
  | .set t e, D, σ, S => wpE C ex e σ S fun u S1 => asg C ex t u σ S1 D.nx
  | .par2 i j a b, D, σ, S => wpE C ex a σ S fun u S1 => wpE C ex b σ S1 fun v S2 => D.nx ((σ.set i (some u)).set j (some v)) S2
  | .par3 i j k a b c, D, σ, S => wpE C ex a σ S fun u S1 => wpE C ex b σ S1 fun v S2 => wpE C ex c σ S2 fun w S3 => D.nx (((σ.set i (some u)).set j (some v)).set k (some w)) S3
  | .aug i o e, D, σ, S => ∃ x, σ[i]? = some (some x) ∧ wpE C ex e σ S fun y S1 => augU o x y S1 fun z S2 => D.nx (σ.set i (some z)) S2
  | .ifs c a b, D, σ, S => wpT C ex c σ S fun k S1 => if k = true then wpB C ex a D σ S1 else wpB C ex b D σ S1
  | .whl c b, D, σ, S => ∃ n, whU (wpT C ex c) (wpB C ex b) D n σ S
  | .for_ t k es b, D, σ, S => wpEs C ex es σ S fun us S1 => srcU k us S1 fun its lv li => forU (asg C ex t) (wpB C ex b) D lv li its σ S1
  | .fset o c i e, D, σ, S => wpE C ex e σ S fun u S1 => wpE C ex o σ S1 fun x S2 => fsetU c i x u S2 fun S3 => D.nx σ S3
  | .faug o c i p e, D, σ, S => wpE C ex o σ S fun x S1 => fldU c i x S1 fun y S2 => wpE C ex e σ S2 fun z S3 => augU p y z S3 fun w S4 => fsetU c i x w S4 fun S5 => D.nx σ S5
  | .ret e, D, σ, S => wpE C ex e σ S D.rt
  | .retn, D, _, S => D.rt .non S
  | .exp e, D, σ, S => wpE C ex e σ S fun _ S1 => D.nx σ S1
  | .app o e, D, σ, S => wpE C ex o σ S fun x S1 => (∃ h, x = .ref h) ∧ wpE C ex e σ S1 fun y S2 => appU x y S2 fun S3 => D.nx σ S3
  | .pass, D, σ, S => D.nx σ S
  | .brk, D, σ, S => D.bk σ S
  | .cnt, D, σ, S => D.ct σ S
  | .raise c, _, σ, S => ex c σ S
  | .no, _, _, _ => False
  | .try_ n b tb, D, σ, S => wpB C (fun c σ1 S1 => c < n ∧ wpH C ex (tb.lookup c) c D σ1 S1) b D σ S
def wpB (C : CallS) (ex : XQ) : List Sm → EndU → Sl → Sto → Prop
  | [], D, σ, S => D.nx σ S
  | s :: r, D, σ, S => wpS C ex s { D with nx := wpB C ex r D } σ S
end
/-- what a call hands back: lists made in it may be forgotten -/
def fin (S0 : Sto) (Q : UQ) (u : U) (S : Sto) : Prop :=
  Q u S ∨ ∃ n, S0.length ≤ n ∧ n ≤ S.length ∧ u.bnd n = true ∧ (∀ i o, i < n → S[i]? = some o → S0[i]? = some o ∨ o.bnd n = true) ∧ Q u (S.take n)
/-- an __init__ takes a level more -/
def wpC (G : List Df) : Nat → CallS
  | 0, _, _, _, _, _ => False
  | 1, f, us, S, Q, E => ∃ d, G[f]? = some d ∧ us.length = d.ps.length ∧ d.ini = false ∧
      wpB (wpC G 0) (fun c _ S' => E c S') d.body { nx := fun _ S' => fin S Q .non S', rt := fin S Q } (us.map some ++ List.replicate (d.N.length - us.length) none) S
  | k + 2, f, us, S, Q, E => ∃ d, G[f]? = some d ∧ us.length = d.ps.length ∧
      wpB (if d.ini = true then wpC G k else wpC G (k + 1)) (fun c _ S' => E c S') d.body { nx := fun _ S' => fin S Q .non S', rt := fin S Q } (us.map some ++ List.replicate (d.N.length - us.length) none) S
end Ek

namespace Ek
open PySem PySem.Spec PyProof.Rows L2

def Fz (K : PySem.W.Frag) (H : Hp) (a : Addr) (vs : List V) : Prop := (∃ o, H a = some (.frz o (.lst vs))) ∨
  ∃ (o : Obj) (its : Array Value) (n : Nat), K.lookup a = some o ∧ o.cls = .type "list" ∧ o.dict = none ∧ o.data = .seq its n ∧ its.size ≤ sizeLine ∧ Vals vs its.toList
theorem Fz.sql {K : PySem.W.Frag} {H : Hp} {a : Addr} {vs : List V} (h : Fz K H a vs) : SqL K H a vs := by
  rcases h with h | h
  · exact .inl (.inr h)
  · exact .inr h

/-- where a list or an object lies; an object's class -/
abbrev Pl := Addr × Option Cl
abbrev Ad (φ : List Pl) : List Addr := φ.map (·.1)
/-- a def of the module, by its name -/
def FnAt (K : PySem.W.Frag) (x : Str) (a : Addr) : Prop := PySem.W.nsIn K mainGlobals x = some (some (.ref a))
mutual
inductive Rep (K : PySem.W.Frag) (H : Hp) (φ : List Pl) : U → V → Prop
  | non : Rep K H φ .non .non
  | bl (b : Bool) : Rep K H φ (.bl b) (.bl b)
  | int (i : Int) : Rep K H φ (.int i) (.int i)
  | str (x : Str) : Rep K H φ (.str x) (.str x)
  | tup {us : List U} {vs : List V} {a : Addr} : SqT K H a vs → Reps K H φ us vs → Rep K H φ (.tup us) (.ref a)
  | ref {h : Nat} {a : Addr} : φ[h]? = some (a, none) → Rep K H φ (.ref h) (.ref a)
  | obj {h : Nat} {a : Addr} {c : Cl} : φ[h]? = some (a, some c) → Rep K H φ (.obj c h) (.ref a)
  | fz {us : List U} {vs : List V} {a : Addr} : Fz K H a vs → Reps K H φ us vs → Rep K H φ (.fz us) (.ref a)
  | fn {x : Str} {a : Addr} : FnAt K x a → Rep K H φ (.fn x) (.ref a)
inductive Reps (K : PySem.W.Frag) (H : Hp) (φ : List Pl) : List U → List V → Prop
  | nil : Reps K H φ [] []
  | cons {u : U} {v : V} {us : List U} {vs : List V} : Rep K H φ u v → Reps K H φ us vs → Reps K H φ (u :: us) (v :: vs)
end
def ObR (K : PySem.W.Frag) (H : Hp) (φ : List Pl) : Pl → Ob → Prop
  | (a, none), .lst us => ∃ vs, H a = some (.lst vs) ∧ Reps K H φ us vs
  | (a, some c), .lst us => ∃ C dx vs, FnAt K c.name C ∧ H a = some (.ins C dx (c.fs.zip vs)) ∧ us.length ≤ c.fs.length ∧ c.fs.Nodup ∧ Reps K H φ us vs
structure Up (K : PySem.W.Frag) (H : Hp) (φ : List Pl) (H' : Hp) (φ' : List Pl) : Prop where
  pre : φ <+: φ'
  tup : ∀ a vs, SqT K H a vs → SqT K H' a vs
  frz : ∀ a o u, H a = some (.frz o u) → H' a = some (.frz o u)
structure Ext (K : PySem.W.Frag) (H : Hp) (φ : List Pl) (H' : Hp) (φ' : List Pl) : Prop extends Up K H φ H' φ' where
  oth : ∀ a o, H a = some o → a ∉ Ad φ' → H' a = some o
  new : ∀ a, a ∈ Ad φ' → a ∉ Ad φ → H a = none

/-- b: the heap and the lists' places at the entry -/
structure StoOk (K : PySem.W.Frag) (b : Hp × List Pl) (H : Hp) (φ : List Pl) (S : Sto) : Prop where
  len : φ.length = S.length
  nd : (Ad φ).Nodup
  ob : ∀ (h : Nat) (a : Pl) (o : Ob), φ[h]? = some a → S[h]? = some o → ObR K H φ a o
  ext : Ext K b.1 b.2 H φ
section
variable {K : PySem.W.Frag} {H H' H'' : Hp} {φ φ' φ'' : List Pl}
theorem pre_get {α : Type} {l l' : List α} (h : l <+: l') {i : Nat} {x : α} (e : l[i]? = some x) : l'[i]? = some x := by
  obtain ⟨r, rfl⟩ := h
  have hi : i < l.length := by
    rcases Nat.lt_or_ge i l.length with q | q
    · exact q
    · rw [List.getElem?_eq_none q] at e; cases e
  rw [List.getElem?_append_left hi]; exact e
theorem Ext.refl : Ext K H φ H φ := ⟨⟨List.prefix_refl _, fun _ _ h => h, fun _ _ _ h => h⟩, fun _ _ h _ => h, fun _ h n => (n h).elim⟩
theorem Ext.trans (a : Ext K H φ H' φ') (b : Ext K H' φ' H'' φ'') : Ext K H φ H'' φ'' where
  pre := a.pre.trans b.pre
  tup := fun x vs h => b.tup x vs (a.tup x vs h)
  frz := fun x o u h => b.frz x o u (a.frz x o u h)
  oth := fun x o h n => b.oth x o (a.oth x o h fun m => n ((b.pre.map _).subset m)) n
  new := fun x m n => by
    by_cases q : x ∈ Ad φ'
    · exact a.new x q n
    · have z := b.new x m q
      cases e : H x with
      | none => rfl
      | some o =>
        rw [a.oth x o e q] at z
        cases z
mutual
theorem Rep.mono (x : Up K H φ H' φ') : ∀ (u : U) (v : V), Rep K H φ u v → Rep K H' φ' u v
  | .non, _, h => by cases h; exact .non
  | .bl b, _, h => by cases h; exact .bl b
  | .int i, _, h => by cases h; exact .int i
  | .str s, _, h => by cases h; exact .str s
  | .tup us, _, h => by
    cases h with
    | tup p q => exact .tup (x.tup _ _ p) (Reps.mono x us _ q)
  | .ref h, _, r => by
    cases r with
    | ref p => exact .ref (pre_get x.pre p)
  | .obj c h, _, r => by
    cases r with
    | obj p => exact .obj (pre_get x.pre p)
  | .fz us, _, h => by
    cases h with
    | fz p q =>
      refine .fz ?_ (Reps.mono x us _ q)
      rcases p with ⟨o, p⟩ | p
      · exact .inl ⟨o, x.frz _ _ _ p⟩
      · exact .inr p
  | .fn y, _, h => by
    cases h with
    | fn p => exact .fn p
theorem Reps.mono (x : Up K H φ H' φ') : ∀ (us : List U) (vs : List V), Reps K H φ us vs → Reps K H' φ' us vs
  | [], _, h => by cases h; exact .nil
  | u :: us, _, h => by
    cases h with
    | cons p q => exact .cons (Rep.mono x u _ p) (Reps.mono x us _ q)
end
theorem Rep.up {u : U} {v : V} (r : Rep K H φ u v) (x : Ext K H φ H' φ') : Rep K H' φ' u v := Rep.mono x.toUp u v r
theorem Reps.up {us : List U} {vs : List V} (r : Reps K H φ us vs) (x : Ext K H φ H' φ') : Reps K H' φ' us vs := Reps.mono x.toUp us vs r
theorem Reps.length : ∀ {us : List U} {vs : List V}, Reps K H φ us vs → us.length = vs.length
  | [], _, h => by cases h; rfl
  | u :: us, _, h => by
    cases h with
    | cons p q => simp [Reps.length q]
theorem Reps.get : ∀ {us : List U} {vs : List V} {i : Nat} {u : U}, Reps K H φ us vs → us[i]? = some u → ∃ v, vs[i]? = some v ∧ Rep K H φ u v
  | [], _, _, _, _, e => by simp at e
  | x :: us, _, 0, u, h, e => by
    cases h with
    | cons p q => simp at e; subst e; exact ⟨_, rfl, p⟩
  | x :: us, _, i + 1, u, h, e => by
    cases h with
    | cons p q =>
      obtain ⟨v, e1, r⟩ := Reps.get (i := i) q (by simpa using e)
      exact ⟨v, by simpa using e1, r⟩
theorem Reps.append : ∀ {us : List U} {vs : List V} {us' : List U} {vs' : List V}, Reps K H φ us vs → Reps K H φ us' vs' → Reps K H φ (us ++ us') (vs ++ vs')
  | [], _, _, _, h, h' => by cases h; exact h'
  | x :: us, _, _, _, h, h' => by
    cases h with
    | cons p q => exact .cons p (Reps.append q h')
theorem Reps.drop : ∀ {us : List U} {vs : List V} (n : Nat), Reps K H φ us vs → Reps K H φ (us.drop n) (vs.drop n)
  | _, _, 0, h => h
  | [], _, n + 1, h => by cases h; exact .nil
  | x :: us, _, n + 1, h => by
    cases h with
    | cons p q => exact Reps.drop n q
theorem Reps.take : ∀ {us : List U} {vs : List V} (n : Nat), Reps K H φ us vs → Reps K H φ (us.take n) (vs.take n)
  | _, _, 0, h => .nil
  | [], _, n + 1, h => by cases h; exact .nil
  | x :: us, _, n + 1, h => by
    cases h with
    | cons p q => exact .cons p (Reps.take n q)
theorem Reps.set {u : U} {v : V} (r : Rep K H φ u v) : ∀ {us : List U} {vs : List V} (n : Nat), Reps K H φ us vs → Reps K H φ (us.set n u) (vs.set n v)
  | [], _, n, h => by cases h; exact .nil
  | x :: us, _, 0, h => by
    cases h with
    | cons p q => exact .cons r q
  | x :: us, _, n + 1, h => by
    cases h with
    | cons p q => exact .cons p (Reps.set r n q)
theorem Reps.reverse : ∀ {us : List U} {vs : List V}, Reps K H φ us vs → Reps K H φ us.reverse vs.reverse
  | [], _, h => by cases h; exact .nil
  | x :: us, _, h => by
    cases h with
    | cons p q =>
      rw [List.reverse_cons, List.reverse_cons]
      exact Reps.append (Reps.reverse q) (.cons p .nil)
theorem Reps.rep {us : List U} {vs : List V} (h : Reps K H φ us vs) : ∀ k : Nat, Reps K H φ (List.replicate k us).flatten (List.replicate k vs).flatten
  | 0 => .nil
  | k + 1 => by
    rw [List.replicate_succ, List.replicate_succ, List.flatten_cons, List.flatten_cons]
    exact h.append (Reps.rep h k)
theorem Reps.nil_iff {us : List U} {vs : List V} (h : Reps K H φ us vs) : us = [] ↔ vs = [] := by
  cases h <;> simp
theorem Reps.isEmpty {us : List U} {vs : List V} (h : Reps K H φ us vs) : vs.isEmpty = us.isEmpty := by
  cases h <;> rfl
mutual
theorem Rep.cut {n : Nat} : ∀ (u : U) (v : V), u.bnd n = true → Rep K H φ u v → Rep K H (φ.take n) u v
  | .non, _, _, h => by cases h; exact .non
  | .bl b, _, _, h => by cases h; exact .bl b
  | .int i, _, _, h => by cases h; exact .int i
  | .str s, _, _, h => by cases h; exact .str s
  | .tup us, _, b, h => by
    cases h with
    | tup p q => exact .tup p (Reps.cut us _ (by simpa [U.bnd] using b) q)
  | .ref h, _, b, r => by
    cases r with
    | ref p =>
      have hb : h < n := by simpa [U.bnd] using b
      exact .ref (by rw [List.getElem?_take_of_lt hb]; exact p)
  | .obj c h, _, b, r => by
    cases r with
    | obj p =>
      have hb : h < n := by simpa [U.bnd] using b
      exact .obj (by rw [List.getElem?_take_of_lt hb]; exact p)
  | .fz us, _, b, h => by
    cases h with
    | fz p q => exact .fz p (Reps.cut us _ (by simpa [U.bnd] using b) q)
  | .fn x, _, _, h => by
    cases h with
    | fn p => exact .fn p
theorem Reps.cut {n : Nat} : ∀ (us : List U) (vs : List V), U.bnds n us = true → Reps K H φ us vs → Reps K H (φ.take n) us vs
  | [], _, _, h => by cases h; exact .nil
  | u :: us, _, b, h => by
    cases h with
    | cons p q =>
      rw [U.bnds, Bool.and_eq_true] at b
      exact .cons (Rep.cut u _ b.1 p) (Reps.cut us _ b.2 q)
end
end
end Ek

namespace Ek
open PySem PySem.Spec PyProof.Rows L2

section
variable {K : PySem.W.Frag} {b : Hp × List Pl} {H H' : Hp} {φ φ' : List Pl} {S : Sto}
theorem StoOk.at_ (s : StoOk K b H φ S) {h : Nat} {o : Ob} (e : S[h]? = some o) : ∃ a, φ[h]? = some a ∧ ObR K H φ a o := by
  have hl : h < S.length := by
    rcases Nat.lt_or_ge h S.length with q | q
    · exact q
    · rw [List.getElem?_eq_none q] at e; cases e
  have hp : h < φ.length := by rw [s.len]; exact hl
  exact ⟨φ[h], List.getElem?_eq_getElem hp, s.ob h _ o (List.getElem?_eq_getElem hp) e⟩
theorem StoOk.of_ref (s : StoOk K b H φ S) {h : Nat} {v : V} (r : Rep K H φ (.ref h) v) : ∃ a o, v = .ref a ∧ φ[h]? = some (a, none) ∧ S[h]? = some o ∧ ObR K H φ (a, none) o := by
  cases r with
  | @ref _ a p =>
    have hp : h < φ.length := by
      rcases Nat.lt_or_ge h φ.length with q | q
      · exact q
      · rw [List.getElem?_eq_none q] at p; cases p
    have hl : h < S.length := by rw [← s.len]; exact hp
    exact ⟨a, S[h], rfl, p, List.getElem?_eq_getElem hl, s.ob h _ _ p (List.getElem?_eq_getElem hl)⟩
theorem StoOk.list (s : StoOk K b H φ S) {h : Nat} {v : V} {us : List U} (r : Rep K H φ (.ref h) v) (e : S[h]? = some (.lst us)) : ∃ a vs, v = .ref a ∧ φ[h]? = some (a, none) ∧ H a = some (.lst vs) ∧ Reps K H φ us vs := by
  obtain ⟨a, o, rfl, p, q, ob⟩ := s.of_ref r
  rw [e] at q
  cases q
  obtain ⟨vs, h1, h2⟩ := ob
  exact ⟨a, vs, rfl, p, h1, h2⟩
theorem ob_reps {p : Pl} {us : List U} (h : ObR K H φ p (.lst us)) : ∃ vs, Reps K H φ us vs := by
  obtain ⟨a, c⟩ := p
  cases c with
  | none => obtain ⟨vs, _, r⟩ := h; exact ⟨vs, r⟩
  | some c => obtain ⟨C, dx, vs, _, _, _, _, r⟩ := h; exact ⟨vs, r⟩
theorem ob_some {p : Pl} {o : Ob} (h : ObR K H φ p o) : ∃ x, H p.1 = some x := by
  obtain ⟨a, c⟩ := p
  cases o with
  | lst us =>
    cases c with
    | none => obtain ⟨vs, e, r⟩ := h; exact ⟨_, e⟩
    | some c => obtain ⟨C, dx, vs, _, e, _, _, r⟩ := h; exact ⟨_, e⟩
/-- what a place holds, in a later heap in which it holds the same -/
theorem ob_mono {p : Pl} {o : Ob} (h : ObR K H φ p o) (x : Up K H φ H' φ') (k : ∀ u, H p.1 = some u → H' p.1 = some u) : ObR K H' φ' p o := by
  obtain ⟨a, c⟩ := p
  cases o with
  | lst us =>
    cases c with
    | none => obtain ⟨vs, e, r⟩ := h; exact ⟨vs, k _ e, Reps.mono x _ _ r⟩
    | some c => obtain ⟨C, dx, vs, n, e, l, d, r⟩ := h; exact ⟨C, dx, vs, n, k _ e, l, d, Reps.mono x _ _ r⟩
theorem StoOk.some_ (s : StoOk K b H φ S) {a : Addr} (m : a ∈ Ad φ) : ∃ x, H a = some x := by
  obtain ⟨p, hp, rfl⟩ := List.mem_map.mp m
  obtain ⟨h, hl, rfl⟩ := List.getElem_of_mem hp
  have hs : h < S.length := by rw [← s.len]; exact hl
  exact ob_some (s.ob h _ _ (List.getElem?_eq_getElem hl) (List.getElem?_eq_getElem hs))
theorem ad_mem {h : Nat} {p : Pl} (e : φ[h]? = some p) : p.1 ∈ Ad φ := List.mem_map.mpr ⟨p, List.mem_of_getElem? e, rfl⟩
theorem StoOk.keep (s : StoOk K b H φ S) (x : Ext K H φ H' φ) (k : ∀ a ∈ Ad φ, ∀ o, H a = some o → H' a = some o) : StoOk K b H' φ S :=
  ⟨s.len, s.nd, fun h a o p q => ob_mono (s.ob h a _ p q) x.toUp (k _ (ad_mem p)), s.ext.trans x⟩
theorem sqt_upd {p : Addr} {o : HO} {a : Addr} {vs : List V} (hp : ∀ xs, H p ≠ some (.tup xs)) (hf : ∀ ob u, H p ≠ some (.frz ob u)) (h : SqT K H a vs) : SqT K (upd H p o) a vs := by
  rcases h with (h | ⟨ob, h⟩) | h
  · exact .inl (.inl (by rw [upd_ne (fun e : a = p => hp vs (by rw [← e]; exact h))]; exact h))
  · exact .inl (.inr ⟨ob, by rw [upd_ne (fun e : a = p => hf ob _ (by rw [← e]; exact h))]; exact h⟩)
  · exact .inr h
theorem ext_new {p : Addr} {o : HO} (hp : H p = none) : Ext K H φ (upd H p o) φ :=
  ⟨⟨List.prefix_refl _, fun _ _ h => sqt_upd (fun xs e => by rw [hp] at e; cases e) (fun ob u e => by rw [hp] at e; cases e) h,
    fun a ob u e => by rw [upd_ne (ne_of_none e hp)]; exact e⟩, fun a ob e _ => by rw [upd_ne (ne_of_none e hp)]; exact e, fun a m n => (n m).elim⟩
theorem StoOk.new (s : StoOk K b H φ S) {p : Addr} {o : HO} (hp : H p = none) : StoOk K b (upd H p o) φ S :=
  s.keep (ext_new hp) fun a _ vs e => by rw [upd_ne (ne_of_none e hp)]; exact e
theorem rep_tup {p : Addr} {us : List U} {vs : List V} (hp : H p = none) (r : Reps K H φ us vs) : Rep K (upd H p (.tup vs)) φ (.tup us) (.ref p) :=
  .tup (.inl (.inl upd_same)) (r.up (ext_new hp))
theorem StoOk.notin (s : StoOk K b H φ S) {p : Addr} (hp : H p = none) : p ∉ Ad φ := fun m => by
  obtain ⟨ws, e⟩ := s.some_ m
  rw [hp] at e; cases e
/-- one place more -/
theorem StoOk.more (s : StoOk K b H φ S) {p : Pl} {o : Ob} (hp : H p.1 = none) (x : Up K H φ H' (φ ++ [p])) (k : ∀ a u, H a = some u → H' a = some u) (ho : ObR K H' (φ ++ [p]) p o) :
    Ext K H φ H' (φ ++ [p]) ∧ StoOk K b H' (φ ++ [p]) (S ++ [o]) := by
  have e : Ext K H φ H' (φ ++ [p]) := ⟨x, fun a o h n => k a o h, fun a m n => by
    rw [Ad, List.map_append] at m
    rcases List.mem_append.mp m with q | q
    · exact (n q).elim
    · rw [List.mem_singleton.mp q]; exact hp⟩
  have np := s.notin hp
  refine ⟨e, ⟨by simp [s.len], ?_, fun h a o q1 q2 => ?_, s.ext.trans e⟩⟩
  · rw [Ad, List.map_append, List.nodup_append]
    refine ⟨s.nd, by simp, fun a ha b hb => ?_⟩
    rw [List.mem_singleton.mp hb]
    exact fun e => np (by rw [e] at ha; exact ha)
  · rcases Nat.lt_or_ge h φ.length with hl | hl
    · rw [List.getElem?_append_left hl] at q1
      rw [List.getElem?_append_left (by rw [← s.len]; exact hl)] at q2
      exact ob_mono (s.ob h a o q1 q2) x (k _)
    · have hh : h = φ.length := by
        rcases Nat.lt_or_ge φ.length h with q | q
        · rw [List.getElem?_eq_none (by simp; omega)] at q1; cases q1
        · omega
      subst hh
      rw [List.getElem?_append_right (Nat.le_refl _)] at q1
      rw [s.len, List.getElem?_append_right (Nat.le_refl _)] at q2
      simp at q1 q2
      subst q1; subst q2
      exact ho
theorem up_more {p : Addr} {o : HO} {q : List Pl} (hp : H p = none) : Up K H φ (upd H p o) (φ ++ q) := ⟨List.prefix_append _ _, (ext_new (φ := φ) hp).tup, (ext_new (K := K) (φ := φ) hp).frz⟩
theorem StoOk.alloc (s : StoOk K b H φ S) {p : Addr} {us : List U} {vs : List V} (hp : H p = none) (r : Reps K H φ us vs) :
    Ext K H φ (upd H p (.lst vs)) (φ ++ [(p, none)]) ∧ StoOk K b (upd H p (.lst vs)) (φ ++ [(p, none)]) (S ++ [.lst us]) ∧ Rep K (upd H p (.lst vs)) (φ ++ [(p, none)]) (.ref S.length) (.ref p) := by
  obtain ⟨x, o⟩ := s.more (p := (p, none)) (o := .lst us) hp (up_more hp) (fun a u h => by rw [upd_ne (ne_of_none h hp)]; exact h) ⟨vs, upd_same, Reps.mono (up_more hp) _ _ r⟩
  exact ⟨x, o, .ref (by rw [← s.len]; simp)⟩
theorem upd_up {a : Addr} {o : HO} {w : HO} (hw : H a = some w) (h1 : ∀ xs, w ≠ .tup xs) (h2 : ∀ ob u, w ≠ .frz ob u) : Up K H φ (upd H a o) φ :=
  ⟨List.prefix_refl _, fun _ _ q => sqt_upd (fun xs e => by rw [hw] at e; cases e; exact h1 _ rfl) (fun ob u e => by rw [hw] at e; cases e; exact h2 _ _ rfl) q,
    fun b ob u e => by rw [upd_ne (fun z => by rw [z, hw] at e; cases e; exact h2 _ _ rfl)]; exact e⟩
/-- a place holds something else -/
theorem StoOk.alter (s : StoOk K b H φ S) {h : Nat} {p : Pl} {w : HO} {o : HO} {ob : Ob} (ha : φ[h]? = some p) (hw : H p.1 = some w) (h1 : ∀ xs, w ≠ .tup xs) (h2 : ∀ ob u, w ≠ .frz ob u) (ho : ObR K (upd H p.1 o) φ p ob) :
    Ext K H φ (upd H p.1 o) φ ∧ StoOk K b (upd H p.1 o) φ (S.set h ob) := by
  have x : Ext K H φ (upd H p.1 o) φ := ⟨upd_up hw h1 h2,
    fun b ob e n => by rw [upd_ne (fun z : b = p.1 => n (by rw [z]; exact ad_mem ha))]; exact e, fun b m n => (n m).elim⟩
  refine ⟨x, by rw [List.length_set]; exact s.len, s.nd, fun g b o q1 q2 => ?_, s.ext.trans x⟩
  by_cases hg : g = h
  · subst hg
    rw [ha] at q1
    cases q1
    have hl : g < S.length := by
      rw [← s.len]
      rcases Nat.lt_or_ge g φ.length with q | q
      · exact q
      · rw [List.getElem?_eq_none q] at ha; cases ha
    rw [List.getElem?_set_self hl] at q2
    cases q2
    exact ho
  · rw [List.getElem?_set_ne (Ne.symm hg)] at q2
    have nb : b.1 ≠ p.1 := fun e => by
      have e1 : (Ad φ)[g]? = some b.1 := by rw [Ad, List.getElem?_map, q1]; rfl
      have e2 : (Ad φ)[h]? = some p.1 := by rw [Ad, List.getElem?_map, ha]; rfl
      rw [e] at e1
      exact hg (nd_ix s.nd e1 e2)
    exact ob_mono (s.ob g b o q1 q2) x.toUp fun u e => by rw [upd_ne nb]; exact e
theorem StoOk.put (s : StoOk K b H φ S) {h : Nat} {a : Addr} {ws : List V} {us : List U} {vs : List V} (ha : φ[h]? = some (a, none)) (hw : H a = some (.lst ws)) (r : Reps K H φ us vs) :
    Ext K H φ (upd H a (.lst vs)) φ ∧ StoOk K b (upd H a (.lst vs)) φ (S.set h (.lst us)) :=
  s.alter (p := (a, none)) ha hw (fun _ z => by cases z) (fun _ _ z => by cases z) ⟨vs, upd_same, Reps.mono (upd_up hw (fun _ z => by cases z) (fun _ _ z => by cases z)) _ _ r⟩
end

def SlotR (K : PySem.W.Frag) (H : Hp) (φ : List Pl) (σu : Sl) (σ : L2.St) : Prop := σu.length = σ.length ∧ ∀ (i : Nat) (u : U), σu[i]? = some (some u) → ∃ v, σ[i]? = some (some v) ∧ Rep K H φ u v
section
variable {K : PySem.W.Frag} {H H' : Hp} {φ φ' : List Pl} {σu : Sl} {σ : L2.St}
theorem SlotR.up (s : SlotR K H φ σu σ) (x : Ext K H φ H' φ') : SlotR K H' φ' σu σ := ⟨s.1, fun i u e => let ⟨v, h, r⟩ := s.2 i u e; ⟨v, h, r.up x⟩⟩
theorem SlotR.set (s : SlotR K H φ σu σ) {u : U} {v : V} (r : Rep K H φ u v) (i : Nat) : SlotR K H φ (σu.set i (some u)) (σ.set i (some v)) := by
  refine ⟨by simp [s.1], fun j w e => ?_⟩
  by_cases q : i = j
  · subst q
    by_cases hi : i < σu.length
    · rw [List.getElem?_set_self hi] at e
      cases e
      exact ⟨v, by rw [List.getElem?_set_self (by rw [← s.1]; exact hi)], r⟩
    · rw [List.getElem?_eq_none (by simp; omega)] at e; cases e
  · rw [List.getElem?_set_ne q] at e ⊢
    exact s.2 j w e
end

def LE (K : PySem.W.Frag) (b : Hp × List Pl) (w : Sl → Sto → UQ → Prop) : TE := fun σ H Q => ∃ φ σu S Qu, SlotR K H φ σu σ ∧ StoOk K b H φ S ∧ w σu S Qu ∧
  ∀ u S' φ' v H', Ext K H φ H' φ' → StoOk K b H' φ' S' → Rep K H' φ' u v → Qu u S' → Q v H'
def LT (K : PySem.W.Frag) (b : Hp × List Pl) (w : Sl → Sto → BQ → Prop) : TT := fun σ H Q => ∃ φ σu S Qu, SlotR K H φ σu σ ∧ StoOk K b H φ S ∧ w σu S Qu ∧
  ∀ t S' φ' H', Ext K H φ H' φ' → StoOk K b H' φ' S' → Qu t S' → Q t H'
def LA (K : PySem.W.Frag) (b : Hp × List Pl) (n : Nat) (w : Sl → Sto → (List U → Sto → Prop) → Prop) : TA := fun σ H Q => ∃ φ σu S Qu, SlotR K H φ σu σ ∧ StoOk K b H φ S ∧ w σu S Qu ∧
  ∀ us S' φ' vs H', us.length = n → Ext K H φ H' φ' → StoOk K b H' φ' S' → Reps K H' φ' us vs → Qu us S' → Q vs H'
/-- what an operation by values needs -/
def Fw (K : PySem.W.Frag) (b : Hp × List Pl) (H : Hp) (φ : List Pl) (Qu : UQ) (Q : VK) : Prop := ∀ u S' φ' v H', Ext K H φ H' φ' → StoOk K b H' φ' S' → Rep K H' φ' u v → Qu u S' → Q v H'
section
variable {X : Cx} {bs : Hp × List Pl} {a b c e : Expr} {wa wb wc : Sl → Sto → UQ → Prop} {pos : Pos}
theorem pe_imp {t t' : TE} (h : PE X e t) (i : ∀ σ H Q, t' σ H Q → t σ H Q) : PE X e t' := ⟨fun pins s σ H Q I q => h.run pins s σ H Q I (i σ H Q q)⟩
theorem pt_imp {t t' : TT} (h : PT X e t) (i : ∀ σ H Q, t' σ H Q → t σ H Q) : PT X e t' := ⟨fun pins s σ H Q I q => h.run pins s σ H Q I (i σ H Q q)⟩
theorem pw_imp {t t' : TT} (h : PW X e t) (i : ∀ σ H Q, t' σ H Q → t σ H Q) : PW X e t' := ⟨fun wh pins s σ H Q I q => h.run wh pins s σ H Q I (i σ H Q q)⟩
theorem pa_imp {es : List Expr} {t t' : TA} (h : PA X es t) (i : ∀ σ H Q, t' σ H Q → t σ H Q) : PA X es t' := ⟨fun p pins s σ H Q I q => h.run p pins s σ H Q I (i σ H Q q)⟩
theorem ps_imp {st : Stmt} {t t' : TS} (h : PS X st t) (i : ∀ D σ H, t' D σ H → t D σ H) : PS X st t' := ⟨fun pins s σ H D I q => h.run pins s σ H D I (i D σ H q)⟩
theorem pss_imp {st : List Stmt} {t t' : TS} (h : PSs X st t) (i : ∀ D σ H, t' D σ H → t D σ H) : PSs X st t' := ⟨fun pins s σ H D I q => h.run pins s σ H D I (i D σ H q)⟩
abbrev QE (X : Cx) (bs : Hp × List Pl) (e : Expr) (w : Sl → Sto → UQ → Prop) : Prop := PE X e (LE X.K bs w)
abbrev QT (X : Cx) (bs : Hp × List Pl) (e : Expr) (w : Sl → Sto → BQ → Prop) : Prop := PT X e (LT X.K bs w)
abbrev QA (X : Cx) (bs : Hp × List Pl) (es : List Expr) (w : Sl → Sto → (List U → Sto → Prop) → Prop) : Prop := PA X es (LA X.K bs es.length w)

theorem qe_var {i : Nat} {x : Str} (hN : X.N[i]? = some x) (hv : Vis X.env.scope x) (hd : (x == ("__debug__" : Str)) = false) (hcd : (x == ("__classdict__" : Str)) = false) :
    QE X bs (.Name x pos) (fun σ S Q => ∃ u, σ[i]? = some (some u) ∧ Q u S) :=
  pe_imp (pe_var hN hv hd hcd) fun σ H Q ⟨φ, σu, S, Qu, hs, ho, ⟨u, hu, q⟩, k⟩ => by
    obtain ⟨v, hv, r⟩ := hs.2 i u hu
    exact ⟨v, hv, k u S φ v H Ext.refl ho r q⟩
theorem qe_int {i j} : QE X bs (.Constant (.int i) j pos) (fun _ S Q => Q (.int i) S) :=
  pe_imp pe_int fun σ H Q ⟨φ, σu, S, Qu, hs, ho, q, k⟩ => k _ S φ _ H Ext.refl ho (.int i) q
theorem qe_bl {i j} : QE X bs (.Constant (.bool i) j pos) (fun _ S Q => Q (.bl i) S) :=
  pe_imp pe_bl fun σ H Q ⟨φ, σu, S, Qu, hs, ho, q, k⟩ => k _ S φ _ H Ext.refl ho (.bl i) q
theorem qe_str {i j} : QE X bs (.Constant (.str i) j pos) (fun _ S Q => Q (.str i) S) :=
  pe_imp pe_str fun σ H Q ⟨φ, σu, S, Qu, hs, ho, q, k⟩ => k _ S φ _ H Ext.refl ho (.str i) q
theorem qe_non {j} : QE X bs (.Constant .none j pos) (fun _ S Q => Q .non S) :=
  pe_imp pe_non fun σ H Q ⟨φ, σu, S, Qu, hs, ho, q, k⟩ => k _ S φ _ H Ext.refl ho .non q
/-- a module's constant that is an int or a text -/
theorem qe_glob {x : Str} {u : U} {v : V} {val : Value} (hg : Gl X x) (hm : X.mg x = some val) (r : RelV v val) (ru : ∀ H φ, Rep X.K H φ u v) (hd : (x == ("__debug__" : Str)) = false) : QE X bs (.Name x pos) (fun _ S Q => Q u S) :=
  pe_imp (pe_glob hg hm r hd) fun σ H Q ⟨φ, σu, S, Qu, hs, ho, q, k⟩ => k _ S φ _ H Ext.refl ho (ru H φ) q

/-- two values in a row -/
theorem two {K : PySem.W.Frag} {R : R2} {w : U → U → Sto → UQ → Prop}
    (hw : ∀ H φ S x y v u Qu Q, StoOk K bs H φ S → Rep K H φ x v → Rep K H φ y u → w x y S Qu → Fw K bs H φ Qu Q → R v u H Q) (σ : L2.St) (H : Hp) (Q : VK)
    (h : LE K bs (fun σ S Q => wa σ S fun x S1 => wb σ S1 fun y S2 => w x y S2 Q) σ H Q) : LE K bs wa σ H fun x H1 => LE K bs wb σ H1 fun y H2 => R x y H2 Q := by
  obtain ⟨φ, σu, S, Qu, hs, ho, q, k⟩ := h
  refine ⟨φ, σu, S, _, hs, ho, q, fun x S1 φ1 v1 H1 e1 o1 r1 q1 => ⟨φ1, σu, S1, _, hs.up e1, o1, q1, fun y S2 φ2 v2 H2 e2 o2 r2 q2 => ?_⟩⟩
  exact hw H2 φ2 S2 x y v1 v2 Qu Q o2 (r1.up e2) r2 q2 fun u S' φ' v H' e3 o3 r3 q3 => k u S' φ' v H' ((e1.trans e2).trans e3) o3 r3 q3
theorem one {K : PySem.W.Frag} {R : V → Hp → VK → Prop} {w : U → Sto → UQ → Prop}
    (hw : ∀ H φ S x v Qu Q, StoOk K bs H φ S → Rep K H φ x v → w x S Qu → Fw K bs H φ Qu Q → R v H Q) (σ : L2.St) (H : Hp) (Q : VK)
    (h : LE K bs (fun σ S Q => wa σ S fun x S1 => w x S1 Q) σ H Q) : LE K bs wa σ H fun x H1 => R x H1 Q := by
  obtain ⟨φ, σu, S, Qu, hs, ho, q, k⟩ := h
  refine ⟨φ, σu, S, _, hs, ho, q, fun x S1 φ1 v1 H1 e1 o1 r1 q1 => ?_⟩
  exact hw H1 φ1 S1 x v1 Qu Q o1 r1 q1 fun u S' φ' v H' e3 o3 r3 q3 => k u S' φ' v H' (e1.trans e3) o3 r3 q3
theorem qe_op {op : Operator} {r : R2} {w : U → U → Sto → UQ → Prop} (ho : OpR X (binaryOp op) r)
    (hw : ∀ H φ S x y v u Qu Q, StoOk X.K bs H φ S → Rep X.K H φ x v → Rep X.K H φ y u → w x y S Qu → Fw X.K bs H φ Qu Q → r v u H Q) (ha : QE X bs a wa) (hb : QE X bs b wb) :
    QE X bs (.BinOp a op b pos) (fun σ S Q => wa σ S fun x S1 => wb σ S1 fun y S2 => w x y S2 Q) := pe_imp (pe_op ho ha hb) (two hw)
theorem Fw.int {K : PySem.W.Frag} {H : Hp} {φ : List Pl} {S : Sto} {Qu : UQ} {Q : VK} (f : Fw K bs H φ Qu Q) (o : StoOk K bs H φ S) {i : Int} (q : Qu (.int i) S) : Q (.int i) H := f _ S φ _ H Ext.refl o (.int i) q
theorem Fw.lst {K : PySem.W.Frag} {H : Hp} {φ : List Pl} {S : Sto} {Qu : UQ} {Q : VK} (f : Fw K bs H φ Qu Q) (o : StoOk K bs H φ S) {us : List U} {vs : List V} (r : Reps K H φ us vs) (q : Qu (.ref S.length) (S ++ [.lst us])) : ∀ p, H p = none → Q (.ref p) (upd H p (.lst vs)) := fun p hp =>
  let ⟨x, s, z⟩ := o.alloc hp r
  f _ _ _ _ _ x s z q
theorem Fw.tup {K : PySem.W.Frag} {H : Hp} {φ : List Pl} {S : Sto} {Qu : UQ} {Q : VK} (f : Fw K bs H φ Qu Q) (o : StoOk K bs H φ S) {us : List U} {vs : List V} (r : Reps K H φ us vs) (q : Qu (.tup us) S) : ∀ p, H p = none → Q (.ref p) (upd H p (.tup vs)) := fun p hp =>
  f _ _ _ _ _ (ext_new hp) (o.new hp) (rep_tup hp r) q
theorem big_line {n : Nat} (h : n ≤ big) : n ≤ sizeLine := Nat.le_trans h (by rw [sizeLine_eq]; decide)
theorem big_lt {n : Nat} (h : n < big) : n < sizeLine := Nat.lt_of_lt_of_le h (by rw [sizeLine_eq]; decide)
end
end Ek

namespace Ek
open PySem PySem.Spec PyProof.Rows L2
section
variable {its : Array Value} {j : Int} {u : Tok} {l : Addr} {m : Nat} {dd : Option Addr} {sl : Array (Option Value)}
theorem tm_none (h : j ≤ 0) (h0 : -(2 ^ 63) ≤ j) (hi : its.isEmpty = false) :
    Meets (Builtin.«tuple.__mul__» ⟨[.ref l, .int j u], []⟩) (fun _ R s => s.heap.get? l = some { cls := .type "tuple", dict := dd, data := .seq its m, slots := sl } ∧
      R (.ok (.ret (Value.ref s.heap.objs.size))) { s with heap := s.heap.push { cls := Value.type "tuple", data := Data.seq #[] }, toks := s.toks }) :=
  .of_wp fun prog w A R s hs => by
    obtain ⟨hp, g, d, tk, os⟩ := s
    obtain ⟨hl, hr⟩ := hs
    have fi := AutoSeq1.idx_int
    have b0 : (decide (j < -(2 ^ 63)) || decide (j ≥ 2 ^ 63)) = false := by
      rw [decide_eq_false (by omega), decide_eq_false (by omega)]; rfl
    have b1 : (its.isEmpty || j == 1) = false := by
      rw [hi, Bool.false_or]; exact beq_eq_false_iff_ne.mpr (by omega)
    have b2 : (decide (j ≤ 0) || its.isEmpty) = true := by rw [decide_eq_true h]; rfl
    wp_walk using wpAny_loadPart' hl
    refine wpAny_ite_false (decide_eq_false fun e => by rw [b0] at e; cases e) ?_
    wp_walk using wpAny_loadPart' hl
    refine wpAny_ite_false (decide_eq_false fun e => by rw [b1] at e; cases e) ?_
    wp_walk using wpAny_loadPart' hl
    exact ⟨_, rfl, hr⟩
theorem tm_one (h : j = 1) :
    Meets (Builtin.«tuple.__mul__» ⟨[.ref l, .int j u], []⟩) (fun _ R s => s.heap.get? l = some { cls := .type "tuple", dict := dd, data := .seq its m, slots := sl } ∧
      R (.ok (.ret (Value.ref l))) s) :=
  .of_wp fun prog w A R s hs => by
    obtain ⟨hp, g, d, tk, os⟩ := s
    obtain ⟨hl, hr⟩ := hs
    have fi := AutoSeq1.idx_int
    subst h
    wp_walk using wpAny_loadPart' hl
    exact ⟨_, rfl, hr⟩
end
section
variable {X : Cx}
/-- t * k -/
def rTM (K : PySem.W.Frag) : R2 := fun x y H Q => ∃ a j xs, x = .ref a ∧ y = .int j ∧ SqT K H a xs ∧ xs ≠ [] ∧ -(2 ^ 62) ≤ j ∧ j ≤ 1000 ∧ xs.length ≤ 1000 ∧ (j = 1 → Q (.ref a) H) ∧ (j ≠ 1 → ∀ p, H p = none → Q (.ref p) (upd H p (.tup (List.replicate j.toNat xs).flatten)))
theorem op_tm : OpR X (binaryOp .Mult) (rTM X.K) := by
  intro pins s σ H x y v u Q I rx ry h
  obtain ⟨a, j, xs, rfl, rfl, hT, hne, j0, j1, hz, q1, q2⟩ := h
  by_cases big2 : 2 ≤ j
  · exact op_repT pins s σ H _ _ v u Q I rx ry ⟨a, j, xs, rfl, rfl, hT, hne, big2, j1, hz, q2 (by omega)⟩
  cases rx
  obtain ⟨t, rfl⟩ := ry
  obtain ⟨its, r, ⟨⟨cls, dd, data, sl⟩, got, kc, m, kd⟩, small⟩ := I.tuple hT
  simp only at kc kd
  subst kc kd
  have full : its.toArray.isEmpty = false := by
    cases its with
    | nil => exact absurd (List.eq_nil_of_length_eq_zero r.length) hne
    | cons c d => rfl
  by_cases one : j = 1
  · refine wpAny_binaryOp_repeat_ref (T := "tuple") (U := "int") (by decide) ⟨_, got, rfl⟩ (fun s' => typeIs_int s' j t) noFill_tuple_mul F.fills_int_mul F.slot_int_rmul repeat_tuple F.slot_int_index.lookup ?_
    refine call_meets F.slot_int_rmul (typeIs_int s j t) F.entry_int_rmul (F.args_int_rmul_2 _ _) (int_rmul_tuple j t a its.toArray m dd sl) ?_
    refine ⟨got, rfl, ⟨_, got, rfl⟩, ?_⟩
    exact call_meets F.slot_tuple_mul ⟨_, got, rfl⟩ F.entry_tuple_mul (F.args_tuple_mul_2 _ _) (tm_one one) ⟨got, .ref a, H, I, rfl, q1 one⟩
  · refine wpAny_binaryOp_repeat_ref (T := "tuple") (U := "int") (by decide) ⟨_, got, rfl⟩ (fun s' => typeIs_int s' j t) noFill_tuple_mul F.fills_int_mul F.slot_int_rmul repeat_tuple F.slot_int_index.lookup ?_
    refine call_meets F.slot_int_rmul (typeIs_int s j t) F.entry_int_rmul (F.args_int_rmul_2 _ _) (int_rmul_tuple j t a its.toArray m dd sl) ?_
    refine ⟨got, rfl, ⟨_, got, rfl⟩, ?_⟩
    refine call_meets F.slot_tuple_mul ⟨_, got, rfl⟩ F.entry_tuple_mul (F.args_tuple_mul_2 _ _) (tm_none (by omega) (by omega) full) ⟨got, ?_⟩
    have none0 : (List.replicate j.toNat xs).flatten = [] := by rw [Int.toNat_of_nonpos (by omega)]; rfl
    have q3 := q2 one
    rw [none0] at q3
    exact ⟨.ref s.heap.objs.size, _, I.laid (t' := s.toks) (o := .tup []) (fun b ob q => Heap.get?_push_of_some _ q) (Nat.le_refl _) ⟨by decide, _, .nil, IsTup.new _ _⟩, rfl, q3 _ (I.hok.fresh (Nat.le_refl _))⟩
end

section
variable {X : Cx} {bs : Hp × List Pl}
/-- what links an operation of values in the heap with one of the small language -/
def Lnk2 (K : PySem.W.Frag) (bs : Hp × List Pl) (R : R2) (w : U → U → Sto → UQ → Prop) : Prop :=
  ∀ H φ S x y v u Qu Q, StoOk K bs H φ S → Rep K H φ x v → Rep K H φ y u → w x y S Qu → Fw K bs H φ Qu Q → R v u H Q
def LnkB (K : PySem.W.Frag) (bs : Hp × List Pl) (R : R2) (w : U → U → Sto → BQ → Prop) : Prop :=
  ∀ H φ S x y v u Qu Q, StoOk K bs H φ S → Rep K H φ x v → Rep K H φ y u → w x y S (fun b S => Qu (.bl b) S) → Fw K bs H φ Qu Q → R v u H Q

def rAdd4 (K : PySem.W.Frag) : R2 := fun x y H Q => rI0 (fun i j => .int (i + j)) x y H Q ∨ (∃ i j, x = .str i ∧ y = .str j ∧ i.length + j.length ≤ sizeLine ∧ Q (.str (i ++ j)) H) ∨ rCatA K x y H Q ∨ rCat x y H Q
theorem op_add4 : OpR X (binaryOp .Add) (rAdd4 X.K) := OpR.or op_add (OpR.or op_add_str (OpR.or op_catA op_cat))
theorem lnk_add {K : PySem.W.Frag} : Lnk2 K bs (rAdd4 K) addU := by
  intro H φ S x y v u Qu Q o rx ry h f
  cases x <;> cases y <;> try (simp only [addU] at h; done)
  all_goals try exact h.elim
  case int.int i j => cases rx; cases ry; exact .inl ⟨i, j, rfl, rfl, f.int o h⟩
  case str.str i j => cases rx; cases ry; exact .inr (.inl ⟨i, j, rfl, rfl, big_line h.1, f _ S φ _ H Ext.refl o (.str _) h.2⟩)
  case tup.tup us vs =>
    cases rx with
    | @tup _ xs a p1 q1 =>
      cases ry with
      | @tup _ ys b p2 q2 =>
        have e1 := q1.length
        have e2 := q2.length
        refine .inr (.inr (.inl ⟨a, b, xs, ys, rfl, rfl, p1, p2, big_line (by rw [← e1, ← e2]; exact h.1), fun z => ?_, fun _ z => ?_, fun _ _ => f.tup o (q1.append q2) h.2⟩))
        · have e : us = [] := (q1.nil_iff).mpr z
          subst e
          exact f _ S φ _ H Ext.refl o (.tup p2 q2) (by simpa using h.2)
        · have e : vs = [] := (q2.nil_iff).mpr z
          subst e
          exact f _ S φ _ H Ext.refl o (.tup p1 q1) (by simpa using h.2)
  case ref.ref h1 h2 =>
    obtain ⟨us, vs, e1, e2, hl, q⟩ := h
    obtain ⟨a, xs, rfl, p1, a1, r1⟩ := o.list rx e1
    obtain ⟨b, ys, rfl, p2, a2, r2⟩ := o.list ry e2
    have n1 := r1.length
    have n2 := r2.length
    exact .inr (.inr (.inr ⟨a, b, xs, ys, rfl, rfl, a1, a2, big_line (by rw [← n1, ← n2]; exact hl), f.lst o (r1.append r2) q⟩))
def rMul2 (K : PySem.W.Frag) : R2 := fun x y H Q => rI (fun i j => IntMulOk i j) (fun i j => .int (i * j)) x y H Q ∨ rRep x y H Q ∨ rTM K x y H Q
theorem op_mul2 : OpR X (binaryOp .Mult) (rMul2 X.K) := OpR.or (opI fun _ _ _ _ _ _ _ hc q => mul_int q hc) (OpR.or op_rep op_tm)
theorem lnk_mul {K : PySem.W.Frag} : Lnk2 K bs (rMul2 K) mulU := by
  intro H φ S x y v u Qu Q o rx ry h f
  cases x <;> cases y <;> try (simp only [mulU] at h; done)
  all_goals try exact h.elim
  case int.int i j => cases rx; cases ry; exact .inl ⟨i, j, rfl, rfl, h.1, f.int o h.2⟩
  case ref.int h1 k =>
    obtain ⟨us, e1, b1, b2, hl, q⟩ := h
    obtain ⟨a, xs, rfl, p1, a1, r1⟩ := o.list rx e1
    cases ry
    have n1 := r1.length
    exact .inr (.inl ⟨a, k, xs, rfl, rfl, a1, by omega, by omega, big_line (by rw [← n1]; exact hl), f.lst o (r1.rep _) q⟩)
  case tup.int us k =>
    obtain ⟨ne, b1, b2, hl, q⟩ := h
    cases ry
    cases rx with
    | @tup _ xs a p1 q1 =>
      have e1 := q1.length
      refine .inr (.inr ⟨a, k, xs, rfl, rfl, p1, fun z => ne (q1.nil_iff.mpr z), b1, b2, by rw [← e1]; exact hl, fun z => ?_, fun _ => f.tup o (q1.rep _) q⟩)
      subst z
      have e : (List.replicate (Int.toNat 1) us).flatten = us := by simp
      rw [e] at q
      exact f _ S φ _ H Ext.refl o (.tup p1 q1) q
theorem lnk_ari {K : PySem.W.Frag} {C : Int → Int → Prop} {g : Int → Int → Int} : Lnk2 K bs (rI C fun i j => .int (g i j)) (ari C g) := by
  intro H φ S x y v u Qu Q o rx ry h f
  cases x <;> cases y <;> try exact h.elim
  cases rx; cases ry
  exact ⟨_, _, rfl, rfl, h.1, f.int o h.2⟩
theorem op_fdivL : OpR X (binaryOp .FloorDiv) (rI (fun _ j => j ≠ 0 ∧ j.natAbs.log2 < 9000) fun i j => .int (i.fdiv j)) := opI fun _ _ _ _ _ _ _ hc q => floordiv_int hc.1 q (.inl (PyProof.noPylong_of_log2 hc.2))
theorem lnk_neg {K : PySem.W.Frag} : ∀ H φ S x v Qu Q, StoOk K bs H φ S → Rep K H φ x v → negU x S Qu → Fw K bs H φ Qu Q → (rU fun i => .int (-i)) v H Q := by
  intro H φ S x v Qu Q o rx h f
  cases x <;> try exact h.elim
  cases rx
  exact ⟨_, rfl, f.int o h⟩

theorem lnk_bits {K : PySem.W.Frag} : ∀ H φ S x v Qu Q, StoOk K bs H φ S → Rep K H φ x v → biU .bits [x] S Qu → Fw K bs H φ Qu Q → (rU fun i => .int (PySem.Builtin.Int.intBits i : Nat)) v H Q := by
  intro H φ S x v Qu Q o rx h f
  cases x <;> try exact h.elim
  cases rx
  exact ⟨_, rfl, f.int o h⟩
theorem lnk_cmI {K : PySem.W.Frag} {p : Int → Int → Bool} : LnkB K bs (rI0 fun i j => .bl (p i j)) (cmI p) := by
  intro H φ S x y v u Qu Q o rx ry h f
  cases x <;> cases y <;> try exact h.elim
  cases rx; cases ry
  exact ⟨_, _, rfl, rfl, f _ S φ _ H Ext.refl o (.bl _) h⟩
mutual
def toD : U → PyData
  | .non => .none
  | .bl b => .bool b
  | .int i => .int i
  | .str x => .str x
  | .tup us => .tuple (toDs us)
  | .ref _ => .none
  | .fz _ => .none
  | .fn _ => .none
  | .obj _ _ => .none
def toDs : List U → List PyData
  | [] => []
  | u :: us => toD u :: toDs us
end
mutual
theorem dp_of {K : PySem.W.Frag} {H : Hp} {φ : List Pl} : ∀ (n : Nat) (u : U) (v : V), u.dat n = true → Rep K H φ u v → Dp K H v (toD u)
  | 0, _, _, h, _ => by simp [U.dat] at h
  | n + 1, .non, _, _, r => by cases r; exact .non
  | n + 1, .bl b, _, _, r => by cases r; exact .bl b
  | n + 1, .int i, _, _, r => by cases r; exact .int i
  | n + 1, .str x, _, _, r => by cases r; exact .str x
  | n + 1, .tup us, _, h, r => by
    cases r with
    | tup p q => exact .tup p (dps_of n us _ (by simpa [U.dat] using h) q)
  | n + 1, .ref _, _, h, _ => by simp [U.dat] at h
  | n + 1, .fz _, _, h, _ => by simp [U.dat] at h
  | n + 1, .fn _, _, h, _ => by simp [U.dat] at h
  | n + 1, .obj _ _, _, h, _ => by simp [U.dat] at h
theorem dps_of {K : PySem.W.Frag} {H : Hp} {φ : List Pl} : ∀ (n : Nat) (us : List U) (vs : List V), U.dats n us = true → Reps K H φ us vs → DpAll K H vs (toDs us)
  | _, [], _, _, r => by cases r; exact .nil
  | n, u :: us, _, h, r => by
    cases r with
    | cons p q =>
      rw [U.dats, Bool.and_eq_true] at h
      exact .cons (dp_of n u _ h.1 p) (dps_of n us _ h.2 q)
end
mutual
theorem can_of : ∀ (n : Nat) (u : U), u.dat n = true → (toD u).canLay0 = true ∧ (toD u).depth ≤ n
  | 0, _, h => by simp [U.dat] at h
  | n + 1, .non, _ => ⟨rfl, Nat.zero_le _⟩
  | n + 1, .bl b, _ => ⟨rfl, Nat.zero_le _⟩
  | n + 1, .int i, _ => ⟨rfl, Nat.zero_le _⟩
  | n + 1, .str x, h => ⟨by simpa [U.dat, toD, PyData.canLay0] using h, Nat.zero_le _⟩
  | n + 1, .tup us, h => by
    have z := cans_of n us (by simpa [U.dat] using h)
    refine ⟨by simpa [toD, PyData.canLay0] using z.1, ?_⟩
    show PyData.depth (.tuple (toDs us)) ≤ n + 1
    have z2 := z.2
    simp only [PyData.depth]
    omega
  | n + 1, .ref _, h => by simp [U.dat] at h
  | n + 1, .fz _, h => by simp [U.dat] at h
  | n + 1, .fn _, h => by simp [U.dat] at h
  | n + 1, .obj _ _, h => by simp [U.dat] at h
theorem cans_of : ∀ (n : Nat) (us : List U), U.dats n us = true → PyData.canLayAll0 (toDs us) = true ∧ PyData.depthAll (toDs us) ≤ n
  | n, [], _ => ⟨rfl, Nat.zero_le _⟩
  | n, u :: us, h => by
    rw [U.dats, Bool.and_eq_true] at h
    have a := can_of n u h.1
    have b := cans_of n us h.2
    refine ⟨by simp [toDs, PyData.canLayAll0, a.1, b.1], ?_⟩
    show PyData.depthAll (toD u :: toDs us) ≤ n
    simp only [PyData.depthAll]
    omega
end
mutual
theorem eqv_of : ∀ (u v : U), (∃ n, u.dat n = true) → (∃ n, v.dat n = true) → PyData.eqv (toD u) (toD v) = u.eqv v
  | .non, v, _, h => by cases v <;> first | rfl | (obtain ⟨n, h⟩ := h; cases n <;> simp [U.dat] at h)
  | .bl b, v, _, h => by cases v <;> first | rfl | (obtain ⟨n, h⟩ := h; cases n <;> simp [U.dat] at h)
  | .int b, v, _, h => by cases v <;> first | rfl | (obtain ⟨n, h⟩ := h; cases n <;> simp [U.dat] at h)
  | .str b, v, _, h => by cases v <;> first | rfl | (obtain ⟨n, h⟩ := h; cases n <;> simp [U.dat] at h)
  | .tup us, v, h', h => by
    cases v <;> first
      | rfl
      | (obtain ⟨n, h⟩ := h; cases n <;> simp [U.dat] at h; done)
      | skip
    rename_i vs
    obtain ⟨n, h⟩ := h
    obtain ⟨m, h'⟩ := h'
    cases n with
    | zero => simp [U.dat] at h
    | succ n =>
      cases m with
      | zero => simp [U.dat] at h'
      | succ m => exact eqvs_of us vs ⟨m, by simpa [U.dat] using h'⟩ ⟨n, by simpa [U.dat] using h⟩
  | .ref _, v, h, _ => by obtain ⟨n, h⟩ := h; cases n <;> simp [U.dat] at h
  | .fz _, v, h, _ => by obtain ⟨n, h⟩ := h; cases n <;> simp [U.dat] at h
  | .fn _, v, h, _ => by obtain ⟨n, h⟩ := h; cases n <;> simp [U.dat] at h
  | .obj _ _, v, h, _ => by obtain ⟨n, h⟩ := h; cases n <;> simp [U.dat] at h
theorem eqvs_of : ∀ (us vs : List U), (∃ n, U.dats n us = true) → (∃ n, U.dats n vs = true) → PyData.eqvAll (toDs us) (toDs vs) = U.eqvs us vs
  | [], [], _, _ => rfl
  | [], _ :: _, _, _ => rfl
  | _ :: _, [], _, _ => rfl
  | u :: us, v :: vs, h, h' => by
    obtain ⟨n, h⟩ := h
    obtain ⟨m, h'⟩ := h'
    rw [U.dats, Bool.and_eq_true] at h h'
    show (PyData.eqv (toD u) (toD v) && PyData.eqvAll (toDs us) (toDs vs)) = (U.eqv u v && U.eqvs us vs)
    rw [eqv_of u v ⟨n, h.1⟩ ⟨m, h'.1⟩, eqvs_of us vs ⟨n, h.2⟩ ⟨m, h'.2⟩]
end
theorem shaped_of {u : U} (h : u.dat 60 = true) : SeqAt.shaped (toD u) = true := by
  have z := can_of 60 u h
  unfold SeqAt.shaped
  rw [z.1, Bool.true_and]
  exact decide_eq_true (by omega)
def rEqX (K : PySem.W.Frag) (n : Bool) : R2 := fun x y H Q => ∃ d e, Dp K H x d ∧ Dp K H y e ∧ SeqAt.shaped d = true ∧ SeqAt.shaped e = true ∧ Q (.bl (xor n (PyData.eqv d e))) H
def rEqS (n : Bool) : R2 := fun x y H Q => ∃ i j : Str, x = .str i ∧ y = .str j ∧ Q (.bl (xor n (decide (i = j)))) H
theorem op_eqX0 (hu : X.A.units + 64 < cLine) : OpR X (compareOp .Eq) (rEqX X.K false) := by
  intro pins s σ H x y v u Q I rx ry h
  refine op_eqD hu pins s σ H x y v u Q I rx ry ?_
  obtain ⟨d, e, h1, h2, h3, h4, q⟩ := h
  exact ⟨d, e, h1, h2, h3, h4, by simpa using q⟩
theorem op_neX0 (hu : X.A.units + 64 < cLine) : OpR X (compareOp .NotEq) (rEqX X.K true) := by
  intro pins s σ H x y v u Q I rx ry h
  refine op_neD hu pins s σ H x y v u Q I rx ry ?_
  obtain ⟨d, e, h1, h2, h3, h4, q⟩ := h
  exact ⟨d, e, h1, h2, h3, h4, by simpa using q⟩
theorem v_str {i j : Str} : decide (V.str i = V.str j) = decide (i = j) := by
  by_cases e : i = j
  · subst e; simp
  · rw [decide_eq_false e, decide_eq_false (fun z => e (V.str.inj z))]
theorem op_eqX (hu : X.A.units + 64 < cLine) : OpR X (compareOp .Eq) (fun x y H Q => rEqX X.K false x y H Q ∨ rEqS false x y H Q) := OpR.or (op_eqX0 hu) (by
  intro pins s σ H x y v u Q I rx ry h
  refine op_eq pins s σ H x y v u Q I rx ry ?_
  obtain ⟨i, j, rfl, rfl, q⟩ := h
  exact ⟨rfl, by rw [v_str]; simpa using q⟩)
theorem op_neX (hu : X.A.units + 64 < cLine) : OpR X (compareOp .NotEq) (fun x y H Q => rEqX X.K true x y H Q ∨ rEqS true x y H Q) := OpR.or (op_neX0 hu) (by
  intro pins s σ H x y v u Q I rx ry h
  refine op_ne pins s σ H x y v u Q I rx ry ?_
  obtain ⟨i, j, rfl, rfl, q⟩ := h
  exact ⟨rfl, by rw [v_str]; simpa using q⟩)
theorem beq_dec {α : Type} [DecidableEq α] (a b : α) : (a == b) = decide (a = b) := by
  by_cases h : a = b <;> simp [h]
theorem nest_of {K : PySem.W.Frag} {H : Hp} {φ : List Pl} {S : Sto} {bs : Hp × List Pl} (o : StoOk K bs H φ S) : ∀ (ws : List U) (us : List (List U)) (xs : List V), nestU S ws = some us → datss us = true → Reps K H φ ws xs → DpAll K H xs (us.map fun u => .list (toDs u))
  | [], us, xs, e, _, r => by cases e; cases r; exact .nil
  | .ref a :: ws, us, xs, e, d, r => by
    rw [nestU] at e
    cases e1 : S[a]? with
    | none => rw [e1] at e; cases e
    | some ob =>
      rw [e1] at e
      cases e2 : nestU S ws with
      | none => simp [e2] at e
      | some vs =>
        simp [e2] at e
        subst e
        rw [datss, Bool.and_eq_true] at d
        cases r with
        | cons p q =>
          cases ob with
          | lst ls =>
            obtain ⟨b, ys, rfl, p1, a1, r1⟩ := o.list p e1
            exact .cons (.lst (SqL.of a1) (dps_of 60 ls ys d.1 r1)) (nest_of o ws vs _ e2 d.2 q)
  | .non :: _, _, _, e, _, _ => by cases e
  | .bl _ :: _, _, _, e, _, _ => by cases e
  | .int _ :: _, _, _, e, _, _ => by cases e
  | .str _ :: _, _, _, e, _, _ => by cases e
  | .tup _ :: _, _, _, e, _, _ => by cases e
  | .fz _ :: _, _, _, e, _, _ => by cases e
theorem cans_nest : ∀ (us : List (List U)), datss us = true → PyData.canLayAll0 (us.map fun u => PyData.list (toDs u)) = true ∧ PyData.depthAll (us.map fun u => PyData.list (toDs u)) ≤ 61
  | [], _ => ⟨rfl, Nat.zero_le _⟩
  | u :: us, h => by
    rw [datss, Bool.and_eq_true] at h
    have a := cans_of 60 u h.1
    have b := cans_nest us h.2
    refine ⟨by simp [PyData.canLayAll0, PyData.canLay0, a.1]; simpa using b.1, ?_⟩
    rw [List.map_cons]
    simp only [PyData.depthAll, PyData.depth]
    have := a.2
    have := b.2
    omega
theorem eqv_nest : ∀ (us vs : List (List U)), datss us = true → datss vs = true → PyData.eqvAll (us.map fun u => PyData.list (toDs u)) (vs.map fun u => PyData.list (toDs u)) = eqvss us vs
  | [], [], _, _ => rfl
  | [], _ :: _, _, _ => rfl
  | _ :: _, [], _, _ => rfl
  | u :: us, v :: vs, h, h' => by
    rw [datss, Bool.and_eq_true] at h h'
    show (PyData.eqvAll (toDs u) (toDs v) && PyData.eqvAll (us.map _) (vs.map _)) = (U.eqvs u v && eqvss us vs)
    rw [eqvs_of u v ⟨60, h.1⟩ ⟨60, h'.1⟩, eqv_nest us vs h.2 h'.2]
theorem shaped_nest {us : List (List U)} (h : datss us = true) : SeqAt.shaped (.list (us.map fun u => PyData.list (toDs u))) = true := by
  have z := cans_nest us h
  unfold SeqAt.shaped
  rw [show (PyData.list (us.map fun u => PyData.list (toDs u))).canLay0 = PyData.canLayAll0 (us.map fun u => PyData.list (toDs u)) from by simp [PyData.canLay0], z.1, Bool.true_and]
  refine decide_eq_true ?_
  have := z.2
  simp only [PyData.depth]; omega
theorem lnk_eq {K : PySem.W.Frag} {n : Bool} : LnkB K bs (fun x y H Q => rEqX K n x y H Q ∨ rEqS n x y H Q) (eqU n) := by
  intro H φ S x y v u Qu Q o rx ry h f
  have gen : x.dat 60 = true ∧ y.dat 60 = true ∧ Qu (.bl (xor n (x.eqv y))) S → rEqX K n v u H Q ∨ rEqS n v u H Q := fun ⟨h1, h2, q⟩ =>
    .inl ⟨toD x, toD y, dp_of 60 x v h1 rx, dp_of 60 y u h2 ry, shaped_of h1, shaped_of h2, f _ S φ _ H Ext.refl o (.bl _) (by rw [eqv_of x y ⟨60, h1⟩ ⟨60, h2⟩]; exact q)⟩
  have fi : ∀ i j : Int, x = .int i → y = .int j → Qu (.bl (xor n (decide (i = j)))) S → rEqX K n v u H Q ∨ rEqS n v u H Q := fun i j ex ey q => by
    subst ex; subst ey
    cases rx; cases ry
    exact .inl ⟨.int i, .int j, .int i, .int j, rfl, rfl, f _ S φ _ H Ext.refl o (.bl _) (by rw [show PyData.eqv (.int i) (.int j) = (i == j) from rfl, beq_dec]; exact q)⟩
  cases x <;> cases y <;> try exact gen h
  case int.int i j => exact fi i j rfl rfl h
  case str.str i j =>
    cases rx; cases ry
    exact .inr ⟨i, j, rfl, rfl, f _ S φ _ H Ext.refl o (.bl _) h⟩
  case ref.ref h1 h2 =>
    obtain ⟨p, q, e1, e2, ⟨d1, d2, z⟩ | ⟨us', vs', n1, n2, d1, d2, z⟩⟩ := h
    rotate_left
    · cases p with
      | lst us =>
        cases q with
        | lst vs =>
          obtain ⟨a, xs, rfl, p1, a1, r1⟩ := o.list rx e1
          obtain ⟨b, ys, rfl, p2, a2, r2⟩ := o.list ry e2
          exact .inl ⟨_, _, .lst (SqL.of a1) (nest_of o us us' xs n1 d1 r1), .lst (SqL.of a2) (nest_of o vs vs' ys n2 d2 r2), shaped_nest d1, shaped_nest d2, f _ S φ _ H Ext.refl o (.bl _) (by
            show Qu (.bl (xor n (PyData.eqvAll _ _))) S
            rw [eqv_nest us' vs' d1 d2]; exact z)⟩
    cases p with
    | lst us =>
      cases q with
      | lst vs =>
        obtain ⟨a, xs, rfl, p1, a1, r1⟩ := o.list rx e1
        obtain ⟨b, ys, rfl, p2, a2, r2⟩ := o.list ry e2
        have s1 := cans_of 60 us d1
        have s2 := cans_of 60 vs d2
        refine .inl ⟨.list (toDs us), .list (toDs vs), .lst (SqL.of a1) (dps_of 60 us xs d1 r1), .lst (SqL.of a2) (dps_of 60 vs ys d2 r2), ?_, ?_, f _ S φ _ H Ext.refl o (.bl _) (by
          rw [show PyData.eqv (.list (toDs us)) (.list (toDs vs)) = PyData.eqvAll (toDs us) (toDs vs) from rfl, eqvs_of us vs ⟨60, d1⟩ ⟨60, d2⟩]; exact z)⟩
        · unfold SeqAt.shaped
          rw [show (PyData.list (toDs us)).canLay0 = PyData.canLayAll0 (toDs us) from by simp [PyData.canLay0], s1.1, Bool.true_and]
          refine decide_eq_true ?_
          have := s1.2
          simp only [PyData.depth]; omega
        · unfold SeqAt.shaped
          rw [show (PyData.list (toDs vs)).canLay0 = PyData.canLayAll0 (toDs vs) from by simp [PyData.canLay0], s2.1, Bool.true_and]
          refine decide_eq_true ?_
          have := s2.2
          simp only [PyData.depth]; omega
end
end Ek

namespace Ek
open PySem PySem.Spec PyProof.Rows L2

section
variable {X : Cx} {bs : Hp × List Pl} {a b c e : Expr} {es : List Expr} {wa wb wc w : Sl → Sto → UQ → Prop} {wt wt' : Sl → Sto → BQ → Prop} {wes : Sl → Sto → (List U → Sto → Prop) → Prop} {pos : Pos}

theorem lnk_is {K : PySem.W.Frag} {n : Bool} : LnkB K bs (fun x y H Q => (y = .non ∧ Q (.bl (xor n (decide (x = .non)))) H) ∨ (∃ a b : Bool, x = .bl a ∧ y = .bl b ∧ Q (.bl (xor n (decide (a = b)))) H)) (isU n) := by
  intro H φ S x y v u Qu Q o rx ry h f
  cases y with
  | non =>
    rw [isU_n] at h
    have ex : decide (v = .non) = isN x := by cases rx <;> simp [isN]
    exact .inl ⟨by cases ry; rfl, by rw [ex]; exact f _ S φ _ H Ext.refl o (.bl _) h⟩
  | bl b =>
    cases x with
    | bl a => cases rx; cases ry; exact .inr ⟨_, _, rfl, rfl, f _ S φ _ H Ext.refl o (.bl _) h⟩
    | _ => exact h.elim
  | _ => cases x <;> exact h.elim
theorem op_is {X : Cx} : OpR X (compareOp .Is) (fun x y H Q => (y = .non ∧ Q (.bl (xor false (decide (x = .non)))) H) ∨ (∃ a b : Bool, x = .bl a ∧ y = .bl b ∧ Q (.bl (xor false (decide (a = b)))) H)) := by
  have h := OpR.or (X := X) op_isN op_isBl
  intro pins s σ H x y v u Q I rx ry q
  refine h pins s σ H x y v u Q I rx ry ?_
  simp only [Bool.false_xor] at q
  exact q
theorem op_isnt {X : Cx} : OpR X (compareOp .IsNot) (fun x y H Q => (y = .non ∧ Q (.bl (xor true (decide (x = .non)))) H) ∨ (∃ a b : Bool, x = .bl a ∧ y = .bl b ∧ Q (.bl (xor true (decide (a = b)))) H)) := by
  have h := OpR.or (X := X) op_notN op_notBl
  intro pins s σ H x y v u Q I rx ry q
  refine h pins s σ H x y v u Q I rx ry ?_
  simp only [Bool.true_xor] at q
  exact q
theorem flat_of {K : PySem.W.Frag} {H : Hp} {φ : List Pl} {u : U} {v : V} (h : flatU u = true) (r : Rep K H φ u v) : flatV v = true := by
  cases r <;> first
    | rfl
    | cases h
theorem flats_of {K : PySem.W.Frag} {H : Hp} {φ : List Pl} : ∀ {us : List U} {vs : List V}, us.all flatU = true → Reps K H φ us vs → vs.all flatV = true
  | [], _, _, r => by cases r; rfl
  | u :: us, _, h, r => by
    cases r with
    | cons p q =>
      rw [List.all_cons, Bool.and_eq_true] at h ⊢
      exact ⟨flat_of h.1 p, flats_of h.2 q⟩
theorem eqV_of {K : PySem.W.Frag} {H : Hp} {φ : List Pl} {u w : U} {v z : V} (h : flatU u = true) (g : flatU w = true) (r : Rep K H φ u v) (r' : Rep K H φ w z) : eqV v z = U.eqv u w := by
  cases u <;> try (cases h; done)
  all_goals (cases w <;> try (cases g; done))
  all_goals (cases r; cases r'; rfl)
theorem inV_of {K : PySem.W.Frag} {H : Hp} {φ : List Pl} {w : U} {z : V} (g : flatU w = true) (r' : Rep K H φ w z) : ∀ {us : List U} {vs : List V}, us.all flatU = true → Reps K H φ us vs → inV z vs = us.any fun y => U.eqv y w
  | [], _, _, r => by cases r; rfl
  | u :: us, _, h, r => by
    cases r with
    | cons p q =>
      rw [List.all_cons, Bool.and_eq_true] at h
      have := inV_of g r' h.2 q
      unfold inV at this ⊢
      rw [List.any_cons, List.any_cons, eqV_of h.1 g p r', this]
theorem anyD_of {w : U} (hw : w.dat 60 = true) : ∀ {us : List U}, U.dats 60 us = true → ((toDs us).any fun y => PyData.eqv y (toD w)) = us.any fun y => U.eqv y w
  | [], _ => rfl
  | u :: us, h => by
    rw [U.dats, Bool.and_eq_true] at h
    rw [toDs, List.any_cons, List.any_cons, eqv_of u w ⟨60, h.1⟩ ⟨60, hw⟩, anyD_of hw h.2]
theorem shapedL_of {us : List U} (h : U.dats 60 us = true) : SeqAt.shaped (.list (toDs us)) = true := by
  have s1 := cans_of 60 us h
  unfold SeqAt.shaped
  rw [show (PyData.list (toDs us)).canLay0 = PyData.canLayAll0 (toDs us) from by simp [PyData.canLay0], s1.1, Bool.true_and]
  refine decide_eq_true ?_
  have := s1.2
  simp only [PyData.depth]; omega
def rMem (K : PySem.W.Frag) (n : Bool) : R2 := fun x y H Q => (rIn K n x y H Q ∨ (∃ d ds, Dp K H x d ∧ (Dp K H y (.list ds) ∨ Dp K H y (.tuple ds)) ∧ SeqAt.shaped d = true ∧ SeqAt.shaped (.list ds) = true ∧ Q (.bl (xor n (ds.any fun z => PyData.eqv z d))) H)) ∨ ∃ (c : Nat) (z : Str), x = .str ⟨#[c]⟩ ∧ y = .str z ∧ Q (.bl (xor n (decide (c ∈ z.cps.toList)))) H
theorem op_mem (hu : X.A.units + 65 < cLine) : OpR X (compareOp .In) (rMem X.K false) := OpR.or (OpR.or op_in_seq (by
  intro pins s σ H x y v u Q I rx ry h
  obtain ⟨d, e, h1, h2 | h2, h3, h4, q⟩ := h
  · refine op_inD hu pins s σ H x y v u Q I rx ry ?_
    exact ⟨d, e, h1, h2, h3, h4, by simpa using q⟩
  · obtain ⟨as, r1⟩ := Dp.reads I d x v h1 rx
    obtain ⟨bs, r2⟩ := Dp.reads I (.tuple e) y u h2 ry
    exact SeqAt.in_tuple_reads r2 r1 (SeqAt.canLay_of_shaped h4) (SeqAt.canLay_of_shaped h3) (room_in_shaped h3 hu) ⟨.bl _, H, I, rfl, by simpa using q⟩)) (by
  intro pins s σ H x y v u Q I rx ry h
  refine op_inS pins s σ H x y v u Q I rx ry ?_
  obtain ⟨c, z, h1, h2, q⟩ := h
  exact ⟨c, z, h1, h2, by simpa using q⟩)
theorem op_nomem (hu : X.A.units + 65 < cLine) : OpR X (compareOp .NotIn) (rMem X.K true) := OpR.or (OpR.or op_notIn_seq (by
  intro pins s σ H x y v u Q I rx ry h
  obtain ⟨d, e, h1, h2 | h2, h3, h4, q⟩ := h
  · refine op_notInD hu pins s σ H x y v u Q I rx ry ?_
    exact ⟨d, e, h1, h2, h3, h4, by simpa using q⟩
  · obtain ⟨as, r1⟩ := Dp.reads I d x v h1 rx
    obtain ⟨bs, r2⟩ := Dp.reads I (.tuple e) y u h2 ry
    exact SeqAt.notIn_tuple_reads r2 r1 (SeqAt.canLay_of_shaped h4) (SeqAt.canLay_of_shaped h3) (room_in_shaped h3 hu) ⟨.bl _, H, I, rfl, by simpa using q⟩)) (by
  intro pins s σ H x y v u Q I rx ry h
  refine op_notInS pins s σ H x y v u Q I rx ry ?_
  obtain ⟨c, z, h1, h2, q⟩ := h
  exact ⟨c, z, h1, h2, by simpa using q⟩)
theorem lnk_mem {K : PySem.W.Frag} {n : Bool} : LnkB K bs (rMem K n) (memU n) := by
  intro H φ S x y v u Qu Q o rx ry h f
  have nx : ∀ (k : Bool), (if n = true then !k else k) = xor n k := fun k => by cases n <;> simp
  cases ry with
  | @tup us vs a p r =>
    obtain ⟨h1, q⟩ := (show ((flatU x = true ∧ us.all flatU = true) ∨ (x.dat 60 = true ∧ U.dats 60 us = true)) ∧ Qu (.bl (xor n (us.any fun y => U.eqv y x))) S by cases x <;> exact h)
    rcases h1 with ⟨h1, h2⟩ | ⟨h1, h2⟩
    · exact .inl (.inl ⟨a, vs, rfl, .inr p, flat_of h1 rx, flats_of h2 r, by rw [nx, inV_of h1 rx h2 r]; exact f _ S φ _ H Ext.refl o (.bl _) q⟩)
    · exact .inl (.inr ⟨toD x, toDs us, dp_of 60 x v h1 rx, .inr (.tup p (dps_of 60 us vs h2 r)), shaped_of h1, shapedL_of h2, by rw [anyD_of (us := us) h1 h2]; exact f _ S φ _ H Ext.refl o (.bl _) q⟩)
  | @ref hh a p =>
    obtain ⟨ob, e, h1, q⟩ := (show ∃ o, S[hh]? = some o ∧ ((flatU x = true ∧ o.items.all flatU = true) ∨ (x.dat 60 = true ∧ U.dats 60 o.items = true)) ∧ Qu (.bl (xor n (o.items.any fun y => U.eqv y x))) S by cases x <;> exact h)
    cases ob with
    | lst us =>
      obtain ⟨a', vs, ea, p1, a1, r1⟩ := o.list (.ref p) e
      cases ea
      rcases h1 with ⟨h1, h2⟩ | ⟨h1, h2⟩
      · exact .inl (.inl ⟨a, vs, rfl, .inl (SqL.of a1), flat_of h1 rx, flats_of h2 r1, by rw [nx, inV_of (us := us) h1 rx h2 r1]; exact f _ S φ _ H Ext.refl o (.bl _) q⟩)
      · exact .inl (.inr ⟨toD x, toDs us, dp_of 60 x v h1 rx, .inl (.lst (SqL.of a1) (dps_of 60 us vs h2 r1)), shaped_of h1, shapedL_of h2, by rw [anyD_of (us := us) h1 h2]; exact f _ S φ _ H Ext.refl o (.bl _) q⟩)
  | str z =>
    cases x <;> try exact h.elim
    rename_i w
    obtain ⟨c, rfl, q⟩ := h
    cases rx
    exact .inr ⟨c, z, rfl, rfl, f _ S φ _ H Ext.refl o (.bl _) q⟩
  | _ => cases x <;> exact h.elim
def isSet : Expr → Bool
  | .Set .. => true
  | _ => false
/-- the operator's rule and its link -/
structure CmOk (X : Cx) (bs : Hp × List Pl) (op : CmpOp) (c : Cm) where
  r : R2
  ok : OpR X (compareOp op) r
  lk : LnkB X.K bs r (cmU c)
  nm : ∀ b, isSet b = false → behindInMarks op b = false
def cOp : CmpOp → Option Cm
  | .Lt => some .lt | .LtE => some .le | .Gt => some .gt | .GtE => some .ge | .Eq => some .eq | .NotEq => some .ne | .Is => some .isn | .IsNot => some .notn | .In => some .mem | .NotIn => some .nomem
theorem cm_ok (hu : X.A.units + 65 < cLine) : ∀ {op : CmpOp} {c : Cm}, cOp op = some c → Nonempty (CmOk X bs op c)
  | .Lt, _, h => by cases h; exact ⟨⟨_, op_lt, lnk_cmI, fun b _ => nomark b⟩⟩
  | .LtE, _, h => by cases h; exact ⟨⟨_, op_le, lnk_cmI, fun b _ => nomark b⟩⟩
  | .Gt, _, h => by cases h; exact ⟨⟨_, op_gt, lnk_cmI, fun b _ => nomark b⟩⟩
  | .GtE, _, h => by cases h; exact ⟨⟨_, op_ge, lnk_cmI, fun b _ => nomark b⟩⟩
  | .Eq, _, h => by cases h; exact ⟨⟨_, op_eqX (by omega), lnk_eq, fun b _ => nomark b⟩⟩
  | .NotEq, _, h => by cases h; exact ⟨⟨_, op_neX (by omega), lnk_eq, fun b _ => nomark b⟩⟩
  | .Is, _, h => by cases h; exact ⟨⟨_, op_is, lnk_is, fun b _ => nomark b⟩⟩
  | .IsNot, _, h => by cases h; exact ⟨⟨_, op_isnt, lnk_is, fun b _ => nomark b⟩⟩
  | .In, _, h => by cases h; exact ⟨⟨_, op_mem hu, lnk_mem, fun b hb => by cases b <;> first | rfl | cases hb⟩⟩
  | .NotIn, _, h => by cases h; exact ⟨⟨_, op_nomem hu, lnk_mem, fun b hb => by cases b <;> first | rfl | cases hb⟩⟩
theorem qe_cmp {op : CmpOp} {c : Cm} (hsb : isSet b = false) (k : CmOk X bs op c) (ha : QE X bs a wa) (hb : QE X bs b wb) :
    QE X bs (.Compare a [op] [b] pos) (fun σ S Q => wa σ S fun x S1 => wb σ S1 fun y S2 => cmU c x y S2 fun t S3 => Q (.bl t) S3) :=
  pe_imp (pe_cmpR k.ok ha hb (k.nm b hsb)) (two (w := fun x y S Q => cmU c x y S fun t S3 => Q (.bl t) S3) k.lk)
theorem qt_cmp {op : CmpOp} {c : Cm} (hsb : isSet b = false) (k : CmOk X bs op c) (ha : QE X bs a wa) (hb : QE X bs b wb) :
    QT X bs (.Compare a [op] [b] pos) (fun σ S Q => wa σ S fun x S1 => wb σ S1 fun y S2 => cmU c x y S2 fun t S3 => truU (.bl t) S3 Q) :=
  pt_imp (pt_cmpR k.ok ha hb (k.nm b hsb)) fun σ H Q ⟨φ, σu, S, Qu, hs, ho, q, kk⟩ =>
    ⟨φ, σu, S, _, hs, ho, q, fun x S1 φ1 v1 H1 e1 o1 r1 q1 => ⟨φ1, σu, S1, _, hs.up e1, o1, q1, fun y S2 φ2 v2 H2 e2 o2 r2 q2 =>
      k.lk H2 φ2 S2 x y v1 v2 (fun z S3 => ∃ t, z = .bl t ∧ truU (.bl t) S3 Qu) _ o2 (r1.up e2) r2 (by
        have : (fun t S3 => truU (.bl t) S3 Qu) = (fun (t : Bool) S3 => ∃ t', U.bl t = .bl t' ∧ truU (.bl t') S3 Qu) := by
          funext t S3; simp
        rw [this] at q2; exact q2) fun z S3 φ3 v3 H3 e3 o3 r3 q3 => by
          obtain ⟨t, rfl, q3⟩ := q3
          cases r3
          exact ⟨t, rfl, kk t S3 φ3 H3 ((e1.trans e2).trans e3) o3 q3⟩⟩⟩
theorem chn_arm {op op' : CmpOp} {c c' : Cm} {σ : L2.St} {H : Hp} {Q : VK} (k : CmOk X bs op c) (k' : CmOk X bs op' c')
    (h : LE X.K bs (fun σ S Q => wa σ S fun x S1 => wb σ S1 fun y S2 => cmU c x y S2 fun t S3 => if t = true then wc σ S3 fun z S4 => cmU c' y z S4 fun t' S5 => Q (.bl t') S5 else Q (.bl false) S3) σ H Q) :
    tChain k.r k'.r (LE X.K bs wa) (LE X.K bs wb) (LE X.K bs wc) σ H Q := by
  obtain ⟨φ, σu, S, Qu, hs, ho, q, kk⟩ := h
  refine ⟨φ, σu, S, _, hs, ho, q, fun x S1 φ1 v1 H1 e1 o1 r1 q1 => ⟨φ1, σu, S1, _, hs.up e1, o1, q1, fun y S2 φ2 v2 H2 e2 o2 r2 q2 => ?_⟩⟩
  refine k.lk H2 φ2 S2 x y v1 v2 (fun z S3 => ∃ t, z = .bl t ∧ if t = true then wc σu S3 fun z S4 => cmU c' y z S4 fun t' S5 => Qu (.bl t') S5 else Qu (.bl false) S3) _ o2 (r1.up e2) r2 ?_ fun z S3 φ3 v3 H3 e3 o3 r3 q3 => ?_
  · have : (fun (t : Bool) S3 => if t = true then wc σu S3 fun z S4 => cmU c' y z S4 fun t' S5 => Qu (.bl t') S5 else Qu (.bl false) S3) =
        (fun (t : Bool) S3 => ∃ t2, U.bl t = .bl t2 ∧ if t2 = true then wc σu S3 fun z S4 => cmU c' y z S4 fun t' S5 => Qu (.bl t') S5 else Qu (.bl false) S3) := by
      funext t S3; simp
    rw [this] at q2; exact q2
  · obtain ⟨t, rfl, q3⟩ := q3
    cases r3
    refine ⟨t, rfl, ?_⟩
    cases t with
    | true =>
      rw [if_pos rfl] at q3 ⊢
      refine ⟨φ3, σu, S3, _, ((hs.up e1).up e2).up e3, o3, q3, fun z S4 φ4 v4 H4 e4 o4 r4 q4 => ?_⟩
      exact k'.lk H4 φ4 S4 y z v2 v4 Qu Q o4 ((r2.up e3).up e4) r4 q4 fun u S' φ' v H' e5 o5 r5 q5 => kk u S' φ' v H' ((((e1.trans e2).trans e3).trans e4).trans e5) o5 r5 q5
    | false =>
      rw [if_neg Bool.false_ne_true] at q3 ⊢
      exact kk _ S3 φ3 _ H3 ((e1.trans e2).trans e3) o3 (.bl false) q3
theorem last_nm {op op' : CmpOp} {c' : Cm} (hsc : isSet c = false) (k' : CmOk X bs op' c') : lastMarks [op, op'] [b, c] = false := by
  show behindInMarks op' c = false
  exact k'.nm c hsc
theorem qe_chn {op op' : CmpOp} {c1 c' : Cm} (hsc : isSet c = false) (k : CmOk X bs op c1) (k' : CmOk X bs op' c') (ha : QE X bs a wa) (hb : QE X bs b wb) (hc : QE X bs c wc) :
    QE X bs (.Compare a [op, op'] [b, c] pos) (fun σ S Q => wa σ S fun x S1 => wb σ S1 fun y S2 => cmU c1 x y S2 fun t S3 => if t = true then wc σ S3 fun z S4 => cmU c' y z S4 fun t' S5 => Q (.bl t') S5 else Q (.bl false) S3) :=
  pe_imp (pe_chain k.ok k'.ok ha hb hc (last_nm hsc k')) fun σ H Q h => chn_arm k k' h
theorem qt_chn {op op' : CmpOp} {c1 c' : Cm} (hsc : isSet c = false) (k : CmOk X bs op c1) (k' : CmOk X bs op' c') (ha : QE X bs a wa) (hb : QE X bs b wb) (hc : QE X bs c wc) :
    QT X bs (.Compare a [op, op'] [b, c] pos) (fun σ S Q => wa σ S fun x S1 => wb σ S1 fun y S2 => cmU c1 x y S2 fun t S3 => if t = true then wc σ S3 fun z S4 => cmU c' y z S4 fun t' S5 => truU (.bl t') S5 Q else truU (.bl false) S3 Q) :=
  pt_imp (pt_chain k.ok k'.ok ha hb hc (last_nm hsc k')) fun σ H Q h => by
    refine chn_arm k k' (Q := fun x H' => ∃ t, x = .bl t ∧ Q t H') ?_
    obtain ⟨φ, σu, S, Qu, hs, ho, q, kk⟩ := h
    refine ⟨φ, σu, S, fun z S3 => ∃ t, z = .bl t ∧ truU (.bl t) S3 Qu, hs, ho, ?_, fun z S3 φ3 v3 H3 e3 o3 r3 q3 => by
      obtain ⟨t, rfl, q3⟩ := q3
      cases r3
      exact ⟨t, rfl, kk t S3 φ3 H3 e3 o3 q3⟩⟩
    have e : ∀ (t : Bool) (S : Sto), (∃ t2, U.bl t = .bl t2 ∧ truU (.bl t2) S Qu) = truU (.bl t) S Qu := fun t S => by simp
    simp only [e]
    exact q
theorem tru_rep {K : PySem.W.Frag} {H : Hp} {φ : List Pl} {S : Sto} {x : U} {v : V} {Qu : BQ} (o : StoOk K bs H φ S) (r : Rep K H φ x v) (h : truU x S Qu) : ∃ t, TruV K v H t ∧ Qu t S := by
  cases r with
  | non => exact ⟨false, rfl, h⟩
  | bl t => exact ⟨t, rfl, h⟩
  | int i => exact ⟨_, rfl, h⟩
  | str s => exact ⟨_, ⟨big_line h.1, rfl⟩, h.2⟩
  | tup p q => exact ⟨_, .inr (.inl ⟨_, p, rfl⟩), by rw [q.isEmpty]; exact h⟩
  | fz p q => exact ⟨_, .inl ⟨_, p.sql, rfl⟩, by rw [q.isEmpty]; exact h⟩
  | fn p => exact h.elim
  | obj p => exact h.elim
  | @ref hh a p =>
    obtain ⟨ob, e, q⟩ := h
    cases ob with
    | lst us =>
      obtain ⟨a', vs, ea, _, e2, r2⟩ := o.list (.ref p) e
      cases ea
      exact ⟨_, .inl ⟨_, SqL.of e2, rfl⟩, by rw [r2.isEmpty]; exact q⟩
theorem qt_tru (he : ∀ whole, isTrue a X.env whole = (do let v ← whole; standAt a.pos; holding [v] (truthy v))) (ha : QE X bs a wa) : QT X bs a (fun σ S Q => wa σ S fun x S1 => truU x S1 Q) :=
  pt_imp (pt_truth ha he) fun σ H Q ⟨φ, σu, S, Qu, hs, ho, q, kk⟩ => ⟨φ, σu, S, _, hs, ho, q, fun x S1 φ1 v1 H1 e1 o1 r1 q1 =>
    let ⟨t, ht, q2⟩ := tru_rep o1 r1 q1
    ⟨t, ht, kk t S1 φ1 H1 e1 o1 q2⟩⟩
theorem qe_one {op} (h : QE X bs a wa) : QE X bs (.BoolOp op [a] pos) wa := pe_one h
theorem qe_and {rest : List Expr} (ha : QE X bs a wa) (hb : QE X bs (.BoolOp .And (b :: rest) pos) wb) : QE X bs (.BoolOp .And (a :: b :: rest) pos) (fun σ S Q => wa σ S fun x S1 => ∃ k, x = .bl k ∧ if k = true then wb σ S1 Q else Q (.bl false) S1) :=
  pe_imp (pe_and ha hb) fun σ H Q ⟨φ, σu, S, Qu, hs, ho, q, kk⟩ => ⟨φ, σu, S, _, hs, ho, q, fun x S1 φ1 v1 H1 e1 o1 r1 q1 => by
    obtain ⟨t, rfl, q1⟩ := q1
    cases r1
    refine ⟨t, rfl, ?_⟩
    cases t with
    | true =>
      rw [if_pos rfl] at q1 ⊢
      exact ⟨φ1, σu, S1, _, hs.up e1, o1, q1, fun u S' φ' v H' e2 o2 r2 q2 => kk u S' φ' v H' (e1.trans e2) o2 r2 q2⟩
    | false =>
      rw [if_neg Bool.false_ne_true] at q1 ⊢
      exact kk _ S1 φ1 _ H1 e1 o1 (.bl false) q1⟩
theorem qe_or {rest : List Expr} (ha : QE X bs a wa) (hb : QE X bs (.BoolOp .Or (b :: rest) pos) wb) : QE X bs (.BoolOp .Or (a :: b :: rest) pos) (fun σ S Q => wa σ S fun x S1 => ∃ k, x = .bl k ∧ if k = true then Q (.bl true) S1 else wb σ S1 Q) :=
  pe_imp (pe_or ha hb) fun σ H Q ⟨φ, σu, S, Qu, hs, ho, q, kk⟩ => ⟨φ, σu, S, _, hs, ho, q, fun x S1 φ1 v1 H1 e1 o1 r1 q1 => by
    obtain ⟨t, rfl, q1⟩ := q1
    cases r1
    refine ⟨t, rfl, ?_⟩
    cases t with
    | false =>
      rw [if_neg Bool.false_ne_true] at q1 ⊢
      exact ⟨φ1, σu, S1, _, hs.up e1, o1, q1, fun u S' φ' v H' e2 o2 r2 q2 => kk u S' φ' v H' (e1.trans e2) o2 r2 q2⟩
    | true =>
      rw [if_pos rfl] at q1 ⊢
      exact kk _ S1 φ1 _ H1 e1 o1 (.bl true) q1⟩
theorem qw_and1 (ha : QT X bs a wt) : PW X (.BoolOp .And [a] pos) (LT X.K bs wt) := pw_and1 ha
theorem qw_or1 (ha : QT X bs a wt) : PW X (.BoolOp .Or [a] pos) (LT X.K bs wt) := pw_or1 ha
theorem qw_and {rest : List Expr} (ha : QT X bs a wt) (hb : PW X (.BoolOp .And (b :: rest) pos) (LT X.K bs wt')) : PW X (.BoolOp .And (a :: b :: rest) pos) (LT X.K bs fun σ S Q => wt σ S fun k S1 => if k = true then wt' σ S1 Q else Q false S1) :=
  pw_imp (pw_and ha hb) fun σ H Q ⟨φ, σu, S, Qu, hs, ho, q, kk⟩ => ⟨φ, σu, S, _, hs, ho, q, fun t S1 φ1 H1 e1 o1 q1 => by
    cases t with
    | true =>
      rw [if_pos rfl] at q1 ⊢
      exact ⟨φ1, σu, S1, _, hs.up e1, o1, q1, fun u S' φ' H' e2 o2 q2 => kk u S' φ' H' (e1.trans e2) o2 q2⟩
    | false =>
      rw [if_neg Bool.false_ne_true] at q1 ⊢
      exact kk _ S1 φ1 H1 e1 o1 q1⟩
theorem qw_or {rest : List Expr} (ha : QT X bs a wt) (hb : PW X (.BoolOp .Or (b :: rest) pos) (LT X.K bs wt')) : PW X (.BoolOp .Or (a :: b :: rest) pos) (LT X.K bs fun σ S Q => wt σ S fun k S1 => if k = true then Q true S1 else wt' σ S1 Q) :=
  pw_imp (pw_or ha hb) fun σ H Q ⟨φ, σu, S, Qu, hs, ho, q, kk⟩ => ⟨φ, σu, S, _, hs, ho, q, fun t S1 φ1 H1 e1 o1 q1 => by
    cases t with
    | false =>
      rw [if_neg Bool.false_ne_true] at q1 ⊢
      exact ⟨φ1, σu, S1, _, hs.up e1, o1, q1, fun u S' φ' H' e2 o2 q2 => kk u S' φ' H' (e1.trans e2) o2 q2⟩
    | true =>
      rw [if_pos rfl] at q1 ⊢
      exact kk _ S1 φ1 H1 e1 o1 q1⟩
theorem qt_not (ha : QT X bs a wt) : QT X bs (.UnaryOp .Not a pos) (fun σ S Q => wt σ S fun k S1 => Q (!k) S1) :=
  pt_imp (pt_not ha) fun σ H Q ⟨φ, σu, S, Qu, hs, ho, q, kk⟩ => ⟨φ, σu, S, _, hs, ho, q, fun t S1 φ1 H1 e1 o1 q1 => kk _ S1 φ1 H1 e1 o1 q1⟩
theorem qe_not (ha : QE X bs a wa) : QE X bs (.UnaryOp .Not a pos) (fun σ S Q => wa σ S fun x S1 => truU x S1 fun k S2 => Q (.bl (!k)) S2) :=
  pe_imp (pe_notT ha) fun σ H Q ⟨φ, σu, S, Qu, hs, ho, q, kk⟩ => ⟨φ, σu, S, _, hs, ho, q, fun x S1 φ1 v1 H1 e1 o1 r1 q1 =>
    let ⟨t, ht, q2⟩ := tru_rep o1 r1 q1
    ⟨t, ht, kk _ S1 φ1 _ H1 e1 o1 (.bl _) q2⟩⟩
theorem qe_ife (hc : QT X bs c wt) (ha : QE X bs a wa) (hb : QE X bs b wb) : QE X bs (.IfExp c a b pos) (fun σ S Q => wt σ S fun k S1 => if k = true then wa σ S1 Q else wb σ S1 Q) :=
  pe_imp (pe_ifExp hc ha hb) fun σ H Q ⟨φ, σu, S, Qu, hs, ho, q, kk⟩ => ⟨φ, σu, S, _, hs, ho, q, fun t S1 φ1 H1 e1 o1 q1 => by
    cases t with
    | true =>
      rw [if_pos rfl] at q1 ⊢
      exact ⟨φ1, σu, S1, _, hs.up e1, o1, q1, fun u S' φ' v H' e2 o2 r2 q2 => kk u S' φ' v H' (e1.trans e2) o2 r2 q2⟩
    | false =>
      rw [if_neg Bool.false_ne_true] at q1 ⊢
      exact ⟨φ1, σu, S1, _, hs.up e1, o1, q1, fun u S' φ' v H' e2 o2 r2 q2 => kk u S' φ' v H' (e1.trans e2) o2 r2 q2⟩⟩
theorem qa_nil : QA X bs [] (fun _ S Q => Q [] S) := pa_imp pa_nil fun σ H Q ⟨φ, σu, S, Qu, hs, ho, q, kk⟩ => kk _ S φ _ H rfl Ext.refl ho .nil q
theorem qa_cons (ha : QE X bs a wa) (hr : QA X bs es wes) (hs : starEach (a :: es) X.env = (false, eval a X.env) :: starEach es X.env) : QA X bs (a :: es) (fun σ S Q => wa σ S fun u S1 => wes σ S1 fun us S2 => Q (u :: us) S2) :=
  pa_imp (pa_cons ha hr hs) fun σ H Q ⟨φ, σu, S, Qu, hs, ho, q, kk⟩ => ⟨φ, σu, S, _, hs, ho, q, fun x S1 φ1 v1 H1 e1 o1 r1 q1 => ⟨φ1, σu, S1, _, hs.up e1, o1, q1, fun us S2 φ2 vs H2 hl e2 o2 r2 q2 =>
    kk _ S2 φ2 _ H2 (by rw [List.length_cons, hl, List.length_cons]) (e1.trans e2) o2 (.cons (r1.up e2) r2) q2⟩⟩
def Fwd (K : PySem.W.Frag) (bs : Hp × List Pl) (r : List V → Hp → VK → Prop) (w : List U → Sto → UQ → Prop) : Prop :=
  ∀ H φ S us vs Qu Q, StoOk K bs H φ S → Reps K H φ us vs → w us S Qu → Fw K bs H φ Qu Q → r vs H Q
theorem args_to {K : PySem.W.Frag} {r : List V → Hp → VK → Prop} {w : List U → Sto → UQ → Prop} {n : Nat} (hw : Fwd K bs r w) {σ : L2.St} {H : Hp} {Q : VK} (h : LE K bs (fun σ S Q => wes σ S fun us S1 => w us S1 Q) σ H Q) : LA K bs n wes σ H fun vs H1 => r vs H1 Q := by
  obtain ⟨φ, σu, S, Qu, hs, ho, q, kk⟩ := h
  exact ⟨φ, σu, S, _, hs, ho, q, fun us S1 φ1 vs H1 _ e1 o1 r1 q1 => hw H1 φ1 S1 us vs Qu Q o1 r1 q1 fun u S' φ' v H' e2 o2 r2 q2 => kk u S' φ' v H' (e1.trans e2) o2 r2 q2⟩
theorem qe_tup {x1} (h : QA X bs es wes) (hl : es.length ≤ 1000) : QE X bs (.Tuple es x1 pos) (fun σ S Q => wes σ S fun us S1 => Q (.tup us) S1) :=
  pe_imp (pe_tup h) fun σ H Q ⟨φ, σu, S, Qu, hs, ho, q, kk⟩ => ⟨φ, σu, S, _, hs, ho, q, fun us S1 φ1 vs H1 hn e1 o1 r1 q1 =>
    ⟨by rw [← r1.length, hn]; exact big_line (Nat.le_trans hl (by decide)), Fw.tup (bs := bs) (Qu := Qu) (fun u S' φ' v H' e2 o2 r2 q2 => kk u S' φ' v H' (e1.trans e2) o2 r2 q2) o1 r1 q1⟩⟩
theorem qe_lst (h : QA X bs es wes) (hl : es.length ≤ 1000) : QE X bs (.List es pos) (fun σ S Q => wes σ S fun us S1 => Q (.ref S1.length) (S1 ++ [.lst us])) :=
  pe_imp (pe_lst h) fun σ H Q ⟨φ, σu, S, Qu, hs, ho, q, kk⟩ => ⟨φ, σu, S, _, hs, ho, q, fun us S1 φ1 vs H1 hn e1 o1 r1 q1 =>
    ⟨by rw [← r1.length, hn]; exact big_line (Nat.le_trans hl (by decide)), Fw.lst (bs := bs) (Qu := Qu) (fun u S' φ' v H' e2 o2 r2 q2 => kk u S' φ' v H' (e1.trans e2) o2 r2 q2) o1 r1 q1⟩⟩
theorem at_atI {us : List U} {i : Int} {u : U} (h : atU us i = some u) : atI us i = some u := by
  unfold atU at h
  unfold atI ixN
  by_cases h0 : 0 ≤ i
  · rw [if_pos h0] at h ⊢
    have hl : i.toNat < us.length := by
      rcases Nat.lt_or_ge i.toNat us.length with q | q
      · exact q
      · rw [List.getElem?_eq_none q] at h; cases h
    rw [if_pos (by omega)]
    exact h
  · rw [if_neg h0] at h ⊢
    by_cases h1 : -(us.length : Int) ≤ i
    · rw [if_pos h1] at h ⊢
      exact h
    · rw [if_neg h1] at h; cases h
theorem rep_at {K : PySem.W.Frag} {H : Hp} {φ : List Pl} {us : List U} {vs : List V} {i : Int} {u : U} (r : Reps K H φ us vs) (h : atU us i = some u) : ∃ v, atI vs i = some v ∧ Rep K H φ u v := by
  have h' := at_atI h
  unfold atI at h' ⊢
  rw [← r.length]
  cases e : ixN us.length i with
  | none => rw [e] at h'; cases h'
  | some j =>
    rw [e] at h'
    obtain ⟨v, h1, h2⟩ := r.get (i := j) h'
    exact ⟨v, h1, h2⟩
theorem lnk_ix {K : PySem.W.Frag} : Lnk2 K bs (rIx K) ixU := by
  intro H φ S x y v u Qu Q o rx ry h f
  cases x <;> cases y <;> try exact h.elim
  case tup.int us i =>
    cases ry
    cases rx with
    | @tup _ vs a p q =>
      obtain ⟨u, e, z⟩ := h
      obtain ⟨v, e2, r2⟩ := rep_at q e
      exact .inr (.inl ⟨a, vs, i, v, rfl, rfl, p, e2, f _ S φ _ H Ext.refl o r2 z⟩)
  case fz.int us i =>
    cases ry
    cases rx with
    | @fz _ vs a p q =>
      obtain ⟨u, e, z⟩ := h
      obtain ⟨v, e2, r2⟩ := rep_at q e
      exact .inl ⟨a, vs, i, v, rfl, rfl, p.sql, e2, f _ S φ _ H Ext.refl o r2 z⟩
  case ref.int hh i =>
    cases ry
    obtain ⟨ob, u, e1, e, z⟩ := h
    cases ob with
    | lst us =>
      obtain ⟨a, vs, rfl, p, ha, q⟩ := o.list rx e1
      obtain ⟨v, e2, r2⟩ := rep_at q e
      exact .inl ⟨a, vs, i, v, rfl, rfl, SqL.of ha, e2, f _ S φ _ H Ext.refl o r2 z⟩
  case str.int s i =>
    cases ry
    cases rx
    obtain ⟨hb, c, e, z⟩ := h
    refine .inr (.inr ⟨s, i, c, rfl, rfl, big_line hb, ?_, f _ S φ _ H Ext.refl o (.str _) z⟩)
    unfold atI ixN
    by_cases h0 : 0 ≤ i
    · rw [if_pos h0] at e ⊢
      have hl : i.toNat < s.cps.toList.length := by
        rcases Nat.lt_or_ge i.toNat s.cps.toList.length with q | q
        · exact q
        · rw [List.getElem?_eq_none q] at e; cases e
      rw [if_pos (by omega)]
      exact e
    · rw [if_neg h0] at e ⊢
      by_cases h1 : -(s.cps.toList.length : Int) ≤ i
      · rw [if_pos h1] at e ⊢
        exact e
      · rw [if_neg h1] at e; cases e
theorem qe_ix (hs : PlainIx b) (ha : QE X bs a wa) (hb : QE X bs b wb) : QE X bs (.Subscript a b pos) (fun σ S Q => wa σ S fun x S1 => wb σ S1 fun y S2 => ixU x y S2 Q) :=
  pe_imp (pe_ix ix_seq ha hb hs) (two lnk_ix)
/-- a bound that is left out, or an int -/
def partU : U → Option (Option Int)
  | .non => some none
  | .int i => some (some i)
  | _ => none
theorem cutB_eq {n d k : Nat} {u : U} (h : cutB n d u = some k) : ∃ p, partU u = some p ∧ HT.sIx n d p = k := by
  cases u <;> simp only [cutB] at h <;> cases h
  · exact ⟨none, rfl, rfl⟩
  · exact ⟨_, rfl, rfl⟩
def LO (K : PySem.W.Frag) (bs : Hp × List Pl) (w : Sl → Sto → UQ → Prop) : TO := fun σ H Q => ∃ φ σu S Qu, SlotR K H φ σu σ ∧ StoOk K bs H φ S ∧ w σu S Qu ∧
  ∀ u S' φ' H', Ext K H φ H' φ' → StoOk K bs H' φ' S' → Qu u S' → ∃ p, partU u = some p ∧ Q p H'
theorem po_imp {o : Option Expr} {t t' : TO} (h : PO X o t) (i : ∀ σ H Q, t' σ H Q → t σ H Q) : PO X o t' := ⟨fun pins s σ H Q I q => h.run pins s σ H Q I (i σ H Q q)⟩
theorem qo_none : PO X none (LO X.K bs fun _ S Q => Q .non S) := po_imp po_none fun σ H Q ⟨φ, σu, S, Qu, hs, ho, q, kk⟩ => by
  obtain ⟨p, e, q⟩ := kk _ S φ H Ext.refl ho q
  cases e
  exact q
def partV : V → Option (Option Int)
  | .non => some none
  | .int i => some (some i)
  | _ => none
theorem part_rep {K : PySem.W.Frag} {H : Hp} {φ : List Pl} {u : U} {v : V} {p : Option Int} (r : Rep K H φ u v) (h : partU u = some p) : partV v = some p := by
  cases u <;> simp only [partU] at h <;> cases h <;> cases r <;> rfl
theorem qo_some (ha : QE X bs a wa) : PO X (some a) (LO X.K bs wa) := by
  refine ⟨fun pins s σ H Q I h => ?_⟩
  obtain ⟨φ, σu, S, Qu, hs, ho, q, kk⟩ := h
  rw [evalPart_some]
  refine thn (ha.run pins s σ H (fun v H1 => ∃ p, partV v = some p ∧ Q p H1) I ⟨φ, σu, S, Qu, hs, ho, q, fun u S' φ' v H' e o r q => ?_⟩) fun u s1 ⟨x, H1, I1, r1, p, ep, q1⟩ => ?_
  · obtain ⟨p, e1, q2⟩ := kk u S' φ' H' e o q
    exact ⟨p, part_rep r e1, q2⟩
  · cases x <;> simp only [partV] at ep <;> cases ep
    · cases r1
      exact ⟨none, H1, I1, .none, q1⟩
    · obtain ⟨t, rfl⟩ := r1
      exact ⟨_, H1, I1, .int _ t, q1⟩
def rSlAll (K : PySem.W.Frag) : V → Option Int → Option Int → Hp → VK → Prop := fun x lo hi H Q => rSlA K x lo hi H Q ∨ rSlL K x lo hi H Q
theorem sl_all : L2.SlR X (rSlAll X.K) := L2.SlR.or sl_tupA sl_list
theorem cut_rep {K : PySem.W.Frag} {H : Hp} {φ : List Pl} {us : List U} {vs : List V} {a b : Nat} {lo hi : Option Int} (r : Reps K H φ us vs) (ha : HT.sIx us.length 0 lo = a) (hb : HT.sIx us.length us.length hi = b) :
    Reps K H φ ((us.drop a).take (b - a)) (cutV vs lo hi) := by
  unfold cutV
  rw [← r.length, ha, hb]
  exact (r.drop a).take _
theorem isP_part {u : U} (h : isP u = true) : ∃ p, partU u = some p := by
  cases u <;> first
    | exact ⟨_, rfl⟩
    | cases h
theorem lnk_sl {K : PySem.W.Frag} {H : Hp} {φ : List Pl} {S : Sto} {x l h : U} {v : V} {p q : Option Int} {Qu : UQ} {Q : VK} (o : StoOk K bs H φ S) (rx : Rep K H φ x v) (hp : partU l = some p) (hq : partU h = some q)
    (z : slU x l h S Qu) (f : Fw K bs H φ Qu Q) : rSlAll K v p q H Q := by
  have key : ∀ {n d a : Nat} {u : U} {p : Option Int}, partU u = some p → cutB n d u = some a → HT.sIx n d p = a := fun {n d a u p} h1 h2 => by
    obtain ⟨p', e1, e2⟩ := cutB_eq h2
    rw [h1] at e1
    cases e1
    exact e2
  cases rx with
  | @tup us vs a r1 r2 =>
    obtain ⟨i, j, e1, e2, z⟩ := z
    have c1 := key hp e1
    have c2 := key hq e2
    have rc := cut_rep r2 c1 c2
    refine .inl ⟨a, vs, rfl, r1, fun w => ?_, fun _ => Fw.tup f o rc z⟩
    rw [← r2.length, c1, c2] at w
    obtain ⟨w1, w2⟩ := w
    subst w1
    rw [w2] at z
    have e : List.take (us.length - 0) (us.drop 0) = us := by simp
    rw [e] at z
    exact f _ S φ _ H Ext.refl o (.tup r1 r2) z
  | @fz us vs a r1 r2 =>
    obtain ⟨i, j, e1, e2, z⟩ := z
    exact .inr ⟨a, vs, rfl, r1.sql, Fw.lst f o (cut_rep r2 (key hp e1) (key hq e2)) z⟩
  | @ref hh a r1 =>
    obtain ⟨ob, i, j, e0, e1, e2, z⟩ := z
    cases ob with
    | lst us =>
      obtain ⟨a', vs, ea, p1, ha, r2⟩ := o.list (.ref r1) e0
      cases ea
      exact .inr ⟨a, vs, rfl, SqL.of ha, Fw.lst f o (cut_rep r2 (key hp e1) (key hq e2)) z⟩
  | _ => exact z.elim
theorem qe_sl {lo hi : Option Expr} {p2 : Pos} {wl wh : Sl → Sto → UQ → Prop} (ha : QE X bs a wa) (hl : PO X lo (LO X.K bs wl)) (hu : PO X hi (LO X.K bs wh)) :
    QE X bs (.Subscript a (.Slice lo hi none p2) pos) (fun σ S Q => wa σ S fun x S1 => wl σ S1 fun l S2 => isP l = true ∧ wh σ S2 fun h S3 => isP h = true ∧ slU x l h S3 Q) :=
  pe_imp (pe_slice sl_all ha hl hu) fun σ H Q ⟨φ, σu, S, Qu, hs, ho, q, kk⟩ => ⟨φ, σu, S, _, hs, ho, q, fun x S1 φ1 v1 H1 e1 o1 r1 q1 =>
    ⟨φ1, σu, S1, _, hs.up e1, o1, q1, fun l S2 φ2 H2 e2 o2 q2 => by
      obtain ⟨i1, q2⟩ := q2
      obtain ⟨p, hp⟩ := isP_part i1
      refine ⟨p, hp, φ2, σu, S2, _, (hs.up e1).up e2, o2, q2, fun h S3 φ3 H3 e3 o3 q3 => ?_⟩
      obtain ⟨i2, q3⟩ := q3
      obtain ⟨p', hp'⟩ := isP_part i2
      exact ⟨p', hp', lnk_sl o3 ((r1.up e2).up e3) hp hp' q3 fun u S' φ' v H' e4 o4 r4 q4 => kk u S' φ' v H' (((e1.trans e2).trans e3).trans e4) o4 r4 q4⟩⟩⟩
theorem fw_abs {K : PySem.W.Frag} : Fwd K bs (fun xs H Q => ∃ i, xs = [.int i] ∧ Q (.int (if i < 0 then -i else i)) H) (biU .abs) := by
  intro H φ S us vs Qu Q o r h f
  match us, r, h with
  | [.int i], .cons (.int _) .nil, h => exact ⟨i, rfl, f.int o h⟩
theorem fw_len {K : PySem.W.Frag} : Fwd K bs (fun xs H Q => ∃ x n, xs = [x] ∧ LenV K x H n ∧ Q (.int n) H) (biU .len) := by
  intro H φ S us vs Qu Q o r h f
  match us, r, h with
  | [x], .cons rx .nil, h =>
    obtain ⟨n, e, z⟩ := h
    refine ⟨_, n, rfl, ?_, f.int o z⟩
    cases rx with
    | tup p q => cases e; exact .inr ⟨_, p, q.length⟩
    | fz p q => cases e; exact .inl ⟨_, p.sql, q.length⟩
    | @ref hh a p =>
      cases e1 : S[hh]? with
      | none => simp [lenU, e1] at e
      | some ob =>
        cases ob with
        | lst us =>
          obtain ⟨a', vs, ea, p1, ha, r2⟩ := o.list (.ref p) e1
          cases ea
          simp [lenU, e1, Ob.items] at e
          exact .inl ⟨_, SqL.of ha, by rw [← r2.length]; exact e.symm⟩
    | str s =>
      simp only [lenU] at e
      split at e
      · cases e; exact ⟨big_line (by assumption), rfl⟩
      · cases e
    | _ => simp [lenU] at e
theorem fw_min {K : PySem.W.Frag} : Fwd K bs (fun xs H Q => ∃ i j, xs = [.int i, .int j] ∧ Q (.int (if j < i then j else i)) H) (biU .min2) := by
  intro H φ S us vs Qu Q o r h f
  match us, r, h with
  | [.int i, .int j], .cons (.int _) (.cons (.int _) .nil), h => exact ⟨i, j, rfl, f.int o h⟩
theorem fw_max {K : PySem.W.Frag} : Fwd K bs (fun xs H Q => ∃ i j, xs = [.int i, .int j] ∧ Q (.int (if j > i then j else i)) H) (biU .max2) := by
  intro H φ S us vs Qu Q o r h f
  match us, r, h with
  | [.int i, .int j], .cons (.int _) (.cons (.int _) .nil), h => exact ⟨i, j, rfl, f.int o h⟩
theorem fw_int {K : PySem.W.Frag} : Fwd K bs (fun xs H Q => (∃ i, xs = [.int i] ∧ Q (.int i) H) ∨ ∃ k, xs = [.bl k] ∧ Q (.int (if k then 1 else 0)) H) (biU .int1) := by
  intro H φ S us vs Qu Q o r h f
  match us, r, h with
  | [.int i], .cons (.int _) .nil, h => exact .inl ⟨i, rfl, f.int o h⟩
  | [.bl b], .cons (.bl _) .nil, h => exact .inr ⟨b, rfl, f.int o h⟩
theorem items_rep {K : PySem.W.Frag} {H : Hp} {φ : List Pl} {S : Sto} {x : U} {v : V} {us : List U} (o : StoOk K bs H φ S) (r : Rep K H φ x v) (e : itemsU x S = some us) :
    ∃ a vs, v = .ref a ∧ Reps K H φ us vs ∧ ((SqT K H a vs ∧ x = .tup us) ∨ SqL K H a vs) := by
  cases r with
  | tup p q => cases e; exact ⟨_, _, rfl, q, .inl ⟨p, rfl⟩⟩
  | fz p q => cases e; exact ⟨_, _, rfl, q, .inr p.sql⟩
  | @ref hh a p =>
    cases e1 : S[hh]? with
    | none => simp [itemsU, e1] at e
    | some ob =>
      cases ob with
      | lst ws =>
        obtain ⟨a', vs, ea, p1, ha, r2⟩ := o.list (.ref p) e1
        cases ea
        simp [itemsU, e1, Ob.items] at e
        subst e
        exact ⟨a, vs, rfl, r2, .inr (SqL.of ha)⟩
  | _ => simp [itemsU] at e
theorem fw_tup1 {K : PySem.W.Frag} : Fwd K bs (fun xs H Q => ∃ p ys, xs = [.ref p] ∧ ((SqL K H p ys ∧ ∀ l, H l = none → Q (.ref l) (upd H l (.tup ys))) ∨ (SqT K H p ys ∧ Q (.ref p) H))) (biU .tup1) := by
  intro H φ S us vs Qu Q o r h f
  match us, r, h with
  | [x], .cons rx .nil, h =>
    obtain ⟨ws, e, z⟩ := h
    obtain ⟨a, vs, rfl, rr, q⟩ := items_rep o rx e
    rcases q with ⟨q, ex⟩ | q
    · exact ⟨a, vs, rfl, .inr ⟨q, f _ S φ _ H Ext.refl o (.tup q rr) z⟩⟩
    · exact ⟨a, vs, rfl, .inl ⟨q, Fw.tup f o rr z⟩⟩
theorem fw_lst1 {K : PySem.W.Frag} : Fwd K bs (fun xs H Q => ∃ p ys, xs = [.ref p] ∧ (SqL K H p ys ∨ SqT K H p ys) ∧ ∀ l, H l = none → Q (.ref l) (upd H l (.lst ys))) (biU .lst1) := by
  intro H φ S us vs Qu Q o r h f
  match us, r, h with
  | [x], .cons rx .nil, h =>
    obtain ⟨ws, e, z⟩ := h
    obtain ⟨a, vs, rfl, rr, q⟩ := items_rep o rx e
    refine ⟨a, vs, rfl, ?_, Fw.lst f o rr z⟩
    rcases q with ⟨q, ex⟩ | q
    · exact .inr q
    · exact .inl q
theorem bls_rep {K : PySem.W.Frag} {H : Hp} {φ : List Pl} : ∀ {us : List U} {vs : List V} {bs : List Bool}, Reps K H φ us vs → blsU us = some bs → vs = bs.map V.bl
  | [], _, _, r, e => by cases r; cases e; rfl
  | .bl b :: us, _, _, r, e => by
    cases r with
    | cons p q =>
      cases p
      simp only [blsU, Option.map_eq_some_iff] at e
      obtain ⟨cs, e1, rfl⟩ := e
      rw [bls_rep q e1]; rfl
  | .non :: us, _, _, _, e => by cases e
  | .int _ :: us, _, _, _, e => by cases e
  | .str _ :: us, _, _, _, e => by cases e
  | .tup _ :: us, _, _, _, e => by cases e
  | .ref _ :: us, _, _, _, e => by cases e
  | .fz _ :: us, _, _, _, e => by cases e
theorem ints_rep {K : PySem.W.Frag} {H : Hp} {φ : List Pl} : ∀ {us : List U} {vs : List V} {bs : List Int}, Reps K H φ us vs → intsU us = some bs → vs = bs.map V.int
  | [], _, _, r, e => by cases r; cases e; rfl
  | .int b :: us, _, _, r, e => by
    cases r with
    | cons p q =>
      cases p
      simp only [intsU, Option.map_eq_some_iff] at e
      obtain ⟨cs, e1, rfl⟩ := e
      rw [ints_rep q e1]; rfl
  | .non :: us, _, _, _, e => by cases e
  | .bl _ :: us, _, _, _, e => by cases e
  | .str _ :: us, _, _, _, e => by cases e
  | .tup _ :: us, _, _, _, e => by cases e
  | .ref _ :: us, _, _, _, e => by cases e
  | .fz _ :: us, _, _, _, e => by cases e
theorem fw_all {K : PySem.W.Frag} : Fwd K bs (rAll K) (biU .all) := by
  intro H φ S us vs Qu Q o r h f
  match us, r, h with
  | [.ref hh], .cons rx .nil, h =>
    obtain ⟨⟨ws⟩, cs, e1, e2, z⟩ := h
    obtain ⟨a, vs, rfl, _, ha, rr⟩ := o.list rx e1
    have ev := bls_rep rr e2
    subst ev
    exact ⟨a, cs, rfl, SqL.of ha, f _ S φ _ H Ext.refl o (.bl _) z⟩
theorem vals_int_at : ∀ {ns : List Int} {its : List Value} {i : Nat} {v : Value}, Vals (ns.map V.int) its → its[i]? = some v → ∃ t, v = .int (ns.getD i 0) t
  | [], its, i, v, h, e => by
    rw [List.map_nil] at h
    cases h
    cases e
  | n :: ns, its, i, v, h, e => by
    rw [List.map_cons] at h
    cases h with
    | cons p q =>
      cases i with
      | zero =>
        cases e
        obtain ⟨t, ht⟩ := p
        exact ⟨t, ht⟩
      | succ i => exact vals_int_at (i := i) q e
theorem any_rangeI : ∀ ns : List Int, (List.range ns.length).any (fun i => ns.getD i 0 != 0) = ns.any fun i => !decide (i = 0)
  | [] => rfl
  | b :: ns => by
    rw [List.length_cons, List.range_succ_eq_map, List.any_cons, List.any_map, List.any_cons, ← any_rangeI ns]
    congr 1
/-- any of a list of bools, of a tuple of ints -/
def rAny2 (K : PySem.W.Frag) : List V → Hp → VK → Prop := fun vs H Q => rAny K vs H Q ∨ ∃ (a : Addr) (ns : List Int), vs = [V.ref a] ∧ SqT K H a (ns.map V.int) ∧ Q (.bl (ns.any fun i => !decide (i = 0))) H
theorem cr_any2 {X : Cx} (hc : X.calm = true) : CallR X (.builtin "any") (rAny2 X.K) := by
  intro pins s σ H vs us Q I r h
  rcases h with h | h
  · exact cr_any hc pins s σ H vs us Q I r h
  obtain ⟨a, ns, rfl, hs, q⟩ := h
  obtain ⟨its, rv, ht, _⟩ := I.tuple hs
  rw [Vals.ref1 r]
  have hne : a ≠ s.heap.objs.size := by
    obtain ⟨_, e, _⟩ := ht
    exact Nat.ne_of_lt (Heap.lt_size e)
  have htu : s.heap.IsTuple a its.toArray := ht
  refine call_any_walk (wpAny_pyIter_tuple htu ?_)
  have st : (s.heap.push { cls := .type "tuple_iterator", data := .fields #[.ref a, .int 0 0] }).IsTupleIter s.heap.objs.size a 0 ∧ (s.heap.push { cls := .type "tuple_iterator", data := .fields #[.ref a, .int 0 0] }).IsTuple a its.toArray :=
    ⟨⟨_, Heap.get?_push_size _ rfl, rfl, rfl⟩, by
      obtain ⟨o, e, e2⟩ := htu
      exact ⟨o, Heap.get?_push_of_some _ e, e2⟩⟩
  refine ⟨_, _, _, _, _, _, fun i => ns.getD i 0 != 0, rfl, Walks.tuple (A := X.A.in1) (I.ok.hd hc) _ a hne its.toArray, st, fun i v s' Q' E' hv hq => ?_, fun h' tk hk => ?_⟩
  · obtain ⟨t, rfl⟩ := vals_int_at rv (show its[i]? = some v by simpa using hv)
    exact truthy_int hq
  · refine ⟨.bl _, H, I.kept fun b o eo => hk b o (fun hmem => ?_) (Heap.get?_push_of_some _ eo), ?_, q⟩
    · rcases List.mem_cons.mp hmem with e1 | hmem
      · exact absurd (e1 ▸ Heap.lt_size eo) (Nat.lt_irrefl _)
      · cases hmem
    · show Value.bool _ = Value.bool _
      have e := rv.length
      rw [List.length_map] at e
      rw [← any_rangeI, List.size_toArray, ← e]
theorem fw_any {K : PySem.W.Frag} : Fwd K bs (rAny2 K) (biU .any) := by
  intro H φ S us vs Qu Q o r h f
  match us, r, h with
  | [.ref hh], .cons rx .nil, h =>
    obtain ⟨⟨ws⟩, cs, e1, e2, z⟩ := h
    obtain ⟨a, vs, rfl, _, ha, rr⟩ := o.list rx e1
    have ev := bls_rep rr e2
    subst ev
    exact .inl ⟨a, cs, rfl, SqL.of ha, f _ S φ _ H Ext.refl o (.bl _) z⟩
  | [.tup ws], .cons rx .nil, h =>
    obtain ⟨cs, e2, z⟩ := h
    cases rx with
    | tup p q =>
      have ev := ints_rep q e2
      subst ev
      exact .inr ⟨_, cs, rfl, p, f _ S φ _ H Ext.refl o (.bl _) z⟩
theorem fw_sum {K : PySem.W.Frag} : Fwd K bs (rSum K) (biU .sum) := by
  intro H φ S us vs Qu Q o r h f
  match us, r, h with
  | [.ref hh], .cons rx .nil, h =>
    obtain ⟨⟨ws⟩, cs, e1, e2, z⟩ := h
    obtain ⟨a, vs, rfl, _, ha, rr⟩ := o.list rx e1
    have ev := ints_rep rr e2
    subst ev
    exact ⟨a, cs, rfl, SqL.of ha, f.int o z⟩
theorem fw_max1 {K : PySem.W.Frag} : Fwd K bs (rMax K) (biU .max1) := by
  intro H φ S us vs Qu Q o r h f
  match us, r, h with
  | [.ref hh], .cons rx .nil, h =>
    obtain ⟨⟨ws⟩, cs, e1, e2, h0, z⟩ := h
    obtain ⟨a, vs, rfl, _, ha, rr⟩ := o.list rx e1
    have ev := ints_rep rr e2
    subst ev
    exact ⟨a, cs, rfl, SqL.of ha, h0, fun m h1 h2 => f.int o (z m h1 h2)⟩
theorem fw_min1 {K : PySem.W.Frag} : Fwd K bs (rMin K) (biU .min1) := by
  intro H φ S us vs Qu Q o r h f
  match us, r, h with
  | [.ref hh], .cons rx .nil, h =>
    obtain ⟨⟨ws⟩, cs, e1, e2, h0, z⟩ := h
    obtain ⟨a, vs, rfl, _, ha, rr⟩ := o.list rx e1
    have ev := ints_rep rr e2
    subst ev
    exact ⟨a, cs, rfl, SqL.of ha, h0, fun m h1 h2 => f.int o (z m h1 h2)⟩
section
variable {prog : Program} {w : World} {A : Around} {E : Value → Shared → Prop} {s : Shared}
theorem collect_tup {l : Addr} {vs : List Value} {Q : List Value → Shared → Prop} (hl : s.heap.IsTuple l vs.toArray)
    (h : Q vs { s with heap := (s.heap.push (seqObj "list" #[] 0)).update s.heap.objs.size (Obj.mapSeq (· ++ vs.toArray)) }) (hsz : vs.length ≤ sizeLine := by size_fits) :
    wpAny (model prog w) A (collect (.ref l)) Q E s := by
  obtain ⟨o, ho, hc, n, hd⟩ := id hl
  unfold collect
  refine wpAny_bind (wpAny_runValue (codeAny_builtin entry_proto_collect' ?_))
  show wpAny _ _ (do again (.builtin "list.__iadd__" ⟨[← newList [], .ref l], []⟩)) _ _ s
  refine wpAny_bind (wpAny_newList (wpAny_pure ⟨Code.quiet_builtin _ (by decide +kernel), codeAny_builtin entry_list_iadd' ?_⟩))
  show wpAny _ _ (Builtin.List.listExtendWith (.ref s.heap.objs.size) (.ref l) (.ref s.heap.objs.size)) _ _ { s with heap := s.heap.push (seqObj "list" #[] 0) }
  unfold Builtin.List.listExtendWith
  have ho' : (s.heap.push (seqObj "list" #[] 0)).get? l = some o := Heap.get?_push_of_some _ ho
  refine wpAny_bind (wpAny_typeOf (T := "tuple") ⟨o, ho', hc⟩ ?_)
  have ht : (Value.type "tuple" == Value.type "tuple") = true := by rfl
  rw [if_pos (by rw [ht]; simp)]
  refine wpAny_bind (listItems_at ho' hd ?_)
  refine wpAny_bind (listItems_at (xs := #[]) (n := 0) (Heap.get?_push_size _ rfl) rfl ?_)
  rw [if_neg (by simp)]
  refine wpAny_bind (listUpdate_at (xs := #[]) (n := 0) (Heap.get?_push_size _ rfl) rfl ?_ (Nat.zero_le _) (by show (#[] ++ vs.toArray).size ≤ sizeLine + 1; simp only [Array.size_append, List.size_toArray, List.length_nil]; omega))
  refine wpAny_pure ?_
  show wpAny (model prog w) A (do
      let o ← load s.heap.objs.size
      match o.data with
      | .seq xs _ => pure xs.toList
      | _ => unsupported "internal:collect") Q E { s with heap := (s.heap.push (seqObj "list" #[] 0)).update s.heap.objs.size (Obj.mapSeq (· ++ vs.toArray)) }
  refine wpAny_bind (wpAny_load (get?_update_seq (Heap.get?_push_size _ rfl) _) ?_)
  show wpAny _ _ (pure ((#[] : Array Value) ++ vs.toArray).toList) Q E _
  rw [show ((#[] : Array Value) ++ vs.toArray).toList = vs by simp]
  exact wpAny_pure h
theorem sorted_tup {l : Addr} {vs : List Value} {ns : List Int} {Q : Value → Shared → Prop} (hl : s.heap.IsTuple l vs.toArray) (hI : IntsAre vs ns) (h64 : vs.length < 64)
    (h : ∀ (out : Array Value) (ns' : List Int), IntsAre out.toList ns' → ns'.Perm ns → ns'.Pairwise (· ≤ ·) → Q (.ref (s.heap.objs.size + 1)) { s with heap := sortedAll s.heap vs out }) :
    wpAny (model prog w) A (call (.builtin "sorted") [.ref l]) Q E s := by
  refine Calls.call_function_entry kind_sorted plain_sorted entry_sorted (args_sorted1 _) ?_
  unfold Builtin.«sorted»
  refine wpAny_bind (m := checkCount "sorted" 1 1 _) (wpAny_pure ?_)
  refine wpAny_bind (collect_tup hl ?_ (small64 h64))
  refine wpAny_bind (wpAny_newList ?_)
  have hsz : ((s.heap.push (seqObj "list" #[] 0)).update s.heap.objs.size (Obj.mapSeq (· ++ vs.toArray))).objs.size = s.heap.objs.size + 1 := by
    rw [Heap.size_update, size_push']
  have hoL : (((s.heap.push (seqObj "list" #[] 0)).update s.heap.objs.size (Obj.mapSeq (· ++ vs.toArray))).push (seqObj "list" vs.toArray 0)).get? (s.heap.objs.size + 1) = some (seqObj "list" vs.toArray 0) := by
    rw [← hsz]; exact Heap.get?_push_size _ rfl
  show wpAny _ _ _ _ _ { s with heap := ((s.heap.push (seqObj "list" #[] 0)).update s.heap.objs.size (Obj.mapSeq (· ++ vs.toArray))).push (seqObj "list" vs.toArray 0) }
  rw [hsz]
  refine wpAny_bind (wpAny_holding (wpAny_call_entry slot_list_sort ⟨_, hoL, rfl⟩ entry_list_sort (list_sort_tree hoL hI h64 fun out ns' a1 a2 a3 => ⟨_, rfl, ?_⟩) (args_list_sort _)))
  exact wpAny_pure ⟨_, rfl, h out ns' a1 a2 a3⟩
end
def rSort (K : PySem.W.Frag) : List V → Hp → VK → Prop := fun vs H Q => ∃ (a : Addr) (ns : List Int), vs = [V.ref a] ∧ (SqL K H a (ns.map V.int) ∨ SqT K H a (ns.map V.int)) ∧ ns.length < 64 ∧
  ∀ (ns' : List Int) (p : Addr), ns'.Perm ns → ns'.Pairwise (· ≤ ·) → H p = none → Q (.ref p) (upd H p (.lst (ns'.map V.int)))
theorem cr_sort {X : Cx} : CallR X (.builtin "sorted") (rSort X.K) := by
  intro pins s σ H vs us Q I r h
  obtain ⟨a, ns, rfl, hs, h64, q⟩ := h
  rcases hs with hs | hs
  · exact cr_sorted pins s σ H _ us Q I r ⟨a, ns, rfl, hs, h64, q⟩
  · obtain ⟨its, rv, hl, _⟩ := I.tuple hs
    rw [Vals.ref1 r]
    have hi := rv.ints
    refine sorted_tup hl hi (by rw [hi.length]; exact h64) fun out ns' h1 h2 h3 => ?_
    obtain ⟨ep, he'⟩ := PyProof.Rows.sortedAll_at s.heap its out
    have hlen : (ns'.map V.int).length ≤ sizeLine := by rw [List.length_map, h2.length_eq]; exact small64 h64
    exact ⟨.ref _, upd H (s.heap.objs.size + 1) (.lst (ns'.map V.int)), I.laid (t' := s.toks) (fun _ _ => PyProof.Rows.sortedAll_old) (Nat.le_succ _) ⟨hlen, out.toList, ep, vals_of_ints h1, he'⟩, rfl, q ns' _ h2 h3 (I.hok.fresh (Nat.le_succ _))⟩
theorem reps_intsI {K : PySem.W.Frag} {H : Hp} {φ : List Pl} : ∀ l : List Int, Reps K H φ (l.map U.int) (l.map V.int)
  | [] => .nil
  | _ :: l => .cons (.int _) (reps_intsI l)
theorem fw_sort1 {K : PySem.W.Frag} : Fwd K bs (rSort K) (biU .sort1) := by
  intro H φ S us vs Qu Q o r h f
  match us, r, h with
  | [x], .cons rx .nil, h =>
    obtain ⟨ws, ns, e1, e2, h0, z⟩ := h
    obtain ⟨a, vs, rfl, rr, q⟩ := items_rep o rx e1
    have ev := ints_rep rr e2
    subst ev
    refine ⟨a, ns, rfl, ?_, h0, fun ns' p h1 h2 hp => Fw.lst f o (reps_intsI ns') (z ns' h1 h2) p hp⟩
    rcases q with ⟨q, ex⟩ | q
    · exact .inr q
    · exact .inl q
theorem reps_intsN {K : PySem.W.Frag} {H : Hp} {φ : List Pl} {f : Nat → Int} : ∀ l : List Nat, Reps K H φ (l.map fun i => U.int (f i)) (l.map fun i => V.int (f i))
  | [] => .nil
  | _ :: l => .cons (.int _) (reps_intsN l)
theorem reps_strs {K : PySem.W.Frag} {H : Hp} {φ : List Pl} : ∀ l : List Str, Reps K H φ (l.map U.str) (l.map V.str)
  | [] => .nil
  | _ :: l => .cons (.str _) (reps_strs l)
theorem lnk_lrange {K : PySem.W.Frag} : ∀ H φ S x v Qu Q, StoOk K bs H φ S → Rep K H φ x v → biU .lrange [x] S Qu → Fw K bs H φ Qu Q → (fun (x : V) (H1 : Hp) (Q : VK) => ∃ n, x = .int n ∧ RgOk 0 n ∧ ∀ q, H1 q = none → Q (.ref q) (upd H1 q (.lst (rgV 0 n)))) v H Q := by
  intro H φ S x v Qu Q o rx h f
  cases x <;> try exact h.elim
  rename_i j
  cases rx
  obtain ⟨h1, h2, h3⟩ := h
  refine ⟨j, rfl, ⟨by omega, by omega, by omega, by omega, by omega⟩, ?_⟩
  have e : rgV 0 j = (List.range j.toNat).map fun i => V.int ((i : Nat) : Int) := by
    unfold rgV
    rw [Int.sub_zero]
    exact List.map_congr_left fun i _ => by rw [Int.zero_add]
  rw [e]
  exact Fw.lst f o (reps_intsN _) h3
/-- isinstance: the type of a value -/
def tyN : U → String
  | .non => "NoneType" | .bl _ => "bool" | .int _ => "int" | .str _ => "str" | .tup _ => "tuple" | .ref _ => "list" | .fz _ => "list" | .fn _ => "function" | .obj _ _ => "object"
def tyT : Ty → String
  | .int => "int" | .bool => "bool" | .str => "str" | .tuple => "tuple" | .list => "list"
theorem ty_rep {K : PySem.W.Frag} {H : Hp} {φ : List Pl} {S : Sto} {x : U} {v : V} (o : StoOk K bs H φ S) (r : Rep K H φ x v) (hx : ∀ us, x ≠ .fz us) (hx2 : ∀ y, x ≠ .fn y) (hx3 : ∀ c h, x ≠ .obj c h) : TyX K H v (.type (tyN x)) := by
  cases r with
  | non => exact .base .non
  | bl b => exact .base (.bl b)
  | int i => exact .base (.int i)
  | str s => exact .base (.str s)
  | @tup us vs a p q =>
    rcases p with (p | ⟨ob, p⟩) | ⟨ob, its, n, hk, hc, _⟩
    · exact .base (.tup p)
    · exact .fTuple p
    · exact .kTuple hk hc
  | @ref hh a p =>
    obtain ⟨a', ob, ea, p1, e, q⟩ := o.of_ref (.ref p)
    cases ea
    cases ob with
    | lst ws =>
      obtain ⟨vs, ha, _⟩ := q
      exact .base (.lst ha)
  | fz _ _ => exact absurd rfl (hx _)
  | fn _ => exact absurd rfl (hx2 _)
  | obj _ => exact absurd rfl (hx3 _ _)
theorem fw_isi {K : PySem.W.Frag} {t : Ty} : ∀ H φ S u v Qu Q, StoOk K bs H φ S → Rep K H φ u v → biU (.isi t) [u] S Qu → Fw K bs H φ Qu Q → rIsi K [v, .ty (tyT t)] H Q := by
  intro H φ S u v Qu Q o r h f
  obtain ⟨b, e, z⟩ := h
  have hx : ∀ us, u ≠ .fz us := fun us q => by subst q; cases t <;> simp [isT] at e
  have hx2 : ∀ y, u ≠ .fn y := fun us q => by subst q; cases t <;> simp [isT] at e
  have hx3 : ∀ c h, u ≠ .obj c h := fun c h q => by subst q; cases t <;> simp [isT] at e
  refine ⟨v, .ty (tyT t), .type (tyN u), .type (tyT t), b, rfl, .ty _, ty_rep o r hx hx2 hx3, ?_, f _ S φ _ H Ext.refl o (.bl b) z⟩
  refine kit_ty ?_
  cases t <;> cases u <;> simp only [isT] at e <;> cases e <;> simp only [tyN, tyT] <;> decide +kernel
end
end Ek

namespace HT
open PySem PySem.Spec PyProof.Rows L2
section
variable {prog : Program} {w : World} {A : Around} {E : Value → Shared → Prop} {s : Shared}
theorem sliceApplied_rev {sl : Addr} {vl vu vs : Value} {n : Nat} {Q : Int × Int × Nat → Shared → Prop} (hs : s.heap.IsSliceOf sl vl vu vs) (pl : IsPart vl none) (pu : IsPart vu none) (ps : IsPart vs (some (-1)))
    (h : Q ((n : Int) - 1, -1, n) s) : wpAny (model prog w) A (Builtin.Slice.sliceApplied (.ref sl) (pure (n : Int))) Q E s := by
  obtain ⟨os, hos, hcs, hds⟩ := id hs
  unfold Builtin.Slice.sliceApplied Builtin.Slice.sliceFields
  refine wpAny_bind (wpAny_bind (wpAny_field hos hds (x := vl) rfl (wpAny_bind (wpAny_field hos hds (x := vu) rfl (wpAny_bind (wpAny_field hos hds (x := vs) rfl (wpAny_pure ?_)))))))
  refine wpAny_bind (slicePart_ ps ?_)
  show wpAny _ _ (if ((-1 : Int) == 0) = true then _ else _) _ _ s
  rw [if_neg (by decide)]
  refine wpAny_bind (slicePart_ pl (wpAny_bind (slicePart_ pu (wpAny_bind (wpAny_pure ?_)))))
  show wpAny _ _ (pure (((n : Int) - 1), (-1 : Int), Builtin.Slice.slicePlaces ((n : Int) - 1) (-1) (-1))) _ _ s
  have e : Builtin.Slice.slicePlaces ((n : Int) - 1) (-1) (-1) = n := by
    unfold Builtin.Slice.slicePlaces
    rw [if_neg (by decide)]
    split
    · rw [show (-(-1) : Int) = 1 by decide, Int.ediv_one]; omega
    · omega
  rw [e]
  exact wpAny_pure h
theorem rev_pick {α : Type} (l : List α) : (List.range l.length).filterMap (fun (k : Nat) => l.toArray[((l.length : Int) - 1 + (k : Int) * -1).toNat]?) = l.reverse := by
  have key : ∀ n, n ≤ l.length → (List.range n).filterMap (fun (k : Nat) => l.toArray[((l.length : Int) - 1 + (k : Int) * -1).toNat]?) = l.reverse.take n := by
    intro n
    induction n with
    | zero => intro _; rfl
    | succ n ih =>
      intro hn
      rw [List.range_succ, List.filterMap_append, ih (by omega)]
      have e1 : ((l.length : Int) - 1 + (n : Int) * -1).toNat = l.length - 1 - n := by omega
      have hlt : n < l.reverse.length := by rw [List.length_reverse]; omega
      rw [List.take_succ_eq_append_getElem hlt]
      congr 1
      rw [List.filterMap_cons, e1]
      have e2 : l.toArray[l.length - 1 - n]? = some (l.reverse[n]) := by
        rw [List.getElem_reverse, List.getElem?_toArray, List.getElem?_eq_getElem (by omega)]
      rw [e2]
      rfl
  rw [key _ (Nat.le_refl _), List.take_of_length_le (by simp)]
theorem getItem_tuple_rev {t sl : Addr} {items : List Value} {vl vu vs : Value} {Q : Value → Shared → Prop} (ht : IsTup s.heap t items.toArray) (hs : s.heap.IsSliceOf sl vl vu vs) (pl : IsPart vl none) (pu : IsPart vu none) (ps : IsPart vs (some (-1)))
    (h : Q (.ref s.heap.objs.size) { s with heap := s.heap.push { cls := .type "tuple", data := .seq items.reverse.toArray } })
    (hsz : items.length ≤ sizeLine) : wpAny (model prog w) A (getItem (.ref t) (.ref sl)) Q E s := by
  have htake : sizeOk (.seq items.reverse.toArray) := by
    show items.reverse.toArray.size ≤ sizeLine
    rw [List.size_toArray, List.length_reverse]; exact hsz
  obtain ⟨os, hos, hcs, hds⟩ := id hs
  have hTs : s.TypeIs (.ref sl) "slice" := ⟨os, hos, hcs⟩
  unfold getItem
  try with_reducible refine wpAny_holding ?_
  first | refine wpAny_bind (wpAny_pure ?_) | skip
  refine wpAny_bind (wpAny_sequenceKey ht.typeIs (by decide) ?_)
  refine wpAny_bind (wpAny_callSpecial?_slot (name := Str.ofString "__getitem__") ht.typeIs PyProof.Rows.slot_tuple_getitem
    (wpAny_call_entry PyProof.Rows.slot_tuple_getitem ht.typeIs entry_tuple_getitem ?_ (args_tuple_getitem _ _)))
  show wpAny _ _ (Builtin.Tuple.tupleItemsOf (.ref t) >>= _) _ _ s
  refine wpAny_bind (tupleItemsOf_ ht ?_)
  refine wpAny_bind (wpAny_typeOf hTs ?_)
  rw [if_pos (by decide)]
  have hz : items.toArray.size = items.length := List.size_toArray ..
  refine wpAny_bind (sliceApplied_rev hs pl pu ps ?_)
  have hno : ¬ ((((items.toArray.size : Nat) : Int) - 1 == 0 && (-1 : Int) == 1 && items.toArray.size == items.toArray.size) = true) := by
    intro q
    rw [Bool.and_eq_true, Bool.and_eq_true] at q
    exact absurd q.1.2 (by decide)
  show wpAny _ _ (if (((items.toArray.size : Nat) : Int) - 1 == 0 && (-1 : Int) == 1 && items.toArray.size == items.toArray.size) = true then _ else _) _ _ s
  rw [if_neg hno, hz, rev_pick]
  first
    | exact wpAny_bind (m := Builtin.Tuple.tupleExact _) (wpAny_newObj_type (wpAny_pure ⟨_, rfl, wpAny_pure h⟩) htake)
    | exact wpAny_bind (m := Builtin.Tuple.tupleExact _) (wpAny_newObj_type (wpAny_bind (wpAny_pure (wpAny_pure ⟨_, rfl, wpAny_pure h⟩))) htake)
    | exact wpAny_bind (wpAny_bind (m := Builtin.Tuple.tupleExact _) (wpAny_newObj_type (wpAny_pure (wpAny_pure ⟨_, rfl, wpAny_pure h⟩)) htake))
    | exact wpAny_bind (wpAny_bind (m := Builtin.Tuple.tupleExact _) (wpAny_newObj_type (wpAny_pure ⟨_, rfl, wpAny_pure h⟩) htake))
end
end HT
namespace Ek
open PySem PySem.Spec PyProof.Rows L2
section
variable {X : Cx} {bs : Hp × List Pl}
def tRevA (K : PySem.W.Frag) (te : TE) : TE := fun σ H Q => te σ H fun x H1 => (∃ a xs, x = .ref a ∧ SqT K H1 a xs ∧ ∀ p, H1 p = none → Q (.ref p) (upd H1 p (.tup xs.reverse))) ∨ (∃ a xs, x = .ref a ∧ SqL K H1 a xs ∧ ∀ p, H1 p = none → Q (.ref p) (upd H1 p (.lst xs.reverse)))
theorem pe_revA {e : Expr} {te : TE} {k : Nat} {p1 p2 p3 pos : Pos} (he : PE X e te) : PE X (.Subscript e (.Slice none none (some (.UnaryOp .USub (.Constant (.int 1) k p1) p2)) p3) pos) (tRevA X.K te) := by
  refine ⟨fun pins s σ H Q I h => ?_⟩
  refine Subscript_ (thn (he.run pins s σ H _ I h) fun v s1 ⟨x, H1, I1, r1, q1⟩ => ?_)
  have hst : PO X (some (.UnaryOp .USub (.Constant (.int 1) k p1) p2)) (tPart (tUn (rU fun i => .int (-i)) (tC (.int 1)))) := po_some (pe_un un_neg pe_int)
  refine wpAny_Slice (thn (po_none.run pins s1 σ H1 (fun o H2 => o = none ∧ H2 = H1) I1 ⟨rfl, rfl⟩) fun vl s2 ⟨l, H2, I2, pl, el, e2⟩ => ?_)
  subst el e2
  refine thn (po_none.run pins s2 σ H2 (fun o H3 => o = none ∧ H3 = H2) I2 ⟨rfl, rfl⟩) fun vu s3 ⟨u, H3, I3, pu, eu, e3⟩ => ?_
  subst eu e3
  refine thn (hst.run pins s3 σ H3 (fun o H4 => o = some (-1) ∧ H4 = H3) I3 ⟨1, rfl, -1, rfl, rfl, rfl⟩) fun vs s4 ⟨o, H4, I4, ps, eo, e4⟩ => ?_
  subst eo e4
  have I5 : Inv X pins σ H4 { s4 with heap := s4.heap.push { cls := .type "slice", data := .fields #[vl, vu, vs] } } := I4.kept (t' := s4.toks) fun b ob q => Heap.get?_push_of_some _ q
  rcases q1 with ⟨a, xs, ex, hx, q⟩ | ⟨a, xs, ex, hx, q⟩
  · subst ex
    cases r1
    obtain ⟨its, r, ht, hz⟩ := I5.tuple hx
    have hlen := r.length
    show wpAny (model X.prog X.w) X.A (subscriptTail e (.Slice none none (some (.UnaryOp .USub (.Constant (.int 1) k p1) p2)) p3) (.ref a) (.ref s4.heap.objs.size)) (EP X pins σ Q) X.xe { s4 with heap := s4.heap.push { cls := .type "slice", data := .fields #[vl, vu, vs] } }
    refine tail_any (ops := [.ref a, .ref s4.heap.objs.size]) ht.typeIs (PyProof.Rows.slot_tuple_getitem.lookup) ?_ (by with_unfolding_all rfl)
    refine HT.getItem_tuple_rev ht (Heap.IsSliceOf.new _ vl vu vs) pl pu ps ?_ (by omega)
    refine ⟨.ref _, _, I5.laid (t' := s4.toks) (o := .tup xs.reverse) (fun b ob q => Heap.get?_push_of_some _ q) (Nat.le_refl _) ?_, rfl, q _ (I5.hok.fresh (Nat.le_refl _))⟩
    exact ⟨by rw [List.length_reverse]; exact hz, _, r.reverse, IsTup.new _ _⟩
  · subst ex
    cases r1
    obtain ⟨its, r, ht, hz⟩ := I5.list hx
    have hlen := r.length
    show wpAny (model X.prog X.w) X.A (subscriptTail e (.Slice none none (some (.UnaryOp .USub (.Constant (.int 1) k p1) p2)) p3) (.ref a) (.ref s4.heap.objs.size)) (EP X pins σ Q) X.xe { s4 with heap := s4.heap.push { cls := .type "slice", data := .fields #[vl, vu, vs] } }
    refine tail_any (ops := [.ref a, .ref s4.heap.objs.size]) ht.isList.typeIs (PySem.slot_list_getitem.lookup) ?_ (by with_unfolding_all rfl)
    refine wpAny_getItem_list_slice ht.isList (Heap.IsSliceOf.new _ vl vu vs) pl pu ps (by decide) ?_ (by rw [List.size_toArray]; omega)
    rw [PySem.W.krv_pick]
    refine ⟨.ref _, _, I5.laid (t' := s4.toks) (o := .lst xs.reverse) (fun b ob q => Heap.get?_push_of_some _ q) (Nat.le_refl _) ?_, rfl, q _ (I5.hok.fresh (Nat.le_refl _))⟩
    exact ⟨by rw [List.length_reverse]; exact hz, _, 0, r.reverse, Heap.get?_push_size _ rfl⟩
theorem qe_rev {a : Expr} {wa : Sl → Sto → UQ → Prop} {k : Nat} {p1 p2 p3 pos : Pos} (ha : QE X bs a wa) :
    QE X bs (.Subscript a (.Slice none none (some (.UnaryOp .USub (.Constant (.int 1) k p1) p2)) p3) pos) (fun σ S Q => wa σ S fun x S1 => revU x S1 Q) :=
  pe_imp (pe_revA ha) fun σ H Q ⟨φ, σu, S, Qu, hs, ho, q, kk⟩ => ⟨φ, σu, S, _, hs, ho, q, fun x S1 φ1 v1 H1 e1 o1 r1 q1 => by
    have f : Fw X.K bs H1 φ1 Qu Q := fun u S' φ' v H' e4 o4 r4 q4 => kk u S' φ' v H' (e1.trans e4) o4 r4 q4
    cases r1 with
    | @tup us vs a r1 r2 => exact .inl ⟨a, vs, rfl, r1, Fw.tup f o1 r2.reverse q1⟩
    | @ref hh a r1 =>
      obtain ⟨ob, e0, z⟩ := q1
      cases ob with
      | lst us =>
        obtain ⟨a', vs, ea, p1, hl, r2⟩ := o1.list (.ref r1) e0
        cases ea
        exact .inr ⟨a, vs, rfl, SqL.of hl, Fw.lst f o1 r2.reverse z⟩
    | _ => exact q1.elim⟩
end
end Ek

namespace Ek
open PySem PySem.Spec PyProof.Rows L2

section
variable {K : PySem.W.Frag} {bs : Hp × List Pl} {H0 H H' : Hp} {φ0 φ φ' : List Pl} {S : Sto} {D : Addr} {ws vs : List V}
theorem up_aside (hD : H D = some (.lst ws)) : Up K H φ (upd H D (.lst vs)) φ :=
  ⟨List.prefix_refl _, fun a xs h => sqt_upd (fun ys e => by rw [hD] at e; cases e) (fun ob u e => by rw [hD] at e; cases e) h,
    fun a o u e => by rw [upd_ne (fun z => by rw [z, hD] at e; cases e)]; exact e⟩
theorem Ext.aside (x : Ext K H0 φ0 H φ) (h0 : H0 D = none) (hD : H D = some (.lst ws)) : Ext K H0 φ0 (upd H D (.lst vs)) φ where
  pre := x.pre
  tup := fun a xs h => (up_aside (φ := φ) hD).tup a xs (x.tup a xs h)
  frz := fun a o u h => (up_aside (K := K) (φ := φ) hD).frz a o u (x.frz a o u h)
  oth := fun a o h n => by rw [upd_ne (ne_of_none h h0)]; exact x.oth a o h n
  new := x.new
theorem Ext.none_of (x : Ext K H0 φ0 H φ) (h : H D = none) (n : D ∉ Ad φ) : H0 D = none := by
  cases e : H0 D with
  | none => rfl
  | some o => rw [x.oth D o e n] at h; cases h
theorem StoOk.aside (s : StoOk K bs H φ S) (h0 : bs.1 D = none) (n : D ∉ Ad φ) (hD : H D = some (.lst ws)) : StoOk K bs (upd H D (.lst vs)) φ S :=
  ⟨s.len, s.nd, fun h a o p q => ob_mono (s.ob h a _ p q) (up_aside hD) fun u e => by rw [upd_ne (fun e : a.1 = D => n (by rw [← e]; exact ad_mem p))]; exact e, s.ext.aside h0 hD⟩
theorem ad_one {D : Addr} : Ad (φ ++ [(D, none)]) = Ad φ ++ [D] := by rw [Ad, List.map_append]; rfl
/-- it is seen from here on -/
theorem Ext.seen (x : Ext K H0 φ0 H φ) (h0 : H0 D = none) : Ext K H0 φ0 H (φ ++ [(D, none)]) where
  pre := x.pre.trans (List.prefix_append _ _)
  tup := x.tup
  frz := x.frz
  oth := fun a o h n => x.oth a o h fun m => n (by rw [ad_one]; exact List.mem_append_left _ m)
  new := fun a m n => by
    rw [ad_one] at m
    rcases List.mem_append.mp m with q | q
    · exact x.new a q n
    · rw [List.mem_singleton.mp q]; exact h0
theorem StoOk.seen (s : StoOk K bs H φ S) (h0 : bs.1 D = none) (n : D ∉ Ad φ) (hD : H D = some (.lst vs)) {us : List U} (r : Reps K H φ us vs) : StoOk K bs H (φ ++ [(D, none)]) (S ++ [.lst us]) := by
  have x : Up K H φ H (φ ++ [(D, none)]) := ⟨List.prefix_append _ _, fun _ _ h => h, fun _ _ _ h => h⟩
  refine ⟨by simp [s.len], ?_, fun h a o q1 q2 => ?_, s.ext.seen h0⟩
  · rw [ad_one, List.nodup_append]
    refine ⟨s.nd, by simp, fun a ha b hb => ?_⟩
    rw [List.mem_singleton.mp hb]
    exact fun e => n (e ▸ ha)
  · rcases Nat.lt_or_ge h φ.length with hl | hl
    · rw [List.getElem?_append_left hl] at q1
      rw [List.getElem?_append_left (by rw [← s.len]; exact hl)] at q2
      exact ob_mono (s.ob h a o q1 q2) x fun _ e => e
    · have hh : h = φ.length := by
        rcases Nat.lt_or_ge φ.length h with q | q
        · rw [List.getElem?_eq_none (by simp; omega)] at q1; cases q1
        · omega
      subst hh
      rw [List.getElem?_append_right (Nat.le_refl _)] at q1
      rw [s.len, List.getElem?_append_right (Nat.le_refl _)] at q2
      simp at q1 q2
      subst q1; subst q2
      exact ⟨vs, hD, Reps.mono x _ _ r⟩
end

/-- the heap J's turns go by, from H1 on: the items, and the list that is read -/
def ItOk (K : PySem.W.Frag) (bs : Hp × List Pl) (H1 : Hp) (φ1 : List Pl) (J : It) (its : List U) (lv : Option Nat) (li : List U) : Prop :=
  ∀ i H φ S, Up K H1 φ1 H φ → StoOk K bs H φ S → live lv S li →
    (∀ u, its[i]? = some u → J.go i H ∧ ∀ x H', J.yld i H x H' → Ext K H φ H' φ ∧ StoOk K bs H' φ S ∧ Rep K H' φ u x ∧ (∀ D vs, H D = some (.lst vs) → H' D = some (.lst vs))) ∧ (i = its.length → J.stop i H)
def LI (K : PySem.W.Frag) (bs : Hp × List Pl) (w : Sl → Sto → (List U → Option Nat → List U → Sto → Prop) → Prop) : TI := fun σ H R => ∃ φ σu S Ru, SlotR K H φ σu σ ∧ StoOk K bs H φ S ∧ w σu S Ru ∧
  ∀ its lv li S' φ' J H', Ext K H φ H' φ' → StoOk K bs H' φ' S' → ItOk K bs H' φ' J its lv li → Ru its lv li S' → R J H'
theorem pi_imp {X : Cx} {tg iter : Expr} {t t' : TI} (h : PI X tg iter t) (i : ∀ σ H R, t' σ H R → t σ H R) : PI X tg iter t' := ⟨fun pins s σ H R I q => h.run pins s σ H R I (i σ H R q)⟩
section
variable {X : Cx} {bs : Hp × List Pl} {tg e : Expr}
/-- a list or a tuple, whichever it is -/
def iSeq (K : PySem.W.Frag) (tl : TE) : TI := fun σ H R => tl σ H fun x H1 => ∃ a, x = .ref a ∧ (((∃ xs, SqL K H1 a xs) ∧ R (Itl K a) H1) ∨ ((∃ xs, SqT K H1 a xs) ∧ R (Itt K a) H1))
theorem pi_seq {l : Expr} {tl : TE} (hl : PE X l tl) : PI X tg l (iSeq X.K tl) := by
  refine ⟨fun pins s σ H R I h => ?_⟩
  refine thn (hl.run pins s σ H _ I h) fun v s1 ⟨x, H1, I1, r1, q1⟩ => ?_
  obtain ⟨a, e, ⟨⟨xs, hq⟩, q⟩ | ⟨⟨xs, hq⟩, q⟩⟩ := q1
  · subst e
    cases r1
    obtain ⟨its, rv, p, hz⟩ := I1.list hq
    refine wpAny_pyIter_list p.isList ?_
    refine ⟨s1.heap.objs.size, [s1.heap.objs.size], _, _, H1, rfl, I1.kept (t' := s1.toks) fun b o e => Heap.get?_push_of_some _ e, turn_list a _, ⟨_, Heap.get?_push_size _ rfl, rfl, rfl⟩, fun b hb => ?_, q⟩
    have e : b = s1.heap.objs.size := by simpa using hb
    subst e
    exact I1.fpOk (Nat.le_refl _) (I1.hok.fresh (Nat.le_refl _))
  · subst e
    cases r1
    obtain ⟨its, rv, p, hz⟩ := I1.tuple hq
    refine wpAny_pyIter_tuple (show s1.heap.IsTuple a its.toArray from p) ?_
    refine ⟨s1.heap.objs.size, [s1.heap.objs.size], _, _, H1, rfl, I1.kept (t' := s1.toks) fun b o e => Heap.get?_push_of_some _ e, turn_tuple a _, ⟨_, Heap.get?_push_size _ rfl, rfl, rfl⟩, fun b hb => ?_, q⟩
    have e : b = s1.heap.objs.size := by simpa using hb
    subst e
    exact I1.fpOk (Nat.le_refl _) (I1.hok.fresh (Nat.le_refl _))
theorem it_tup {K : PySem.W.Frag} {H : Hp} {φ : List Pl} {us : List U} {vs : List V} {a : Addr} (p : SqT K H a vs) (r : Reps K H φ us vs) : ItOk K bs H φ (Itt K a) us none [] := by
  intro i H' φ' S x o _
  have w := walk_tup (K := K) (a := a) (xs := vs)
  have p' := x.tup _ _ p
  refine ⟨fun u e => ?_, fun e => ?_⟩
  · obtain ⟨v, ev, rv⟩ := r.get e
    have hi : i < vs.length := by
      rcases Nat.lt_or_ge i vs.length with q | q
      · exact q
      · rw [List.getElem?_eq_none q] at ev; cases ev
    refine ⟨w.goes i H' hi p', fun y H'' hy => ?_⟩
    obtain ⟨e1, e2⟩ := w.yields i H' y H'' hi p' hy
    subst e1
    rw [ev] at e2
    cases e2
    exact ⟨Ext.refl, o, Rep.mono x _ _ rv, fun _ _ q => q⟩
  · rw [e, r.length]; exact w.stops H' p'
theorem it_lst {K : PySem.W.Frag} {H : Hp} {φ : List Pl} {S : Sto} {us : List U} {a : Addr} {h : Nat} (o : StoOk K bs H φ S) (ha : φ[h]? = some (a, none)) (e : S[h]? = some (.lst us)) : ItOk K bs H φ (Itl K a) us (some h) us := by
  intro i H' φ' S' x o' hl
  obtain ⟨⟨ws⟩, e1, e2⟩ := hl
  simp only [Ob.items] at e2
  subst e2
  obtain ⟨a', vs, ea, _, h1, r⟩ := o'.list (.ref (pre_get x.pre ha)) e1
  cases ea
  have w := walk_list (K := K) (a := a) (xs := vs)
  have p' : SqL K H' a vs := SqL.of h1
  refine ⟨fun u e => ?_, fun e => ?_⟩
  · obtain ⟨v, ev, rv⟩ := r.get e
    have hi : i < vs.length := by
      rcases Nat.lt_or_ge i vs.length with q | q
      · exact q
      · rw [List.getElem?_eq_none q] at ev; cases ev
    refine ⟨w.goes i H' hi p', fun y H'' hy => ?_⟩
    obtain ⟨e1, e2⟩ := w.yields i H' y H'' hi p' hy
    subst e1
    rw [ev] at e2
    cases e2
    exact ⟨Ext.refl, o', rv, fun _ _ q => q⟩
  · rw [e, r.length]; exact w.stops H' p'
theorem it_fz {K : PySem.W.Frag} {H : Hp} {φ : List Pl} {us : List U} {vs : List V} {a : Addr} (p : Fz K H a vs) (r : Reps K H φ us vs) : ItOk K bs H φ (Itl K a) us none [] := by
  intro i H' φ' S x o _
  have w := walk_list (K := K) (a := a) (xs := vs)
  have p' : SqL K H' a vs := by
    rcases p with ⟨ob, p⟩ | p
    · exact .inl (.inr ⟨ob, x.frz _ _ _ p⟩)
    · exact .inr p
  refine ⟨fun u e => ?_, fun e => ?_⟩
  · obtain ⟨v, ev, rv⟩ := r.get e
    have hi : i < vs.length := by
      rcases Nat.lt_or_ge i vs.length with q | q
      · exact q
      · rw [List.getElem?_eq_none q] at ev; cases ev
    refine ⟨w.goes i H' hi p', fun y H'' hy => ?_⟩
    obtain ⟨e1, e2⟩ := w.yields i H' y H'' hi p' hy
    subst e1
    rw [ev] at e2
    cases e2
    exact ⟨Ext.refl, o, Rep.mono x _ _ rv, fun _ _ q => q⟩
  · rw [e, r.length]; exact w.stops H' p'
theorem range_get : ∀ {n i : Nat} {lo c : Int} {u : U}, (rangeU lo c n)[i]? = some u → i < n ∧ u = .int (lo + (i : Nat) * c)
  | 0, _, _, _, _, h => by simp [rangeU] at h
  | n + 1, 0, lo, c, u, h => by simp [rangeU] at h; exact ⟨Nat.succ_pos _, by rw [← h]; simp⟩
  | n + 1, i + 1, lo, c, u, h => by
    rw [rangeU, List.getElem?_cons_succ] at h
    obtain ⟨h1, h2⟩ := range_get h
    refine ⟨Nat.succ_lt_succ h1, ?_⟩
    rw [h2]
    congr 1
    have : ((i + 1 : Nat) : Int) = (i : Int) + 1 := by omega
    rw [this, Int.add_mul]
    omega
theorem range_len : ∀ (n : Nat) (lo c : Int), (rangeU lo c n).length = n
  | 0, _, _ => rfl
  | n + 1, lo, c => by simp [rangeU, range_len n]
theorem it_rng {K : PySem.W.Frag} {H : Hp} {φ : List Pl} {lo : Int} {n : Nat} : ItOk K bs H φ (Itr lo n) (rangeU lo 1 n) none [] := by
  intro i H' φ' S x o _
  refine ⟨fun u e => ?_, fun e => ?_⟩
  · obtain ⟨hi, rfl⟩ := range_get e
    refine ⟨hi, fun y H'' hy => ?_⟩
    obtain ⟨rfl, rfl⟩ := hy
    rw [Int.mul_one]
    exact ⟨Ext.refl, o, .int _, fun _ _ q => q⟩
  · rw [range_len] at e
    subst e
    exact Nat.le_refl _
theorem it_rngC {K : PySem.W.Frag} {H : Hp} {φ : List Pl} {lo c : Int} {n : Nat} : ItOk K bs H φ (Itc lo c n) (rangeU lo c n) none [] := by
  intro i H' φ' S x o _
  refine ⟨fun u e => ?_, fun e => ?_⟩
  · obtain ⟨hi, rfl⟩ := range_get e
    refine ⟨hi, fun y H'' hy => ?_⟩
    obtain ⟨rfl, rfl⟩ := hy
    exact ⟨Ext.refl, o, .int _, fun _ _ q => q⟩
  · rw [range_len] at e
    subst e
    exact Nat.le_refl _
/-- how a source lies, by what is walked -/
abbrev WI := Sl → Sto → (List U → Option Nat → List U → Sto → Prop) → Prop
theorem qi_seq {we : Sl → Sto → UQ → Prop} (h : QE X bs e we) : PI X tg e (LI X.K bs fun σ S R => we σ S fun u S1 => srcU 0 [u] S1 fun its lv li => R its lv li S1) :=
  pi_imp (pi_seq h) fun σ H R ⟨φ, σu, S, Ru, hs, ho, q, kk⟩ => ⟨φ, σu, S, _, hs, ho, q, fun x S1 φ1 v1 H1 e1 o1 r1 q1 => by
    cases r1 with
    | @tup us vs a p r => exact ⟨a, rfl, .inr ⟨⟨_, p⟩, kk _ _ _ S1 φ1 _ H1 e1 o1 (it_tup p r) q1⟩⟩
    | @fz us vs a p r => exact ⟨a, rfl, .inl ⟨⟨_, p.sql⟩, kk _ _ _ S1 φ1 _ H1 e1 o1 (it_fz p r) q1⟩⟩
    | @ref hh a p =>
      obtain ⟨⟨ws⟩, e2, q2⟩ := q1
      obtain ⟨a', vs, ea, p1, ha, r2⟩ := o1.list (.ref p) e2
      cases ea
      exact ⟨a, rfl, .inl ⟨⟨_, SqL.of ha⟩, kk _ _ _ S1 φ1 _ H1 e1 o1 (it_lst o1 p e2) q2⟩⟩
    | _ => exact (show False from q1).elim⟩
theorem near62 {i : Int} (h : near i) : -(2 ^ 62) ≤ i ∧ i < 2 ^ 62 := by
  obtain ⟨h1, h2⟩ := h
  constructor <;> omega
theorem qi_rng1 {a : Expr} {wes : Sl → Sto → (List U → Sto → Prop) → Prop} {p pos : Pos} (hg : Gl X "range") (hm : X.mg "range" = none) (ha : QA X bs [a] wes) (hs : starEach [a] X.env = [(false, eval a X.env)]) :
    PI X tg (.Call (.Name "range" p) [a] [] pos) (LI X.K bs fun σ S R => wes σ S fun us S1 => srcU 1 us S1 fun its lv li => R its lv li S1) :=
  pi_imp (pi_range1 hg hm ha hs) fun σ H R ⟨φ, σu, S, Ru, hs, ho, q, kk⟩ => ⟨φ, σu, S, _, hs, ho, q, fun us S1 φ1 vs H1 hl e1 o1 r1 q1 => by
    match us, hl with
    | [u], _ =>
      cases r1 with
      | cons p r =>
        cases r
        cases p with
        | int j => 
          obtain ⟨hj, q1⟩ := q1
          exact ⟨j, rfl, (near62 hj).1, (near62 hj).2, kk _ _ _ S1 φ1 _ H1 e1 o1 it_rng q1⟩
        | _ => exact (show False from q1).elim⟩
theorem qi_rng2 {a b : Expr} {wes : Sl → Sto → (List U → Sto → Prop) → Prop} {p pos : Pos} (hg : Gl X "range") (hm : X.mg "range" = none) (ha : QA X bs [a, b] wes) (hs : starEach [a, b] X.env = [(false, eval a X.env), (false, eval b X.env)]) (hs2 : starEach [b] X.env = [(false, eval b X.env)]) :
    PI X tg (.Call (.Name "range" p) [a, b] [] pos) (LI X.K bs fun σ S R => wes σ S fun us S1 => srcU 1 us S1 fun its lv li => R its lv li S1) :=
  pi_imp (pi_range2 hg hm ha hs hs2) fun σ H R ⟨φ, σu, S, Ru, hs, ho, q, kk⟩ => ⟨φ, σu, S, _, hs, ho, q, fun us S1 φ1 vs H1 hl e1 o1 r1 q1 => by
    match us, hl with
    | [u, u'], _ =>
      cases r1 with
      | cons p r =>
        cases r with
        | cons p' r =>
          cases r
          cases p with
          | int i =>
            cases p' with
            | int j => 
              obtain ⟨hi, hj, q1⟩ := q1
              exact ⟨i, j, rfl, ⟨(near62 hi).1, (near62 hi).2, (near62 hj).1, (near62 hj).2⟩, kk _ _ _ S1 φ1 _ H1 e1 o1 it_rng q1⟩
            | _ => exact (show False from q1).elim
          | _ => cases p' <;> exact (show False from q1).elim⟩
theorem qi_rng3 {a b c : Expr} {wes : Sl → Sto → (List U → Sto → Prop) → Prop} {p pos : Pos} (hg : Gl X "range") (hm : X.mg "range" = none) (ha : QA X bs [a, b, c] wes)
    (hpi : ∀ {ta : TA}, PA X [a, b, c] ta → PI X tg (.Call (.Name "range" p) [a, b, c] [] pos) (iRng3 ta)) :
    PI X tg (.Call (.Name "range" p) [a, b, c] [] pos) (LI X.K bs fun σ S R => wes σ S fun us S1 => srcU 1 us S1 fun its lv li => R its lv li S1) :=
  pi_imp (hpi ha) fun σ H R ⟨φ, σu, S, Ru, hs, ho, q, kk⟩ => ⟨φ, σu, S, _, hs, ho, q, fun us S1 φ1 vs H1 hl e1 o1 r1 q1 => by
    match us, hl with
    | [u, u', u''], _ =>
      cases r1 with
      | cons p r =>
        cases r with
        | cons p' r =>
          cases r with
          | cons p'' r =>
            cases r
            cases p <;> try exact (show False from q1).elim
            cases p' <;> try exact (show False from q1).elim
            cases p'' <;> try exact (show False from q1).elim
            obtain ⟨rfl, hi, hj, q1⟩ := q1
            exact ⟨_, _, -1, _, rfl, RgC.neg (near62 hi).1 (near62 hi).2 (near62 hj).1 (near62 hj).2, kk _ _ _ S1 φ1 _ H1 e1 o1 it_rngC q1⟩⟩
end

def LG (K : PySem.W.Frag) (bs : Hp × List Pl) (A : U → Sl → Sto → (Sl → Sto → Prop) → Prop) : TG := fun v σ H R => ∃ φ σu S u Ru, SlotR K H φ σu σ ∧ StoOk K bs H φ S ∧ Rep K H φ u v ∧ A u σu S Ru ∧
  ∀ σu' S' φ' σ' H', Ext K H φ H' φ' → SlotR K H' φ' σu' σ' → StoOk K bs H' φ' S' → Ru σu' S' → R σ' H'
def LGs (K : PySem.W.Frag) (bs : Hp × List Pl) (A : List U → Sl → Sto → (Sl → Sto → Prop) → Prop) : TGs := fun vs σ H R => ∃ φ σu S us Ru, SlotR K H φ σu σ ∧ StoOk K bs H φ S ∧ Reps K H φ us vs ∧ A us σu S Ru ∧
  ∀ σu' S' φ' σ' H', Ext K H φ H' φ' → SlotR K H' φ' σu' σ' → StoOk K bs H' φ' S' → Ru σu' S' → R σ' H'
section
variable {X : Cx} {bs : Hp × List Pl} {tg e o i : Expr} {es : List Expr} {pos : Pos} {we wo wi : Sl → Sto → UQ → Prop} {A : U → Sl → Sto → (Sl → Sto → Prop) → Prop} {As : List U → Sl → Sto → (Sl → Sto → Prop) → Prop}
theorem pg_imp {t t' : TG} (h : PG X tg t) (i : ∀ v σ H R, t' v σ H R → t v σ H R) : PG X tg t' := ⟨fun pins s σ H v u R I r q => h.run pins s σ H v u R I r (i v σ H R q)⟩
theorem pgs_imp {t t' : TGs} (h : PGs X es t) (i : ∀ v σ H R, t' v σ H R → t v σ H R) : PGs X es t' := ⟨fun pins s σ H v u R I r q => h.run pins s σ H v u R I r (i v σ H R q)⟩
theorem qg_var {i : Nat} {x : Str} (hN : X.N.Nodup) (hi : X.N[i]? = some x) (hx : Loc X.env.scope x) (hf : X.fn x = true ∨ X.env.scope.names.lookup x = some .local) : PG X (.Name x pos) (LG X.K bs fun u σ S R => R (σ.set i (some u)) S) :=
  pg_imp (pg_name hN hi hx hf) fun v σ H R ⟨φ, σu, S, u, Ru, hs, ho, r, q, kk⟩ => kk _ S φ _ H Ext.refl (hs.set r i) ho q
theorem qgs_nil : PGs X [] (LGs X.K bs fun us σ S R => us = [] ∧ R σ S) :=
  pgs_imp pgs_nil fun v σ H R ⟨φ, σu, S, u, Ru, hs, ho, r, q, kk⟩ => by
    obtain ⟨rfl, q⟩ := q
    cases r
    exact ⟨rfl, kk _ S φ _ H Ext.refl hs ho q⟩
theorem qgs_cons (h1 : PG X e (LG X.K bs A)) (h2 : PGs X es (LGs X.K bs As)) (hs : (assignEach (e :: es) X.env).map (·.2) = assign e X.env :: (assignEach es X.env).map (·.2)) :
    PGs X (e :: es) (LGs X.K bs fun us σ S R => ∃ u r, us = u :: r ∧ A u σ S fun σ1 S1 => As r σ1 S1 R) :=
  pgs_imp (pgs_cons h1 h2 hs) fun v σ H R ⟨φ, σu, S, u, Ru, hs, ho, r, q, kk⟩ => by
    obtain ⟨u, r', rfl, q⟩ := q
    cases r with
    | cons p q' =>
      refine ⟨_, _, rfl, φ, σu, S, u, _, hs, ho, p, q, fun σu1 S1 φ1 σ1 H1 e1 s1 o1 q1 => ?_⟩
      exact ⟨φ1, σu1, S1, r', _, s1, o1, q'.up e1, q1, fun σu2 S2 φ2 σ2 H2 e2 s2 o2 q2 => kk σu2 S2 φ2 σ2 H2 (e1.trans e2) s2 o2 q2⟩
theorem qg_tup {n k : Nat} (hc : X.calm = true) (h : PGs X es (LGs X.K bs As)) (hn : (assignEach es X.env).length = n) (hst : (assignEach es X.env).findIdx? (·.1) = none) :
    PG X (.Tuple es k pos) (LG X.K bs fun u σ S R => ∃ us, u = .tup us ∧ us.length = n ∧ As us σ S R) :=
  pg_imp (pg_tup hc h hn hst) fun v σ H R ⟨φ, σu, S, u, Ru, hs, ho, r, q, kk⟩ => by
    obtain ⟨us, rfl, hl, q⟩ := q
    cases r with
    | @tup _ vs a p r => exact ⟨a, vs, rfl, p, by rw [← r.length]; exact hl, φ, σu, S, us, Ru, hs, ho, r, q, kk⟩
theorem qg_sub (ho : QE X bs o wo) (hi : QE X bs i wi)
    (ha : ∀ v, assign (.Subscript o i pos) X.env v = (do
      let ov ← holding [v] (eval o X.env)
      let iv ← holding [v, ov] (eval i X.env)
      standAt pos
      holding [v, ov, iv] (setItem ov iv v)
      release [v, ov, iv] [])) : PG X (.Subscript o i pos) (LG X.K bs fun u σ S R => wo σ S fun x S1 => wi σ S1 fun y S2 => setU x y u S2 fun S3 => R σ S3) :=
  pg_imp (pg_sub ho hi set_list ha) fun v σ H R ⟨φ, σu, S, u, Ru, hs, ho, r, q, kk⟩ => ⟨φ, σu, S, _, hs, ho, q, fun x S1 φ1 v1 H1 e1 o1 r1 q1 => ⟨φ1, σu, S1, _, hs.up e1, o1, q1, fun y S2 φ2 v2 H2 e2 o2 r2 q2 => by
    cases x <;> cases y <;> try exact (show False from q2).elim
    rename_i h j
    obtain ⟨us, k, e3, e4, q3⟩ := q2
    cases r2
    obtain ⟨a, vs, rfl, p1, a1, rr⟩ := o2.list (r1.up e2) e3
    obtain ⟨e5, o5⟩ := o2.put p1 a1 (Reps.set ((r.up e1).up e2) k rr)
    exact ⟨a, vs, j, k, rfl, rfl, a1, by rw [← rr.length]; exact e4, kk _ _ φ2 _ _ ((e1.trans e2).trans e5) (((hs.up e1).up e2).up e5) o5 q3⟩⟩⟩
end

structure EndOk (K : PySem.W.Frag) (bs : Hp × List Pl) (H : Hp) (φ : List Pl) (Du : EndU) (D : Ends) : Prop where
  nx : ∀ σu' S' φ' σ' H', Ext K H φ H' φ' → SlotR K H' φ' σu' σ' → StoOk K bs H' φ' S' → Du.nx σu' S' → D.nx σ' H'
  rt : ∀ u S' φ' v H', Ext K H φ H' φ' → StoOk K bs H' φ' S' → Rep K H' φ' u v → Du.rt u S' → D.rt v H'
  bk : ∀ σu' S' φ' σ' H', Ext K H φ H' φ' → SlotR K H' φ' σu' σ' → StoOk K bs H' φ' S' → Du.bk σu' S' → D.bk σ' H'
  ct : ∀ σu' S' φ' σ' H', Ext K H φ H' φ' → SlotR K H' φ' σu' σ' → StoOk K bs H' φ' S' → Du.ct σu' S' → D.ct σ' H'
theorem EndOk.up {K : PySem.W.Frag} {bs : Hp × List Pl} {H H' : Hp} {φ φ' : List Pl} {Du : EndU} {D : Ends} (k : EndOk K bs H φ Du D) (x : Ext K H φ H' φ') : EndOk K bs H' φ' Du D :=
  ⟨fun σu' S' φ'' σ' H'' e => k.nx σu' S' φ'' σ' H'' (x.trans e), fun u S' φ'' v H'' e => k.rt u S' φ'' v H'' (x.trans e), fun σu' S' φ'' σ' H'' e => k.bk σu' S' φ'' σ' H'' (x.trans e), fun σu' S' φ'' σ' H'' e => k.ct σu' S' φ'' σ' H'' (x.trans e)⟩
def LS (K : PySem.W.Frag) (bs : Hp × List Pl) (w : EndU → Sl → Sto → Prop) : TS := fun D σ H => ∃ φ σu S Du, SlotR K H φ σu σ ∧ StoOk K bs H φ S ∧ w Du σu S ∧ EndOk K bs H φ Du D
section
variable {X : Cx} {bs : Hp × List Pl} {tg e o c iter : Expr} {st : Stmt} {sts body els : List Stmt} {pos : Pos} {we wo wa wb wc : Sl → Sto → UQ → Prop} {wt : Sl → Sto → BQ → Prop} {A : U → Sl → Sto → (Sl → Sto → Prop) → Prop} {w w' : EndU → Sl → Sto → Prop}
abbrev QS (X : Cx) (bs : Hp × List Pl) (st : Stmt) (w : EndU → Sl → Sto → Prop) : Prop := PS X st (LS X.K bs w)
abbrev QSs (X : Cx) (bs : Hp × List Pl) (st : List Stmt) (w : EndU → Sl → Sto → Prop) : Prop := PSs X st (LS X.K bs w)
theorem qss_nil : QSs X bs [] (fun D σ S => D.nx σ S) := pss_imp pss_nil fun D σ H ⟨φ, σu, S, Du, hs, ho, q, k⟩ => k.nx σu S φ σ H Ext.refl hs ho q
theorem qss_cons (h1 : QS X bs st w) (h2 : QSs X bs sts w') : QSs X bs (st :: sts) (fun D σ S => w { D with nx := w' D } σ S) :=
  pss_imp (pss_cons h1 h2) fun D σ H ⟨φ, σu, S, Du, hs, ho, q, k⟩ => ⟨φ, σu, S, _, hs, ho, q,
    ⟨fun σu' S' φ' σ' H' e s' o' q' => ⟨φ', σu', S', Du, s', o', q', k.up e⟩, k.rt, k.bk, k.ct⟩⟩
theorem qs_pass : QS X bs (.Pass pos) (fun D σ S => D.nx σ S) := ps_imp ps_pass fun D σ H ⟨φ, σu, S, Du, hs, ho, q, k⟩ => k.nx σu S φ σ H Ext.refl hs ho q
theorem qs_doc {x j p'} : QS X bs (.Expr (.Constant (.str x) j p') pos) (fun D σ S => D.nx σ S) := ps_imp ps_doc fun D σ H ⟨φ, σu, S, Du, hs, ho, q, k⟩ => k.nx σu S φ σ H Ext.refl hs ho q
theorem qs_brk : QS X bs (.Break pos) (fun D σ S => D.bk σ S) := ps_imp ps_break fun D σ H ⟨φ, σu, S, Du, hs, ho, q, k⟩ => k.bk σu S φ σ H Ext.refl hs ho q
theorem qs_cnt : QS X bs (.Continue pos) (fun D σ S => D.ct σ S) := ps_imp ps_continue fun D σ H ⟨φ, σu, S, Du, hs, ho, q, k⟩ => k.ct σu S φ σ H Ext.refl hs ho q
theorem qs_retn : QS X bs (.Return none pos) (fun D σ S => D.rt .non S) := ps_imp ps_retN fun D σ H ⟨φ, σu, S, Du, hs, ho, q, k⟩ => k.rt .non S φ .non H Ext.refl ho .non q
theorem qs_ret (he : QE X bs e we) : QS X bs (.Return (some e) pos) (fun D σ S => we σ S D.rt) :=
  ps_imp (ps_ret he) fun D σ H ⟨φ, σu, S, Du, hs, ho, q, k⟩ => ⟨φ, σu, S, _, hs, ho, q, fun u S' φ' v H' e o r q => k.rt u S' φ' v H' e o r q⟩
theorem qs_exp (he : QE X bs e we) (hs : swapsWith e none pos.line X.env = pure false) : QS X bs (.Expr e pos) (fun D σ S => we σ S fun _ S1 => D.nx σ S1) :=
  ps_imp (ps_expr he hs) fun D σ H ⟨φ, σu, S, Du, hs, ho, q, k⟩ => ⟨φ, σu, S, _, hs, ho, q, fun u S' φ' v H' e o r q => k.nx σu S' φ' σ H' e (hs.up e) o q⟩
theorem qs_if (hc : QT X bs c wt) (ha : QSs X bs body w) (hb : QSs X bs els w') : QS X bs (.If c body els pos) (fun D σ S => wt σ S fun k S1 => if k = true then w D σ S1 else w' D σ S1) :=
  ps_imp (ps_if hc ha hb) fun D σ H ⟨φ, σu, S, Du, hs, ho, q, k⟩ => ⟨φ, σu, S, _, hs, ho, q, fun t S1 φ1 H1 e1 o1 q1 => by
    cases t with
    | true =>
      rw [if_pos rfl] at q1 ⊢
      exact ⟨φ1, σu, S1, Du, hs.up e1, o1, q1, k.up e1⟩
    | false =>
      rw [if_neg Bool.false_ne_true] at q1 ⊢
      exact ⟨φ1, σu, S1, Du, hs.up e1, o1, q1, k.up e1⟩⟩
theorem qs_asg (he : QE X bs e we) (hg : PG X tg (LG X.K bs A)) (hs : swapsWithSole [tg] e pos.line X.env = pure false) (hw : swappedStores [tg] e X.env = pure none) (h1 : (assignEach [tg] X.env).map (·.2) = [assign tg X.env]) :
    QS X bs (.Assign [tg] e pos) (fun D σ S => we σ S fun u S1 => A u σ S1 D.nx) :=
  ps_imp (ps_asg he hg hs hw h1) fun D σ H ⟨φ, σu, S, Du, hs, ho, q, k⟩ => ⟨φ, σu, S, _, hs, ho, q, fun u S1 φ1 v1 H1 e1 o1 r1 q1 =>
    ⟨φ1, σu, S1, u, _, hs.up e1, o1, r1, q1, fun σu2 S2 φ2 σ2 H2 e2 s2 o2 q2 => k.nx σu2 S2 φ2 σ2 H2 (e1.trans e2) s2 o2 q2⟩⟩
theorem qs_par2 {i j : Nat} {x y : Str} {a b : Expr} {px py pt : Pos} {kt k2 pt2} (hc : X.calm = true) (hN : X.N.Nodup) (hi : X.N[i]? = some x) (hj : X.N[j]? = some y) (hij : i ≠ j)
    (hx : X.env.scope.names.lookup x = some .local) (hy : X.env.scope.names.lookup y = some .local) (ha : QE X bs a wa) (hb : QE X bs b wb) (hst1 : starEach [a, b] X.env = (false, eval a X.env) :: starEach [b] X.env) (hst2 : starEach [b] X.env = (false, eval b X.env) :: starEach [] X.env)
    (hw : swappedStores [.Tuple [.Name x px, .Name y py] kt pt] (.Tuple [a, b] k2 pt2) X.env = pure (some [x, y]))
    (hs : swapsWithSole [.Tuple [.Name x px, .Name y py] kt pt] (.Tuple [a, b] k2 pt2) pos.line X.env = pure false) :
    QS X bs (.Assign [.Tuple [.Name x px, .Name y py] kt pt] (.Tuple [a, b] k2 pt2) pos) (fun D σ S => wa σ S fun u S1 => wb σ S1 fun v S2 => D.nx ((σ.set i (some u)).set j (some v)) S2) :=
  ps_imp (ps_par hc hN hi hj hij hx hy (qa_cons ha (qa_cons hb qa_nil hst2) hst1) hw hs) fun D σ H ⟨φ, σu, S, Du, hs, ho, q, k⟩ =>
    ⟨φ, σu, S, fun us S' => ∃ u v, us = [u, v] ∧ Du.nx ((σu.set i (some u)).set j (some v)) S', hs, ho, by
      have e : ∀ (u v : U) (S' : Sto), (∃ u' v', [u, v] = [u', v'] ∧ Du.nx ((σu.set i (some u')).set j (some v')) S') = Du.nx ((σu.set i (some u)).set j (some v)) S' := fun u v S' => propext ⟨fun ⟨_, _, h1, h⟩ => by cases h1; exact h, fun h => ⟨_, _, rfl, h⟩⟩
      simp only [e]
      exact q, fun us S1 φ1 vs H1 _ e1 o1 r1 q1 => by
        obtain ⟨u, v, rfl, q1⟩ := q1
        cases r1 with
        | cons p r =>
          cases r with
          | cons p' r =>
            cases r
            exact ⟨_, _, rfl, k.nx _ S1 φ1 _ H1 e1 (((hs.up e1).set p i).set p' j) o1 q1⟩⟩
theorem qs_par3 {i j l : Nat} {x y z : Str} {a b c : Expr} {px py pz pt : Pos} {kt k2 pt2} (hc : X.calm = true) (hN : X.N.Nodup) (hi : X.N[i]? = some x) (hj : X.N[j]? = some y) (hl : X.N[l]? = some z) (hij : i ≠ j) (hil : i ≠ l) (hjl : j ≠ l)
    (ha : QE X bs a wa) (hb : QE X bs b wb) (hcc : QE X bs c wc) (hst1 : starEach [a, b, c] X.env = (false, eval a X.env) :: starEach [b, c] X.env) (hst2 : starEach [b, c] X.env = (false, eval b X.env) :: starEach [c] X.env) (hst3 : starEach [c] X.env = (false, eval c X.env) :: starEach [] X.env)
    (hps : ∀ {ta : TA}, PA X [a, b, c] ta → PS X (.Assign [.Tuple [.Name x px, .Name y py, .Name z pz] kt pt] (.Tuple [a, b, c] k2 pt2) pos) (tPar3 i j l ta)) :
    QS X bs (.Assign [.Tuple [.Name x px, .Name y py, .Name z pz] kt pt] (.Tuple [a, b, c] k2 pt2) pos) (fun D σ S => wa σ S fun u S1 => wb σ S1 fun v S2 => wc σ S2 fun w S3 => D.nx (((σ.set i (some u)).set j (some v)).set l (some w)) S3) :=
  ps_imp (hps (qa_cons ha (qa_cons hb (qa_cons hcc qa_nil hst3) hst2) hst1)) fun D σ H ⟨φ, σu, S, Du, hs, ho, q, k⟩ =>
    ⟨φ, σu, S, fun us S' => ∃ u v w, us = [u, v, w] ∧ Du.nx (((σu.set i (some u)).set j (some v)).set l (some w)) S', hs, ho, by
      have e : ∀ (u v w : U) (S' : Sto), (∃ u' v' w', [u, v, w] = [u', v', w'] ∧ Du.nx (((σu.set i (some u')).set j (some v')).set l (some w')) S') = Du.nx (((σu.set i (some u)).set j (some v)).set l (some w)) S' := fun u v w S' => propext ⟨fun ⟨_, _, _, h1, h⟩ => by cases h1; exact h, fun h => ⟨_, _, _, rfl, h⟩⟩
      simp only [e]
      exact q, fun us S1 φ1 vs H1 _ e1 o1 r1 q1 => by
        obtain ⟨u, v, w, rfl, q1⟩ := q1
        cases r1 with
        | cons p r =>
          cases r with
          | cons p' r =>
            cases r with
            | cons p'' r =>
              cases r
              exact ⟨_, _, _, rfl, k.nx _ S1 φ1 _ H1 e1 ((((hs.up e1).set p i).set p' j).set p'' l) o1 q1⟩⟩
theorem qs_aug {i : Nat} {x : Str} {op : Operator} {ou : Op} {ti : TIp} {p' : Pos} (hN : X.N.Nodup) (hi : X.N[i]? = some x) (hx : Loc X.env.scope x) (he : QE X bs e we) (ho : PIp X op ti)
    (hw : ∀ (H : Hp) φ S x y v u Qu Q, StoOk X.K bs H φ S → Rep X.K H φ x v → Rep X.K H φ y u → augU ou x y S Qu → Fw X.K bs H φ Qu Q → ti v u H Q)
    (hf : X.fn x = true ∨ X.env.scope.names.lookup x = some .local) : QS X bs (.AugAssign (.Name x p') op e pos) (fun D σ S => ∃ x, σ[i]? = some (some x) ∧ we σ S fun y S1 => augU ou x y S1 fun z S2 => D.nx (σ.set i (some z)) S2) :=
  ps_imp (ps_aug hN hi hx he ho hf) fun D σ H ⟨φ, σu, S, Du, hs, ho, ⟨u, hu, q⟩, k⟩ => by
    obtain ⟨v, hv, r⟩ := hs.2 i u hu
    refine ⟨v, hv, φ, σu, S, _, hs, ho, q, fun y S1 φ1 v1 H1 e1 o1 r1 q1 => ?_⟩
    exact hw H1 φ1 S1 u y v v1 _ _ o1 (r.up e1) r1 q1 fun z S2 φ2 v2 H2 e2 o2 r2 q2 => k.nx _ S2 φ2 _ H2 (e1.trans e2) (((hs.up e1).up e2).set r2 i) o2 q2
theorem lnk_iadd {K : PySem.W.Frag} : ∀ (H : Hp) φ S x y v u Qu Q, StoOk K bs H φ S → Rep K H φ x v → Rep K H φ y u → augU .add x y S Qu → Fw K bs H φ Qu Q → ipI (fun i j => i + j) v u H Q := by
  intro H φ S x y v u Qu Q o rx ry h f
  cases x <;> cases y <;> try exact h.elim
  cases rx; cases ry
  exact ⟨_, _, rfl, rfl, f.int o h⟩
theorem lnk_isub {K : PySem.W.Frag} : ∀ (H : Hp) φ S x y v u Qu Q, StoOk K bs H φ S → Rep K H φ x v → Rep K H φ y u → augU .sub x y S Qu → Fw K bs H φ Qu Q → ipI (fun i j => i - j) v u H Q := by
  intro H φ S x y v u Qu Q o rx ry h f
  cases x <;> cases y <;> try exact h.elim
  cases rx; cases ry
  exact ⟨_, _, rfl, rfl, f.int o h⟩
theorem qs_app {apos cpos : Pos} (ho : QE X bs o wo) (he : QE X bs e we) (hb : attributeBase o "append" X.env (eval o X.env) = eval o X.env)
    (hf : ((backTo cpos (starEach [e] X.env)).all (fun x => !x.1) && (backToKw cpos (keywordEach [] X.env)).all (fun x => x.1.isSome) && decide ([e].length + ([] : List Keyword).length + (if ([] : List Keyword).isEmpty then 0 else 1) < 30)) = true)
    (hl : (apos.endLine == cpos.line) = true) (hst : starEach [e] X.env = (false, eval e X.env) :: starEach [] X.env) :
    QS X bs (.Expr (.Call (.Attribute o "append" apos) [e] [] cpos) pos) (fun D σ S => wo σ S fun x S1 => (∃ h, x = .ref h) ∧ we σ S1 fun y S2 => appU x y S2 fun S3 => D.nx σ S3) :=
  ps_imp (ps_expr (pe_bm PySem.F.plainAttrs_list PySem.F.slot_list_append PySem.F.type_list_append mt_append ho (pa_cons he pa_nil hst) hb hf hl hst rfl) rfl) fun D σ H ⟨φ, σu, S, Du, hs, ho, q, k⟩ =>
    ⟨φ, σu, S, _, hs, ho, q, fun x S1 φ1 v1 H1 e1 o1 r1 q1 => by
      obtain ⟨⟨h, rfl⟩, q1⟩ := q1
      obtain ⟨a, ⟨us⟩, rfl, p1, es1, vs, a1, rr⟩ := o1.of_ref r1
      refine ⟨.inl ⟨rfl, _, SqL.of a1⟩, φ1, σu, S1, _, hs.up e1, o1, q1, fun y S2 φ2 v2 H2 e2 o2 r2 q2 => ?_⟩
      obtain ⟨ws, e3, hl, q3⟩ := q2
      obtain ⟨a', vs2, ea, p2, a2, rr2⟩ := o2.list (.ref (pre_get e2.pre p1)) e3
      cases ea
      obtain ⟨e5, o5⟩ := o2.put p2 a2 (rr2.append (.cons r2 .nil))
      exact ⟨a, vs2, v2, rfl, rfl, a2, big_lt (by rw [← rr2.length]; exact hl), k.nx _ _ φ2 _ _ ((e1.trans e2).trans e5) (((hs.up e1).up e2).up e5) o5 q3⟩⟩
theorem qe_idx {apos cpos : Pos} (ho : QE X bs o wo) (he : QE X bs e we) (hb : attributeBase o "index" X.env (eval o X.env) = eval o X.env)
    (hf : ((backTo cpos (starEach [e] X.env)).all (fun x => !x.1) && (backToKw cpos (keywordEach [] X.env)).all (fun x => x.1.isSome) && decide ([e].length + ([] : List Keyword).length + (if ([] : List Keyword).isEmpty then 0 else 1) < 30)) = true)
    (hl : (apos.endLine == cpos.line) = true) (hst : starEach [e] X.env = (false, eval e X.env) :: starEach [] X.env) :
    QE X bs (.Call (.Attribute o "index" apos) [e] [] cpos) (fun σ S Q => wo σ S fun x S1 => (∃ h, x = .ref h) ∧ we σ S1 fun y S2 => idxU x y S2 Q) :=
  pe_imp (pe_bm PySem.F.plainAttrs_list PySem.F.slot_list_index PySem.F.type_list_index mt_index ho (pa_cons he pa_nil hst) hb hf hl hst rfl) fun σ H Q ⟨φ, σu, S, Qu, hs, ho, q, k⟩ =>
    ⟨φ, σu, S, _, hs, ho, q, fun x S1 φ1 v1 H1 e1 o1 r1 q1 => by
      obtain ⟨⟨h, rfl⟩, q1⟩ := q1
      obtain ⟨a, ⟨us⟩, rfl, p1, es1, vs, a1, rr⟩ := o1.of_ref r1
      refine ⟨.inl ⟨rfl, _, SqL.of a1⟩, φ1, σu, S1, _, hs.up e1, o1, q1, fun y S2 φ2 v2 H2 e2 o2 r2 q2 => ?_⟩
      cases y <;> try exact q2.elim
      cases r2
      rename_i j
      obtain ⟨⟨ws⟩, ns, j0, e3, e4, e5, e6, q3⟩ := q2
      obtain ⟨a', vs2, ea, p2, a2, rr2⟩ := o2.list (.ref (pre_get e2.pre p1)) e3
      cases ea
      have ev := ints_rep rr2 e4
      subst ev
      refine ⟨a, _, _, j0, .int j, rfl, rfl, SqL.of a2, rfl, ?_, ?_, ?_, fun m z' hm hz => ?_, k _ S2 φ2 _ H2 (e1.trans e2) o2 (.int _) q3⟩
      · rw [List.all_eq_true]
        intro w hw
        obtain ⟨i, _, rfl⟩ := List.mem_map.mp hw
        rfl
      · rw [List.getElem?_map, e5]; rfl
      · show ((j : Int) == j) = true
        exact beq_self_eq_true _
      · rw [List.getElem?_map, Option.map_eq_some_iff] at hz
        obtain ⟨i, hi, rfl⟩ := hz
        show ((i : Int) == j) = false
        rw [beq_eq_false_iff_ne]
        intro z
        exact e6 m hm (by rw [hi, z])⟩
theorem qs_while (hp : PassesOwn (model X.prog X.w) X.A X.env X.xe) (hc : QT X bs c wt) (hb : QSs X bs body w) : QS X bs (.While c body [] pos) (fun D σ S => ∃ n, whU wt w D n σ S) :=
  ps_imp (ps_while hp hc hb) fun D σ H ⟨φ, σu, S, Du, hs, ho, ⟨n, q⟩, k⟩ => by
    refine ⟨fun m σ' H' => ∃ φ' σu' S', SlotR X.K H' φ' σu' σ' ∧ StoOk X.K bs H' φ' S' ∧ Ext X.K H φ H' φ' ∧ whU wt w Du m σu' S', ⟨n, φ, σu, S, hs, ho, Ext.refl, q⟩, ?_⟩
    rintro m σ1 H1 ⟨φ1, σu1, S1, hs1, ho1, e1, q1⟩
    cases m with
    | zero => exact (show False from q1).elim
    | succ m =>
      refine ⟨φ1, σu1, S1, _, hs1, ho1, q1, fun t S2 φ2 H2 e2 o2 q2 => ?_⟩
      cases t with
      | true =>
        rw [if_pos rfl] at q2 ⊢
        refine ⟨fun σ' H' => ∃ φ' σu' S', SlotR X.K H' φ' σu' σ' ∧ StoOk X.K bs H' φ' S' ∧ Ext X.K H φ H' φ' ∧ whU wt w Du m σu' S', fun σ' H' h => ⟨m, Nat.lt_succ_self m, h⟩, φ2, σu1, S2, _, hs1.up e2, o2, q2, ?_⟩
        have e12 := e1.trans e2
        exact ⟨fun σu' S' φ' σ' H' e s o q => ⟨φ', σu', S', s, o, e12.trans e, q⟩, (k.up e12).rt, fun σu' S' φ' σ' H' e s o q => k.nx σu' S' φ' σ' H' (e12.trans e) s o q, fun σu' S' φ' σ' H' e s o q => ⟨φ', σu', S', s, o, e12.trans e, q⟩⟩
      | false =>
        rw [if_neg Bool.false_ne_true] at q2 ⊢
        exact k.nx σu1 S2 φ2 σ1 H2 (e1.trans e2) (hs1.up e2) o2 q2
theorem drop_of {α : Type} {l : List α} {i : Nat} {x : α} {xs : List α} (h : l.drop i = x :: xs) : l[i]? = some x ∧ l.drop (i + 1) = xs := by
  refine ⟨?_, ?_⟩
  · have : (l.drop i)[0]? = some x := by rw [h]; rfl
    simpa using this
  · have : (l.drop i).drop 1 = xs := by rw [h]; rfl
    rw [List.drop_drop] at this
    exact this
theorem qs_for {wi : WI} (hp : PassesOwn (model X.prog X.w) X.A X.env X.xe) (hc : X.calm = true) (hi : PI X tg iter (LI X.K bs wi)) (hg : PG X tg (LG X.K bs A)) (hb : QSs X bs body w) (hs : ∀ x, foldedSetIterable iter X.env x = pure x) :
    QS X bs (.For tg iter body [] pos) (fun D σ S => wi σ S fun its lv li S1 => forU A w D lv li its σ S1) :=
  ps_imp (ps_for hp hc hi hg hb hs) fun D σ H ⟨φ, σu, S, Du, hs, ho, q, k⟩ => by
    refine ⟨φ, σu, S, _, hs, ho, q, fun its lv li S1 φ1 J H1 e1 o1 it q1 => ?_⟩
    refine ⟨fun i m σ' H' => m = its.length - i ∧ i ≤ its.length ∧ ∃ φ' σu' S', SlotR X.K H' φ' σu' σ' ∧ StoOk X.K bs H' φ' S' ∧ Ext X.K H1 φ1 H' φ' ∧ forU A w Du lv li (its.drop i) σu' S',
      ⟨its.length, rfl, Nat.zero_le _, φ1, σu, S1, hs.up e1, o1, Ext.refl, q1⟩, ?_⟩
    rintro i m σ2 H2 ⟨rfl, hi, φ2, σu2, S2, hs2, o2, e2, q2⟩
    cases hd : its.drop i with
    | nil =>
      rw [hd] at q2
      obtain ⟨lv2, q2⟩ := q2
      have hn : i = its.length := by
        have := congrArg List.length hd
        rw [List.length_drop] at this
        simp at this
        omega
      exact .inl ⟨(it i H2 φ2 S2 e2.toUp o2 lv2).2 hn, k.nx σu2 S2 φ2 σ2 H2 (e1.trans e2) hs2 o2 q2⟩
    | cons x xs =>
      rw [hd] at q2
      obtain ⟨lv2, q2⟩ := q2
      obtain ⟨hx, hxs⟩ := drop_of hd
      have hlt : i < its.length := by
        rcases Nat.lt_or_ge i its.length with q | q
        · exact q
        · rw [List.getElem?_eq_none q] at hx; cases hx
      obtain ⟨go, yl⟩ := (it i H2 φ2 S2 e2.toUp o2 lv2).1 x hx
      refine .inr ⟨go, fun σ' H' => ∃ φ' σu' S', SlotR X.K H' φ' σu' σ' ∧ StoOk X.K bs H' φ' S' ∧ Ext X.K H1 φ1 H' φ' ∧ forU A w Du lv li xs σu' S', fun σ' H' h => ⟨its.length - (i + 1), by omega, rfl, hlt, by rw [hxs]; exact h⟩, fun v H3 hy => ?_⟩
      obtain ⟨e3, o3, r3, _⟩ := yl v H3 hy
      refine ⟨φ2, σu2, S2, x, _, hs2.up e3, o3, r3, q2, fun σu4 S4 φ4 σ4 H4 e4 s4 o4 q4 => ?_⟩
      have e24 := e2.trans (e3.trans e4)
      refine ⟨φ4, σu4, S4, _, s4, o4, q4, ?_⟩
      exact ⟨fun σu' S' φ' σ' H' e s o q => ⟨φ', σu', S', s, o, e24.trans e, q⟩, fun u S' φ' v H' e o r q => k.rt u S' φ' v H' ((e1.trans e24).trans e) o r q, fun σu' S' φ' σ' H' e s o q => k.nx σu' S' φ' σ' H' ((e1.trans e24).trans e) s o q,
        fun σu' S' φ' σ' H' e s o q => ⟨φ', σu', S', s, o, e24.trans e, q⟩⟩
end
end Ek

namespace Ek
open PySem PySem.Spec PyProof.Rows L2
theorem mk_enum {x : Value} {ob : Obj} {Hh : Heap → Prop} (B : Begins x ob Hh) :
    Meets (Builtin.«enumerate.__new__» ⟨[.type "enumerate", x], []⟩) (fun _ R sh => Hh sh.heap ∧ R (.ok (.ret (.ref (sh.heap.push ob).objs.size)))
      { sh with heap := (sh.heap.push ob).push { cls := .type "enumerate", data := .fields #[.none, .bool false, .ref sh.heap.objs.size, rawInt 0, .none, .none] } }) :=
  .of_wp fun pr w A R s0 hyp => by
    obtain ⟨hp, gg, dd, tk, os⟩ := s0
    obtain ⟨a1, a2⟩ := hyp
    have hsub := sub_enumerate
    have itr : ∀ {A2 : Around} {E2 : Value → Shared → Prop} {Q2 : Value → Shared → Prop}, Q2 (.ref hp.objs.size) ⟨hp.push ob, gg, dd, tk, os⟩ → wpAny (model pr w) A2 (pyIter x) Q2 E2 ⟨hp, gg, dd, tk, os⟩ := fun z => B.iter pr w _ _ ⟨hp, gg, dd, tk, os⟩ _ a1 z
    wp_walk using itr
    refine wpAny_stack_any fun sk => wpAny_pure ?_
    split
    · rename_i c0 _ _ _ _ _
      cases (c0 == Value.type "enumerate") <;> (wp_walk using itr) <;> exact ⟨_, rfl, a2⟩
    · wp_walk using itr; exact ⟨_, rfl, a2⟩
section
variable {prog : Program} {w : World} {A : Around} {E : Value → Shared → Prop} {s : Shared}
theorem call_enum {x : Value} {ob : Obj} {Hh : Heap → Prop} {Q : Value → Shared → Prop} (B : Begins x ob Hh) (h0 : Hh s.heap)
    (h : ∀ h2, IsEnum h2 (s.heap.objs.size + 1) s.heap.objs.size 0 .none → h2.get? s.heap.objs.size = some ob → (∀ b oo, s.heap.get? b = some oo → h2.get? b = some oo) → Q (.ref (s.heap.objs.size + 1)) { s with heap := h2 }) :
    wpAny (model prog w) A (call (.type "enumerate") [x]) Q E s := by
  refine callType_new F.called_enumerate (by decide) (F.typeCall_enumerate_1 _) (F.newCall_enumerate_1 _) (fun o2 => F.args_object_init_2 o2 _) F.entry_enumerate_new (mk_enum B) ⟨h0, ?_⟩
  have sz : (s.heap.push ob).objs.size = s.heap.objs.size + 1 := Heap.size_push ..
  show _ ∧ _
  rw [sz]
  have en : IsEnum ((s.heap.push ob).push { cls := .type "enumerate", data := .fields #[.none, .bool false, .ref s.heap.objs.size, rawInt 0, .none, .none] }) (s.heap.objs.size + 1) s.heap.objs.size 0 .none := by
    have z := Heap.get?_push_size (s.heap.push ob) (o := { cls := .type "enumerate", data := .fields #[.none, .bool false, .ref s.heap.objs.size, rawInt 0, .none, .none] }) rfl
    rw [sz] at z
    exact z
  exact ⟨⟨_, en, rfl⟩, h _ en (Heap.get?_push_of_some _ (Heap.get?_push_size _ B.free)) fun b oo z => Heap.get?_push_of_some _ (Heap.get?_push_of_some _ z)⟩
end
/-- the tuple at a, each item in a new pair -/
def Iet (K : PySem.W.Frag) (a : Addr) : It :=
  ⟨fun i H => ∃ (xs : List V) (x : V), SqT K H a xs ∧ xs[i]? = some x, fun i H v H' => ∃ T x, v = .ref T ∧ H T = none ∧ H' = upd H T (.tup [.int (i : Nat), x]) ∧ ∀ xs, SqT K H a xs → xs[i]? = some x, fun i H => ∃ xs : List V, SqT K H a xs ∧ xs.length = i⟩
theorem turn_et {P : Program} {w : World} {K : PySem.W.Frag} {elts : List Expr} {kk : Nat} {tpos : Pos} (a e it : Addr) (ne1 : e ≠ it) (ne2 : a ≠ it) (ne3 : e ≠ a) :
    Turn P w K (.Tuple elts kk tpos) (Iet K a) [e, it] e (fun i h => (∃ old, IsEnum h e it ((i : Nat) : Int) old) ∧ h.IsTupleIter it a i) where
  mem := List.mem_cons_self
  obj := fun i h st b hb => by
    rcases st with ⟨⟨old, q1⟩, ob, q2, _, q3⟩
    rcases List.mem_cons.mp hb with z | z
    · subst z; exact ⟨_, q1, fun v q => nomatch q⟩
    · rw [List.mem_singleton.mp z]; exact ⟨ob, q2, fun v q => by rw [q3] at q; cases q⟩
  keep := fun i h h' st k => ⟨let ⟨old, q1⟩ := st.1; ⟨old, k e (by simp) _ q1⟩, st.2.at fun o q => k it (by simp) o q⟩
  item := by
    intro X hP hw hK hc i pins s0 σ H E I hf st hg
    subst hP hw hK
    rcases st with ⟨⟨old, q1⟩, q2⟩
    rcases hg with ⟨xs, x, q3, q4⟩
    obtain ⟨its, rv, p, _⟩ := I.tuple q3
    obtain ⟨u, q5, ru⟩ := rv.get q4
    have tp : s0.heap.IsTuple a its.toArray := p
    have hd0 : X.A.in1.handled = none := I.ok.hd hc
    have D := Draws.tuple (prog := X.prog) (w := X.w) hd0 it a ne2 its.toArray
    have lt : i < its.toArray.size := by
      rcases Nat.lt_or_ge i its.length with z | z
      · simpa using z
      · rw [List.getElem?_eq_none z] at q5; cases q5
    have l1 : e < s0.heap.objs.size := Heap.lt_size q1
    have l2 : it < s0.heap.objs.size := by obtain ⟨_, z, _⟩ := id q2; exact Heap.lt_size z
    refine wpAny_pyNext_enum_itemD D q1 ⟨q2, tp⟩ lt ne1 (by simp [ne1, ne3]) fun y h1 tk py eo st1 ht hsz hk => ?_
    have ey : y = u := by
      have z : its.toArray[i]? = some y := py
      rw [List.getElem?_toArray, q5] at z
      exact (Option.some.inj z).symm
    subst ey
    refine ⟨_, rfl, wpAny_letOwnedTupleGo_enum (s := { s0 with heap := h1, toks := tk + 1 }) eo fun h2 eo2 sb => ?_⟩
    have ht2 : h2.get? s0.heap.objs.size = some { cls := .type "tuple", data := .seq #[.int i tk, y] } := (sb.2 _ (Nat.ne_of_gt l1)).trans ht
    have nw : ObjOk X.prog X.w (upd H s0.heap.objs.size (.tup [.int (i : Nat), x])) h2 s0.heap.objs.size (.tup [.int (i : Nat), x]) := ⟨by show 2 ≤ sizeLine; decide, [.int i tk, y], .cons ⟨_, rfl⟩ (.cons ru .nil), ⟨_, ht2, rfl, _, rfl⟩⟩
    have I1 : Inv X pins σ (upd H s0.heap.objs.size (.tup [.int (i : Nat), x])) { s0 with heap := h2, toks := tk + 1 } :=
      I.turnedNew (ch := [e, it]) (fun b ob hb q => (sb.2 b (fun z => hb (by simp [z]))).trans (hk b ob (fun z => hb (by simp [z])) (fun z => hb (by simp [z])) q)) hf (Nat.le_refl _) nw
    refine ⟨.ref s0.heap.objs.size, _, I1, rfl, ⟨_, x, rfl, I.hok.fresh (Nat.le_refl _), rfl, fun ys hy => by rw [I.tuple_inj hy q3]; exact q4⟩, ⟨⟨y, ?_⟩, st1.1.at fun o q => (sb.2 it (Ne.symm ne1)).trans q⟩, fun b hb => ?_⟩
    · rw [show ((i + 1 : Nat) : Int) = (i : Int) + 1 by omega]; exact eo2
    · have lb : b < s0.heap.objs.size := by
        rcases List.mem_cons.mp hb with z | z
        · rw [z]; exact l1
        · rw [List.mem_singleton.mp z]; exact l2
      rw [upd_ne (Nat.ne_of_lt lb)]
      exact (hf b hb).1
  done := by
    intro X hP hw hK hc i pins s0 σ H E I hf st hg
    subst hP hw hK
    rcases st with ⟨⟨old, q1⟩, q2⟩
    rcases hg with ⟨xs, q3, q4⟩
    obtain ⟨its, rv, p, _⟩ := I.tuple q3
    have tp : s0.heap.IsTuple a its.toArray := p
    have hd0 : X.A.in1.handled = none := I.ok.hd hc
    have D := Draws.tuple (prog := X.prog) (w := X.w) hd0 it a ne2 its.toArray
    obtain ⟨f0, f1, f2, f3, f4, f5⟩ := hf it (by simp)
    have sz : its.toArray.size = i := by rw [← q4, rv.length]; simp
    exact wpAny_pyNext_enum_endD D q1 (by rw [sz]; exact ⟨q2, tp⟩) fun h1 eb => ⟨rfl, I.turned (t' := s0.toks) (fun b o hb q => eb b o hb q) f0 f1 f3 f4 f5⟩
  self := fun A i s0 Q E st h => let ⟨⟨_, q1⟩, _⟩ := st; wpAny_pyIter_enum q1 h
/-- a list or a tuple, in pairs -/
def iEn (K : PySem.W.Frag) (ta : TA) : TI := fun σ H R => ta σ H fun vs H1 => ∃ a, vs = [.ref a] ∧ (((∃ xs, SqL K H1 a xs) ∧ R (Ite K a) H1) ∨ ((∃ xs, SqT K H1 a xs) ∧ R (Iet K a) H1))
theorem pi_en {X : Cx} {e : Expr} {ta : TA} {p pos tpos : Pos} {elts : List Expr} {kk : Nat} (hg : Gl X "enumerate") (hm : X.mg "enumerate" = none) (ha : PA X [e] ta) (hs : starEach [e] X.env = [(false, eval e X.env)]) :
    PI X (.Tuple elts kk tpos) (.Call (.Name "enumerate" p) [e] [] pos) (iEn X.K ta) := by
  refine ⟨fun pins s0 σ H R I h => Call_ (ld_blt I hg hm boot_enumerate (PyProof.Rows.callWith_type1 (thn (ha.run pos pins s0 σ H _ I h) fun us s1 hh => ?_) hs rfl))⟩
  obtain ⟨vs, H1, I1, r1, a, ex, q⟩ := hh
  subst ex
  cases r1 with
  | cons r rr =>
  cases rr
  cases r
  have fpk : ∀ b, s1.heap.objs.size ≤ b → FpOk X pins H1 b := fun b hb => I1.fpOk hb (I1.hok.fresh hb)
  rcases q with ⟨⟨xs, hq⟩, q⟩ | ⟨⟨xs, hq⟩, q⟩
  · obtain ⟨its, rv, pl, _⟩ := I1.list hq
    refine call_enum (begins_list a its.toArray) pl.isList fun h2 en hit hk => wpAny_pyIter_enum en ?_
    have I2 : Inv X pins σ H1 { s1 with heap := h2 } := I1.kept (t' := s1.toks) hk
    refine ⟨s1.heap.objs.size + 1, [s1.heap.objs.size + 1, s1.heap.objs.size], _, _, H1, rfl, I2, turn_enum a (s1.heap.objs.size + 1) s1.heap.objs.size, ⟨⟨.none, en⟩, ⟨_, hit, rfl, rfl⟩, Nat.succ_ne_self _⟩, fun b hb => fpk b ?_, q⟩
    rcases List.mem_cons.mp hb with z | z
    · rw [z]; exact Nat.le_succ _
    · rw [List.mem_singleton.mp z]; exact Nat.le_refl _
  · obtain ⟨its, rv, pl, _⟩ := I1.tuple hq
    have tp : s1.heap.IsTuple a its.toArray := pl
    have la : a < s1.heap.objs.size := by obtain ⟨_, z, _⟩ := id tp; exact Heap.lt_size z
    refine call_enum (begins_tuple a its.toArray) tp fun h2 en hit hk => wpAny_pyIter_enum en ?_
    have I2 : Inv X pins σ H1 { s1 with heap := h2 } := I1.kept (t' := s1.toks) hk
    refine ⟨s1.heap.objs.size + 1, [s1.heap.objs.size + 1, s1.heap.objs.size], _, _, H1, rfl, I2, turn_et a (s1.heap.objs.size + 1) s1.heap.objs.size (Nat.succ_ne_self _) (Nat.ne_of_lt la) (Nat.ne_of_gt (Nat.lt_succ_of_lt la)), ⟨⟨.none, en⟩, ⟨_, hit, rfl, rfl⟩⟩, fun b hb => fpk b ?_, q⟩
    rcases List.mem_cons.mp hb with z | z
    · rw [z]; exact Nat.le_succ _
    · rw [List.mem_singleton.mp z]; exact Nat.le_refl _
theorem enum_get : ∀ {us : List U} {k i : Nat} {u : U}, (enumU k us)[i]? = some u → ∃ w, us[i]? = some w ∧ u = .tup [.int ((k + i : Nat) : Int), w]
  | [], _, _, _, h => by simp [enumU] at h
  | w :: us, k, 0, u, h => by simp [enumU] at h; exact ⟨w, rfl, by rw [← h]; rfl⟩
  | w :: us, k, i + 1, u, h => by
    rw [enumU, List.getElem?_cons_succ] at h
    obtain ⟨w', h1, h2⟩ := enum_get h
    refine ⟨w', h1, ?_⟩
    rw [h2, show k + 1 + i = k + (i + 1) by omega]
theorem enum_len : ∀ (us : List U) (k : Nat), (enumU k us).length = us.length
  | [], _ => rfl
  | _ :: us, k => by simp [enumU, enum_len us]
section
variable {K : PySem.W.Frag} {bs : Hp × List Pl}
theorem pair_new {H : Hp} {φ : List Pl} {S : Sto} {i : Nat} {w : U} {v : V} {T : Addr} (o : StoOk K bs H φ S) (r : Rep K H φ w v) (hT : H T = none) :
    Ext K H φ (upd H T (.tup [.int (i : Nat), v])) φ ∧ StoOk K bs (upd H T (.tup [.int (i : Nat), v])) φ S ∧ Rep K (upd H T (.tup [.int (i : Nat), v])) φ (.tup [.int (i : Nat), w]) (.ref T) ∧ (∀ D vs, H D = some (.lst vs) → upd H T (.tup [.int (i : Nat), v]) D = some (.lst vs)) := by
  refine ⟨ext_new hT, o.new hT, rep_tup hT (.cons (.int _) (.cons r .nil)), fun D vs hD => ?_⟩
  rw [upd_ne]
  · exact hD
  · intro z
    subst z
    rw [hT] at hD; cases hD
theorem it_et {H : Hp} {φ : List Pl} {us : List U} {vs : List V} {a : Addr} (p : SqT K H a vs) (r : Reps K H φ us vs) : ItOk K bs H φ (Iet K a) (enumU 0 us) none [] := by
  intro i H' φ' S x o _
  have p' := x.tup _ _ p
  refine ⟨fun u e => ?_, fun e => ?_⟩
  · obtain ⟨w, e1, rfl⟩ := enum_get e
    obtain ⟨v, ev, rv⟩ := r.get e1
    refine ⟨⟨vs, v, p', ev⟩, fun y H'' hy => ?_⟩
    obtain ⟨T, x2, rfl, hT, rfl, hx⟩ := hy
    have z := hx vs p'
    rw [ev] at z
    cases z
    rw [Nat.zero_add]
    exact pair_new o (Rep.mono x _ _ rv) hT
  · exact ⟨vs, p', by rw [e, enum_len, r.length]⟩
theorem it_el {H : Hp} {φ : List Pl} {S : Sto} {us : List U} {a : Addr} {h : Nat} (o : StoOk K bs H φ S) (ha : φ[h]? = some (a, none)) (e : S[h]? = some (.lst us)) : ItOk K bs H φ (Ite K a) (enumU 0 us) (some h) us := by
  intro i H' φ' S' x o' hl
  obtain ⟨⟨ws⟩, e1, e2⟩ := hl
  simp only [Ob.items] at e2
  subst e2
  obtain ⟨a', vs, ea, _, h1, r⟩ := o'.list (.ref (pre_get x.pre ha)) e1
  cases ea
  have p' : SqL K H' a vs := SqL.of h1
  refine ⟨fun u e => ?_, fun e => ?_⟩
  · obtain ⟨w, e1, rfl⟩ := enum_get e
    obtain ⟨v, ev, rv⟩ := r.get e1
    refine ⟨⟨vs, v, p', ev⟩, fun y H'' hy => ?_⟩
    obtain ⟨T, x2, rfl, hT, rfl, hx⟩ := hy
    have z := hx vs p'
    rw [ev] at z
    cases z
    rw [Nat.zero_add]
    exact pair_new o' rv hT
  · exact ⟨vs, p', by rw [e, enum_len, r.length]; exact Nat.le_refl _⟩
end
theorem qi_en {X : Cx} {bs : Hp × List Pl} {a : Expr} {elts : List Expr} {kk : Nat} {tpos p pos : Pos} {wes : Sl → Sto → (List U → Sto → Prop) → Prop} (hg : Gl X "enumerate") (hm : X.mg "enumerate" = none) (ha : QA X bs [a] wes) (hs : starEach [a] X.env = [(false, eval a X.env)]) :
    PI X (.Tuple elts kk tpos) (.Call (.Name "enumerate" p) [a] [] pos) (LI X.K bs fun σ S R => wes σ S fun us S1 => srcU 2 us S1 fun its lv li => R its lv li S1) :=
  pi_imp (pi_en hg hm ha hs) fun σ H R ⟨φ, σu, S, Ru, hs, ho, q, kk⟩ => ⟨φ, σu, S, _, hs, ho, q, fun us S1 φ1 vs H1 hl e1 o1 r1 q1 => by
    match us, hl with
    | [u], _ =>
      cases r1 with
      | cons p r =>
        cases r
        cases p with
        | tup p r => exact ⟨_, rfl, .inr ⟨⟨_, p⟩, kk _ _ _ S1 φ1 _ H1 e1 o1 (it_et p r) q1⟩⟩
        | @ref hh a p =>
          obtain ⟨⟨ws⟩, e2, q2⟩ := q1
          obtain ⟨a', vs, ea, p1, ha, r2⟩ := o1.list (.ref p) e2
          cases ea
          exact ⟨a, rfl, .inl ⟨⟨_, SqL.of ha⟩, kk _ _ _ S1 φ1 _ H1 e1 o1 (it_el o1 p e2) q2⟩⟩
        | _ => exact (show False from q1).elim⟩
end Ek

namespace Ek
open PySem PySem.Spec PyProof.Rows L2

theorem wipe_get {vs : List Nat} {j : Nat} : ∀ {σ : L2.St}, (wipe σ vs)[j]? = if j ∈ vs then (if j < σ.length then some none else none) else σ[j]? := by
  intro σ
  induction vs with
  | nil => simp [wipe]
  | cons v vs ih =>
    unfold wipe
    by_cases h : v = j
    · subst h
      by_cases hl : v < σ.length
      · rw [List.getElem?_set_self (by rw [wipe_length]; exact hl)]; simp [hl]
      · rw [List.getElem?_eq_none (by rw [List.length_set, wipe_length]; omega)]; simp [hl]
    · rw [List.getElem?_set_ne h, ih]
      have : (j ∈ v :: vs) ↔ (j ∈ vs) := by simp [Ne.symm h]
      simp only [this]
theorem wipe_set {σ : L2.St} {vs : List Nat} {i : Nat} {x : Option V} (h : i ∈ vs) : wipe (σ.set i x) vs = wipe σ vs := by
  apply List.ext_getElem?
  intro j
  rw [wipe_get, wipe_get, List.length_set]
  by_cases q : j ∈ vs
  · rw [if_pos q, if_pos q]
  · rw [if_neg q, if_neg q, List.getElem?_set_ne (fun e : i = j => q (by rw [← e]; exact h))]
theorem wipe_wipe {σ : L2.St} {vs : List Nat} : wipe (wipe σ vs) vs = wipe σ vs := by
  apply List.ext_getElem?
  intro j
  rw [wipe_get, wipe_get, wipe_length]
  by_cases q : j ∈ vs
  · rw [if_pos q, if_pos q]
  · simp only [if_neg q]
theorem wipeU_some {σ : Sl} {i : Nat} {x : U} : ∀ {vs : List Nat}, (wipeU σ vs)[i]? = some (some x) → σ[i]? = some (some x) ∧ i ∉ vs
  | [], h => ⟨h, by simp⟩
  | v :: vs, h => by
    unfold wipeU at h
    by_cases hi : v = i
    · subst hi
      by_cases hv : v < (wipeU σ vs).length
      · rw [List.getElem?_set_self hv] at h; cases h
      · rw [List.getElem?_eq_none (by simpa using hv)] at h; cases h
    · rw [List.getElem?_set_ne hi] at h
      obtain ⟨h1, h2⟩ := wipeU_some h
      exact ⟨h1, by simp only [List.mem_cons, not_or]; exact ⟨fun e => hi e.symm, h2⟩⟩
theorem wipeU_len (σ : Sl) : ∀ vs : List Nat, (wipeU σ vs).length = σ.length
  | [] => rfl
  | v :: vs => by unfold wipeU; rw [List.length_set, wipeU_len σ vs]
theorem SlotR.wipe {K : PySem.W.Frag} {H : Hp} {φ : List Pl} {σu : Sl} {σ : L2.St} (s : SlotR K H φ σu σ) (vs : List Nat) : SlotR K H φ (wipeU σu vs) (L2.wipe σ vs) := by
  refine ⟨by rw [wipeU_len, wipe_length]; exact s.1, fun i u e => ?_⟩
  obtain ⟨e1, n⟩ := wipeU_some e
  obtain ⟨v, h, r⟩ := s.2 i u e1
  exact ⟨v, by rw [wipe_get, if_neg n]; exact h, r⟩
/-- the block's targets -/
def gNames : List Nat → TGs
  | [] => gNil
  | i :: r => gCons (gName i) (gNames r)
def gB (K : PySem.W.Frag) (ts : List Nat) (tp : Bool) : TG := if tp = true then gTup K ts.length (gNames ts) else match ts with
  | [i] => gName i
  | _ => fun _ _ _ _ => False
theorem gNames_to {K : PySem.W.Frag} {H : Hp} {φ : List Pl} {R : L2.St → Hp → Prop} {vs : List Nat} {σ0 : L2.St} : ∀ {ts : List Nat} {us : List U} {xs : List V} {σu : Sl} {σ : L2.St}, (∀ i ∈ ts, i ∈ vs) → us.length = ts.length → Reps K H φ us xs → SlotR K H φ σu σ → L2.wipe σ vs = L2.wipe σ0 vs →
    (∀ σ', SlotR K H φ ((ts.zip us).foldl (fun s p => s.set p.1 (some p.2)) σu) σ' → L2.wipe σ' vs = L2.wipe σ0 vs → R σ' H) → gNames ts xs σ H R
  | [], [], _, σu, σ, _, _, r, s, e, k => by
    cases r
    exact ⟨rfl, k σ s e⟩
  | i :: ts, u :: us, _, σu, σ, hv, hl, r, s, e, k => by
    cases r with
    | cons p q => exact ⟨_, _, rfl, gNames_to (fun j hj => hv j (List.mem_cons_of_mem _ hj)) (by simpa using hl) q (s.set p i) ((wipe_set (hv i List.mem_cons_self)).trans e) k⟩
  | [], _ :: _, _, _, _, _, hl, _, _, _, _ => by simp at hl
  | _ :: _, [], _, _, _, _, hl, _, _, _, _ => by simp at hl
theorem gB_to {K : PySem.W.Frag} {H : Hp} {φ : List Pl} {R : L2.St → Hp → Prop} {vs ts : List Nat} {tp : Bool} {u : U} {x : V} {σu : Sl} {σ : L2.St} {Ru : Sl → Prop} (hv : ∀ i ∈ ts, i ∈ vs) (r : Rep K H φ u x) (s : SlotR K H φ σu (L2.wipe σ vs)) (q : bindU ts tp u σu Ru)
    (k : ∀ σu' σ', Ru σu' → SlotR K H φ σu' σ' → L2.wipe σ' vs = L2.wipe σ vs → R σ' H) : gB K ts tp x (L2.wipe σ vs) H R := by
  unfold bindU at q
  unfold gB
  cases tp with
  | true =>
    rw [if_pos rfl] at q ⊢
    obtain ⟨us, rfl, hl, q⟩ := q
    cases r with
    | @tup _ xs a p r => exact ⟨a, xs, rfl, p, by rw [← r.length]; exact hl, gNames_to hv hl r s wipe_wipe fun σ' s' e => k _ σ' q s' e⟩
  | false =>
    rw [if_neg Bool.false_ne_true] at q ⊢
    match ts, hv, q with
    | [i], hv, q => exact k _ _ q (s.set r i) ((wipe_set (hv i (by simp))).trans wipe_wipe)
section
variable {X : Cx} {bs : Hp × List Pl} {elt tg iter : Expr} {ifs : List Expr} {wi : WI} {wt : Sl → Sto → BQ → Prop} {we : Sl → Sto → UQ → Prop} {ts : List Nat} {tp : Bool} {vs : List Nat}
theorem lc_to {K : PySem.W.Frag} (hv : ∀ i ∈ ts, i ∈ vs) (σ : L2.St) (H : Hp) (Q : VK)
    (h : LE K bs (fun σ S Q => wi σ S fun its lv li S1 => compU (bindU ts tp) wt we (wipeU σ vs) lv li Q its [] S1) σ H Q) :
    tLc (LI K bs wi) (gB K ts tp) (LT K bs wt) (LE K bs we) vs σ H Q := by
  obtain ⟨φ, σu, S, Qu, hs, ho, q, k⟩ := h
  refine ⟨φ, σu, S, _, hs, ho, q, fun its lv li S1 φ1 J H1 e1 o1 it q1 D hD => ?_⟩
  have hb0 : bs.1 D = none := o1.ext.none_of hD (o1.notin hD)
  refine ⟨fun i m H' => m = its.length - i ∧ i ≤ its.length ∧ ∃ φ' S' au av, StoOk K bs H' φ' S' ∧ Ext K H1 φ1 H' φ' ∧ D ∉ Ad φ' ∧ H' D = some (.lst av) ∧ Reps K H' φ' au av ∧ compU (bindU ts tp) wt we (wipeU σu vs) lv li Qu (its.drop i) au S',
    ⟨its.length, rfl, Nat.zero_le _, φ1, S1, [], [], o1.new hD, ext_new hD, o1.notin hD, upd_same, .nil, q1⟩, ?_⟩
  rintro i m H2 ⟨rfl, hi, φ2, S2, au, av, o2, e2, n2, hD2, ra, q2⟩
  cases hd : its.drop i with
  | nil =>
    rw [hd] at q2
    obtain ⟨lv2, q2⟩ := q2
    have hn : i = its.length := by
      have := congrArg List.length hd
      rw [List.length_drop] at this
      simp at this
      omega
    refine .inl ⟨(it i H2 φ2 S2 e2.toUp o2 lv2).2 hn, k _ _ _ _ _ (e1.trans (e2.seen hD)) (o2.seen hb0 n2 hD2 ra) (.ref ?_) q2⟩
    rw [← o2.len]; simp
  | cons x xs =>
    rw [hd] at q2
    obtain ⟨lv2, hlen, q2⟩ := q2
    obtain ⟨hx, hxs⟩ := drop_of hd
    have hlt : i < its.length := by
      rcases Nat.lt_or_ge i its.length with q | q
      · exact q
      · rw [List.getElem?_eq_none q] at hx; cases hx
    obtain ⟨go, yl⟩ := (it i H2 φ2 S2 e2.toUp o2 lv2).1 x hx
    refine .inr ⟨go, fun H' => ∃ φ' S' au av, StoOk K bs H' φ' S' ∧ Ext K H1 φ1 H' φ' ∧ D ∉ Ad φ' ∧ H' D = some (.lst av) ∧ Reps K H' φ' au av ∧ compU (bindU ts tp) wt we (wipeU σu vs) lv li Qu xs au S',
      fun H' h => ⟨its.length - (i + 1), by omega, rfl, hlt, by rw [hxs]; exact h⟩, fun v H3 hy => ?_⟩
    obtain ⟨e3, o3, r3, keep3⟩ := yl v H3 hy
    have hs3 : SlotR K H3 φ2 (wipeU σu vs) (L2.wipe σ vs) := (((hs.wipe vs).up e1).up e2).up e3
    have hD3 : H3 D = some (.lst av) := keep3 D av hD2
    refine gB_to hv r3 hs3 q2 fun σu4 σ4 q4 s4 ew => ⟨ew, φ2, σu4, S2, _, s4, o3, q4, fun t S5 φ5 H5 e5 o5 q5 => ?_⟩
    have n5 : D ∉ Ad φ5 := fun m => by
      have := e5.new D m n2
      rw [hD3] at this; cases this
    have hD5 : H5 D = some (.lst av) := e5.oth D _ hD3 n5
    have e25 := (e2.trans e3).trans e5
    cases t with
    | false =>
      rw [if_neg Bool.false_ne_true] at q5
      show (if false = true then _ else _)
      rw [if_neg Bool.false_ne_true]
      exact ⟨φ5, S5, au, av, o5, e25, n5, hD5, (ra.up e3).up e5, q5⟩
    | true =>
      rw [if_pos rfl] at q5
      show (if true = true then _ else _)
      rw [if_pos rfl]
      refine ⟨φ5, σu4, S5, _, s4.up e5, o5, q5, fun y S6 φ6 w H6 e6 o6 r6 q6 => ?_⟩
      have n6 : D ∉ Ad φ6 := fun m => by
        have := e6.new D m n5
        rw [hD5] at this; cases this
      have hD6 : H6 D = some (.lst av) := e6.oth D _ hD5 n6
      have ra6 : Reps K H6 φ6 au av := ((ra.up e3).up e5).up e6
      refine ⟨av, hD6, big_lt (by rw [← ra.length]; exact hlen), φ6, S6, au ++ [y], av ++ [w], o6.aside hb0 n6 hD6, (e25.trans e6).aside hD hD6, n6, upd_same, ?_, q6⟩
      exact (Reps.mono (up_aside hD6) _ _ ra6).append (.cons (Rep.mono (up_aside hD6) _ _ r6) .nil)
variable {scope : Scope} {own : List (Str × Nat)} {pos : Pos}
end

theorem StoOk.rebase {K : PySem.W.Frag} {bs : Hp × List Pl} {H : Hp} {φ : List Pl} {S : Sto} (o : StoOk K bs H φ S) : StoOk K (H, φ) H φ S := ⟨o.len, o.nd, o.ob, Ext.refl⟩
theorem StoOk.unbase {K : PySem.W.Frag} {bs : Hp × List Pl} {H H' : Hp} {φ φ' : List Pl} {S S' : Sto} (o : StoOk K bs H φ S) (o' : StoOk K (H, φ) H' φ' S') : StoOk K bs H' φ' S' := ⟨o'.len, o'.nd, o'.ob, o.ext.trans o'.ext⟩
def spC (K : PySem.W.Frag) (cls : Nat → Value) (C : CallS) (f : Nat) : Sp := fun vs H Q E => ∃ φ us S Qu Eu, Reps K H φ us vs ∧ StoOk K (H, φ) H φ S ∧ C f us S Qu Eu ∧ Fw K (H, φ) H φ Qu Q ∧
  ∀ c S' φ' H', StoOk K (H, φ) H' φ' S' → Eu c S' → E (cls c) none H'
/-- what is wished of an exception within a body -/
def LW (K : PySem.W.Frag) (bs : Hp × List Pl) (cls : Nat → Value) (ex : XQ) : WX := fun cl d σ H => ∃ c σu S φ, cl = cls c ∧ d = none ∧ SlotR K H φ σu σ ∧ StoOk K bs H φ S ∧ ex c σu S
section
variable {X : Cx} {bs : Hp × List Pl} {k : Nat} {f : Addr} {fd : FuncData} {ps : List Str} {cls : Nat → Value} {C : CallS} {g : Nat} {ex : XQ} {x : Str} {p pos : Pos} {e : Expr} {es : List Expr} {wes : Sl → Sto → (List U → Sto → Prop) → Prop}
theorem qe_call (F : FnOk X.prog X.w X.K X.mg X.base (L2.CX X.prog X.w) k f fd ps (spC X.K cls C g)) (hr : Room k X.A) (hg : Gl X x) (hm : X.mg x = some (.ref f)) (hk : PySem.W.keepIn X.K (.ref f) = true) (hb : Binds X.K fd ps [])
    (tk : Takes X (LW X.K bs cls ex)) (ha : QA X bs (e :: es) wes) (hdb : (x == ("__debug__" : Str)) = false) (he : starEach (e :: es) X.env = (false, eval e X.env) :: starEach es X.env) (hpl : (backTo pos (starEach es X.env)).any (·.1) = false) :
    QE X bs (.Call (.Name x p) (e :: es) [] pos) (fun σ S Q => wes σ S fun us S1 => C g us S1 Q fun c S2 => ex c σ S2) :=
  pe_imp (pe_callS F hr hg hm hk hb (fun σ => passAt tk σ) ha hdb he hpl) fun σ H Q ⟨φ, σu, S, Qu, hs, ho, q, kk⟩ => ⟨φ, σu, S, _, hs, ho, q, fun us S1 φ1 vs H1 _ e1 o1 r1 q1 =>
    ⟨φ1, us, S1, Qu, _, r1, o1.rebase, q1, fun u S' φ' v H' e2 o2 r2 q2 => kk u S' φ' v H' (e1.trans e2) (o1.unbase o2) r2 q2, fun c S' φ' H' o2 q2 =>
      ⟨c, σu, S', φ', rfl, rfl, hs.up (e1.trans o2.ext), o1.unbase o2, q2⟩⟩⟩
/-- a def at an address that can be called -/
def Cal (X : Cx) (k : Nat) (f : Addr) (sp : Sp) : Prop := ∃ fd ps, PySem.W.keepIn X.K (.ref f) = true ∧ Binds X.K fd ps [] ∧ FnOk X.prog X.w X.K X.mg X.base (L2.CX X.prog X.w) k f fd ps sp
def tCallVS (X : Cx) (k i : Nat) (E : L2.St → XK) (t : TA) : TE := fun σ H Q => ∃ f sp, Cal X k f sp ∧ σ[i]? = some (some (.ref f)) ∧ t σ H fun vs H1 => sp vs H1 Q (E σ)
/-- f(e, ..), f a local name that holds a def; what it raises passes on -/
theorem pe_callVS {i : Nat} {E : L2.St → XK} {t : TA} (hr : Room k X.A) (hN : X.N[i]? = some x) (hv : Vis X.env.scope x) (hx : ∀ σ, PassesAt (L2.CX X.prog X.w) X σ (E σ)) (ha : PA X (e :: es) t)
    (hd : (x == ("__debug__" : Str)) = false) (hcd : (x == ("__classdict__" : Str)) = false) (he : starEach (e :: es) X.env = (false, eval e X.env) :: starEach es X.env) (hpl : (backTo pos (starEach es X.env)).any (·.1) = false) :
    PE X (.Call (.Name x p) (e :: es) [] pos) (tCallVS X k i E t) := by
  refine ⟨fun pins s σ H Q I h => ?_⟩
  obtain ⟨f, sp, ⟨fd, ps, hk, hb, F⟩, hs, h⟩ := h
  refine wpAny_Call_Name_kw (thn ((pe_var (pos := p) (i := i) hN hv hd hcd).run pins s σ H (fun v H1 => v = .ref f ∧ H1 = H) I ⟨.ref f, hs, rfl, rfl⟩) fun u s1 ⟨v, H1, I1, r1, ev, eH⟩ => ?_)
  subst ev
  rw [eH] at I1
  cases r1
  refine PySem.W.callWith_K (h₀ := X.base) I.ok.mod.kin hk (thn (ha.run pos pins s1 σ H _ I1 h) fun us s2 ⟨vs, H2, I2, r, q⟩ => ⟨I2.kIn, ?_⟩) he hpl
  exact run_fnS F hr hb (hx σ) I2 r q
theorem qe_callv {i : Nat} {FL : List Str} (hr : Room k X.A) (hN : X.N[i]? = some x) (hv : Vis X.env.scope x) (hF : ∀ g y a, FL[g]? = some y → FnAt X.K y a → Cal X k a (spC X.K cls C g))
    (tk : Takes X (LW X.K bs cls ex)) (ha : QA X bs (e :: es) wes) (hd : (x == ("__debug__" : Str)) = false) (hcd : (x == ("__classdict__" : Str)) = false) (he : starEach (e :: es) X.env = (false, eval e X.env) :: starEach es X.env) (hpl : (backTo pos (starEach es X.env)).any (·.1) = false) :
    QE X bs (.Call (.Name x p) (e :: es) [] pos) (fun σ S Q => ∃ y g, σ[i]? = some (some (.fn y)) ∧ FL[g]? = some y ∧ wes σ S fun us S1 => C g us S1 Q fun c S2 => ex c σ S2) :=
  pe_imp (pe_callVS (k := k) (i := i) hr hN hv (fun σ => passAt tk σ) ha hd hcd he hpl) fun σ H Q ⟨φ, σu, S, Qu, hs, ho, ⟨y, g, e1, e2, q⟩, kk⟩ => by
    obtain ⟨v, hv, r⟩ := hs.2 i _ e1
    cases r with
    | @fn _ a pf =>
      exact ⟨a, _, hF g y a e2 pf, hv, φ, σu, S, _, hs, ho, q, fun us S1 φ1 vs H1 _ e1 o1 r1 q1 =>
        ⟨φ1, us, S1, Qu, _, r1, o1.rebase, q1, fun u S' φ' v H' e2 o2 r2 q2 => kk u S' φ' v H' (e1.trans e2) (o1.unbase o2) r2 q2, fun c S' φ' H' o2 q2 =>
          ⟨c, σu, S', φ', rfl, rfl, hs.up (e1.trans o2.ext), o1.unbase o2, q2⟩⟩⟩
theorem qs_raise {m : Str} {j : Nat} {p2 rp : Pos} {bmB : List Value} {B newId initId : String} {c : Nat} {A : Addr} (hc : X.calm = true) (tk : Takes X (LW X.K bs cls ex)) (Fb : ExcBaseFacts B newId initId bmB) (q : PySem.W.excIn X.K A bmB newId = true) (gC : X.mg x = some (.ref A)) (kC : PySem.W.keepIn X.K (.ref A) = true) (r : Raises X (.ref A)) (hg : Gl X x)
    (hdb : (x == ("__debug__" : Str)) = false) (hcl : cls c = .ref A) : QS X bs (.Raise (some (.Call (.Name x p) [.Constant (.str m) j p2] [] pos)) none rp) (fun _ σ S => ex c σ S) :=
  ps_imp (ps_raise hc tk (pmk_own Fb q gC kC r hg hdb)) fun D σ H ⟨φ, σu, S, Du, hs, ho, q, k⟩ => ⟨c, σu, S, φ, hcl.symm, rfl, hs, ho, q⟩
end
end Ek

namespace Ek
open PySem PySem.Spec PyProof.Rows L2
section
theorem zip_lookup : ∀ {fs : List Str} {vs : List V} {i : Nat} {f : Str} {v : V}, fs.Nodup → fs[i]? = some f → vs[i]? = some v → (fs.zip vs).lookup f = some v
  | [], _, _, _, _, _, h, _ => by simp at h
  | g :: fs, [], _, _, _, _, _, h => by simp at h
  | g :: fs, x :: vs, 0, f, v, _, h1, h2 => by
    simp at h1 h2
    subst h1; subst h2
    show List.lookup g ((g, x) :: fs.zip vs) = _
    rw [List.lookup_cons, beq_self_eq_true]
  | g :: fs, x :: vs, i + 1, f, v, nd, h1, h2 => by
    rw [List.getElem?_cons_succ] at h1 h2
    have ne : f ≠ g := fun e => (List.nodup_cons.mp nd).1 (e ▸ List.mem_of_getElem? h1)
    show List.lookup f ((g, x) :: fs.zip vs) = _
    rw [List.lookup_cons, (by simpa using ne : (f == g) = false)]
    exact zip_lookup (List.nodup_cons.mp nd).2 h1 h2
theorem zip_none : ∀ {fs : List Str} {vs : List V} {m : Str}, m ∉ fs → (fs.zip vs).lookup m = none
  | [], _, _, _ => rfl
  | _ :: _, [], _, _ => rfl
  | g :: fs, x :: vs, m, h => by
    have ne : m ≠ g := fun e => h (e ▸ List.mem_cons_self)
    show List.lookup m ((g, x) :: fs.zip vs) = _
    rw [List.lookup_cons, (by simpa using ne : (m == g) = false)]
    exact zip_none fun z => h (List.mem_cons_of_mem _ z)
theorem zip_put {y : V} : ∀ {fs : List Str} {vs : List V} {i : Nat} {f : Str}, fs.Nodup → fs[i]? = some f → i ≤ vs.length → putF f y (fs.zip vs) = fs.zip (vs.take i ++ y :: vs.drop (i + 1))
  | [], _, _, _, _, h, _ => by simp at h
  | g :: fs, [], 0, f, _, h, _ => by
    simp at h; subst h
    show [(g, y)] = (g, y) :: fs.zip []
    rw [List.zip_nil_right]
  | g :: fs, [], i + 1, f, _, _, h => by simp at h
  | g :: fs, x :: vs, 0, f, _, h, _ => by
    simp at h; subst h
    show (if g = g then _ else _) = _
    rw [if_pos rfl]; rfl
  | g :: fs, x :: vs, i + 1, f, nd, h1, h2 => by
    rw [List.getElem?_cons_succ] at h1
    have ne : ¬ g = f := fun e => (List.nodup_cons.mp nd).1 (e ▸ List.mem_of_getElem? h1)
    show (if g = f then _ else (g, x) :: putF f y (fs.zip vs)) = _
    rw [if_neg ne, zip_put (List.nodup_cons.mp nd).2 h1 (by simpa using h2)]
    rfl
end
section
variable {K : PySem.W.Frag} {b : Hp × List Pl} {H H' : Hp} {φ φ' : List Pl} {S : Sto}
theorem StoOk.obj (s : StoOk K b H φ S) {h : Nat} {v : V} {c : Cl} (r : Rep K H φ (.obj c h) v) : ∃ a us C dx vs, v = .ref a ∧ φ[h]? = some (a, some c) ∧ S[h]? = some (.lst us) ∧ FnAt K c.name C ∧ H a = some (.ins C dx (c.fs.zip vs)) ∧ us.length ≤ c.fs.length ∧ c.fs.Nodup ∧ Reps K H φ us vs := by
  cases r with
  | @obj _ a _ p =>
    have hp : h < φ.length := by
      rcases Nat.lt_or_ge h φ.length with q | q
      · exact q
      · rw [List.getElem?_eq_none q] at p; cases p
    have hl : h < S.length := by rw [← s.len]; exact hp
    have z := s.ob h _ _ p (List.getElem?_eq_getElem hl)
    cases q : S[h] with
    | lst us =>
      rw [q] at z
      obtain ⟨C, dx, vs, z1, z2, z3, z4, z5⟩ := z
      exact ⟨a, us, C, dx, vs, rfl, p, by rw [List.getElem?_eq_getElem hl, q], z1, z2, z3, z4, z5⟩
/-- a new object, without fields -/
theorem StoOk.made (s : StoOk K b H φ S) {x dx C : Addr} {c : Cl} (hx : H x = none) (hd : H dx = none) (ne : dx ≠ x) (hC : FnAt K c.name C) (nd : c.fs.Nodup) :
    Ext K H φ (upd (upd H dx (.own x)) x (.ins C dx [])) (φ ++ [(x, some c)]) ∧ StoOk K b (upd (upd H dx (.own x)) x (.ins C dx [])) (φ ++ [(x, some c)]) (S ++ [.lst []]) ∧ Rep K (upd (upd H dx (.own x)) x (.ins C dx [])) (φ ++ [(x, some c)]) (.obj c S.length) (.ref x) := by
  have hx' : (upd H dx (.own x)) x = none := by rw [upd_ne (Ne.symm ne)]; exact hx
  have u1 : Ext K H φ (upd H dx (.own x)) φ := ext_new hd
  have u2 : Up K (upd H dx (.own x)) φ (upd (upd H dx (.own x)) x (.ins C dx [])) (φ ++ [(x, some c)]) := up_more hx'
  have up : Up K H φ (upd (upd H dx (.own x)) x (.ins C dx [])) (φ ++ [(x, some c)]) := ⟨List.prefix_append _ _, fun a vs h => u2.tup a vs (u1.tup a vs h), fun a o u h => u2.frz a o u (u1.frz a o u h)⟩
  obtain ⟨e, o⟩ := s.more (p := (x, some c)) (o := .lst []) hx up (fun a u h => by rw [upd_ne (ne_of_none h hx), upd_ne (ne_of_none h hd)]; exact h)
    ⟨C, dx, [], hC, by show upd _ x _ x = _; rw [upd_same, List.zip_nil_right], Nat.zero_le _, nd, .nil⟩
  exact ⟨e, o, .obj (by rw [← s.len]; simp)⟩
/-- a field gets a value -/
theorem StoOk.field (s : StoOk K b H φ S) {h i : Nat} {a C dx : Addr} {c : Cl} {us : List U} {vs : List V} {u : U} {v : V} {f : Str} (ha : φ[h]? = some (a, some c)) (hC : FnAt K c.name C) (hw : H a = some (.ins C dx (c.fs.zip vs))) (nd : c.fs.Nodup) (hl : us.length ≤ c.fs.length) (r : Reps K H φ us vs)
    (hf : c.fs[i]? = some f) (hi : i ≤ us.length) (ru : Rep K H φ u v) :
    Ext K H φ (upd H a (.ins C dx (putF f v (c.fs.zip vs)))) φ ∧ StoOk K b (upd H a (.ins C dx (putF f v (c.fs.zip vs)))) φ (S.set h (.lst (us.take i ++ u :: us.drop (i + 1)))) := by
  have hin : i < c.fs.length := (List.getElem?_eq_some_iff.mp hf).1
  have up : Up K H φ (upd H a (.ins C dx (putF f v (c.fs.zip vs)))) φ := upd_up hw (fun _ z => by cases z) (fun _ _ z => by cases z)
  refine s.alter (p := (a, some c)) ha hw (fun _ z => by cases z) (fun _ _ z => by cases z) ⟨C, dx, vs.take i ++ v :: vs.drop (i + 1), hC, ?_, ?_, nd, ?_⟩
  · show upd H a _ a = _
    rw [upd_same, zip_put nd hf (by rw [← r.length]; exact hi)]
  · rw [List.length_append, List.length_take, List.length_cons, List.length_drop]; omega
  · exact ((Reps.mono up _ _ (r.take i)).append (.cons (Rep.mono up _ _ ru) (Reps.mono up _ _ (r.drop (i + 1)))))
/-- what is known of a class -/
structure CC (K : PySem.W.Frag) (mg : Str → Option Value) (c : Cl) (C : Addr) : Prop where
  at_ : FnAt K c.name C
  mgc : mg c.name = some (.ref C)
  cl : Cls K C
  na : ∀ f ∈ c.fs, NoAttr K C f
  nd : c.fs.Nodup
  few : c.fs.length < 1000
theorem fn_uniq {x : Str} {a a' : Addr} (h : FnAt K x a) (h' : FnAt K x a') : a = a' := by
  have := h.symm.trans h'
  cases this; rfl
end
section
variable {X : Cx} {bs : Hp × List Pl} {k : Nat} {cls : Nat → Value} {C : CallS} {g : Nat} {ex : XQ} {x f m : Str} {p pos pos' apos : Pos} {e o value : Expr} {es : List Expr} {we wo : Sl → Sto → UQ → Prop} {wes : Sl → Sto → (List U → Sto → Prop) → Prop} {c : Cl} {i : Nat} {CA : Addr}
theorem qe_fld (kc : CC X.K X.mg c CA) (hf : c.fs[i]? = some f) (he : QE X bs e we) (hb : attributeBase e f X.env (eval e X.env) = eval e X.env) : QE X bs (.Attribute e f pos) (fun σ S Q => we σ S fun x S1 => fldU c i x S1 Q) :=
  pe_imp (pe_fld he hb) fun σ H Q ⟨φ, σu, S, Qu, hs, ho, q, k⟩ => ⟨φ, σu, S, _, hs, ho, q, fun x S1 φ1 v1 H1 e1 o1 r1 q1 => by
    cases x <;> try exact q1.elim
    rename_i c' h
    obtain ⟨rfl, us, u, es, eu, q1⟩ := q1
    obtain ⟨a, us', C', dx, vs, rfl, p1, es', hC, hH, hl, nd, rr⟩ := o1.obj r1
    rw [es] at es'
    cases es'
    obtain ⟨w, ew, rw_⟩ := rr.get eu
    cases fn_uniq hC kc.at_
    exact ⟨a, _, dx, _, w, rfl, hH, kc.cl, kc.na f (List.mem_of_getElem? hf), zip_lookup nd hf ew, k u S1 φ1 w H1 e1 o1 rw_ q1⟩⟩
theorem qs_fset (kc : CC X.K X.mg c CA) (hf : c.fs[i]? = some f) (ho : QE X bs o wo) (he : QE X bs value we) (hsw : swapsWith value (some (.Attribute o f pos')) pos.line X.env = pure false) :
    QS X bs (.Assign [.Attribute o f pos'] value pos) (fun D σ S => we σ S fun u S1 => wo σ S1 fun x S2 => fsetU c i x u S2 fun S3 => D.nx σ S3) :=
  ps_imp (ps_fld ho he hsw) fun D σ H ⟨φ, σu, S, Du, hs, ho, q, k⟩ => ⟨φ, σu, S, _, hs, ho, q, fun u S1 φ1 v1 H1 e1 o1 r1 q1 => ⟨φ1, σu, S1, _, hs.up e1, o1, q1, fun x S2 φ2 v2 H2 e2 o2 r2 q2 => by
    cases x <;> try exact q2.elim
    rename_i c' h
    obtain ⟨rfl, hi, us, es, hu, q2⟩ := q2
    obtain ⟨a, us', C', dx, vs, rfl, p1, es', hC, hH, hl, nd, rr⟩ := o2.obj r2
    rw [es] at es'
    cases es'
    cases fn_uniq hC kc.at_
    obtain ⟨e3, o3⟩ := o2.field p1 hC hH nd hl rr hf hu (r1.up e2)
    refine ⟨a, _, dx, _, rfl, hH, kc.cl, kc.na f (List.mem_of_getElem? hf), ?_, k.nx _ _ φ2 _ _ ((e1.trans e2).trans e3) (((hs.up e1).up e2).up e3) o3 q2⟩
    have := kc.few
    rw [List.length_zip]; omega⟩⟩
theorem qs_faug {op : Operator} {ou : Op} {rd : V → V → Hp → VK → Prop} (kc : CC X.K X.mg c CA) (hf : c.fs[i]? = some f) (ho : QE X bs o wo) (he : QE X bs value we) (hop : InOp X op rd)
    (hw : ∀ (H : Hp) φ S x y v u Qu Q, StoOk X.K bs H φ S → Rep X.K H φ x v → Rep X.K H φ y u → augU ou x y S Qu → Fw X.K bs H φ Qu Q → rd v u H Q) :
    QS X bs (.AugAssign (.Attribute o f pos') op value pos) (fun D σ S => wo σ S fun x S1 => fldU c i x S1 fun y S2 => we σ S2 fun z S3 => augU ou y z S3 fun w S4 => fsetU c i x w S4 fun S5 => D.nx σ S5) :=
  ps_imp (ps_fldaug ho he hop) fun D σ H ⟨φ, σu, S, Du, hs, ho, q, k⟩ => ⟨φ, σu, S, _, hs, ho, q, fun x S1 φ1 v1 H1 e1 o1 r1 q1 => by
    cases x <;> try exact q1.elim
    rename_i c' h
    obtain ⟨rfl, us, u, es, eu, q1⟩ := q1
    obtain ⟨a, us', C', dx, vs, rfl, p1, es', hC, hH, hl, nd, rr⟩ := o1.obj r1
    rw [es] at es'
    cases es'
    obtain ⟨w, ew, rw_⟩ := rr.get eu
    cases fn_uniq hC kc.at_
    refine ⟨a, _, dx, _, w, rfl, hH, kc.cl, kc.na f (List.mem_of_getElem? hf), zip_lookup nd hf ew, φ1, σu, S1, _, hs.up e1, o1, q1, fun z S2 φ2 v2 H2 e2 o2 r2 q2 => ?_⟩
    refine hw H2 φ2 S2 u z w v2 _ _ o2 (rw_.up e2) r2 q2 fun w3 S3 φ3 v3 H3 e3 o3 r3 q3 => ?_
    obtain ⟨_, hi, us3, es3, hu3, q3⟩ := q3
    obtain ⟨a3, us3', C3, dx3, vs3, ea, p3, es3', hC3, hH3, hl3, nd3, rr3⟩ := o3.obj ((r1.up e2).up e3)
    cases ea
    rw [es3] at es3'
    cases es3'
    cases fn_uniq hC3 kc.at_
    obtain ⟨e4, o4⟩ := o3.field p3 hC3 hH3 nd3 hl3 rr3 hf hu3 r3
    refine ⟨dx3, _, hH3, ?_, k.nx _ _ φ3 _ _ (((e1.trans e2).trans e3).trans e4) ((((hs.up e1).up e2).up e3).up e4) o4 q3⟩
    have := kc.few
    rw [List.length_zip]; omega⟩
theorem lnk_fadd {K : PySem.W.Frag} : ∀ (H : Hp) φ S x y v u Qu Q, StoOk K bs H φ S → Rep K H φ x v → Rep K H φ y u → augU .add x y S Qu → Fw K bs H φ Qu Q → rAdd v u H Q := by
  intro H φ S x y v u Qu Q o rx ry h f
  cases x <;> cases y <;> try exact h.elim
  cases rx; cases ry
  exact ⟨_, _, rfl, rfl, f.int o h⟩
theorem lnk_fsub {K : PySem.W.Frag} : ∀ (H : Hp) φ S x y v u Qu Q, StoOk K bs H φ S → Rep K H φ x v → Rep K H φ y u → augU .sub x y S Qu → Fw K bs H φ Qu Q → rSub v u H Q := by
  intro H φ S x y v u Qu Q o rx ry h f
  cases x <;> cases y <;> try exact h.elim
  cases rx; cases ry
  exact ⟨_, _, rfl, rfl, f.int o h⟩
/-- what a call hands on -/
theorem call_to {φ φ1 : List Pl} {σu : Sl} {S1 : Sto} {H H1 : Hp} {Qu : UQ} {Q : VK} {us : List U} {vs : List V} (hs : SlotR X.K H φ σu σ) (e1 : Ext X.K H φ H1 φ1) (o1 : StoOk X.K bs H1 φ1 S1) (r1 : Reps X.K H1 φ1 us vs) (q1 : C g us S1 Qu fun c S2 => ex c σu S2)
    (kk : ∀ u S' φ' v H', Ext X.K H φ H' φ' → StoOk X.K bs H' φ' S' → Rep X.K H' φ' u v → Qu u S' → Q v H') : spC X.K cls C g vs H1 Q (WE (LW X.K bs cls ex) σ) :=
  ⟨φ1, us, S1, Qu, _, r1, o1.rebase, q1, fun u S' φ' v H' e2 o2 r2 q2 => kk u S' φ' v H' (e1.trans e2) (o1.unbase o2) r2 q2, fun c S' φ' H' o2 q2 =>
      ⟨c, σu, S', φ', rfl, rfl, hs.up (e1.trans o2.ext), o1.unbase o2, q2⟩⟩
def tMethE (CA : Addr) (m : Str) (sp : Sp) (E : L2.St → XK) (ta : TE) (t : TA) : TE := fun σ H Q => ta σ H fun x H1 => ∃ a dx fs, x = .ref a ∧ H1 a = some (.ins CA dx fs) ∧ fs.lookup m = none ∧ t σ H1 fun vs H2 => sp (x :: vs) H2 Q (E σ)
def tMakeE (CA : Addr) (sp : Sp) (E : L2.St → XK) (t : TA) : TE := fun σ H Q => t σ H fun vs H1 => ∀ x dx, H1 x = none → H1 dx = none → dx ≠ x →
  sp (.ref x :: vs) (upd (upd H1 dx (.own x)) x (.ins CA dx [])) (fun v H2 => v = .non ∧ Q (.ref x) H2) (E σ)
variable {j : Nat} {fA : Addr} {fd : FuncData} {ps : List Str} {sp : Sp} {E : L2.St → XK} {ta : TE} {t : TA} {CX : CXT}
theorem pe_methE {pl : Sem Bool} (he : PE X o ta) (kc : Cls X.K CA) (hm : Meth X.K CA m fA) (F : FnOk X.prog X.w X.K X.mg X.base CX j fA fd ps sp) (hr : Room j X.A) (hb : Binds X.K fd ps []) (hx : ∀ σ, PassesAt CX X σ (E σ)) (ha : PA X (e :: es) t)
    (hst : starEach (e :: es) X.env = (false, eval e X.env) :: starEach es X.env) (hpl : (backTo pos (starEach es X.env)).any (·.1) = false)
    (ht : eval (.Call (.Attribute o m apos) (e :: es) [] pos) X.env = (do
      let ov ← eval o X.env
      standAt apos.atName
      let (f, first) ← holding [ov] (getMethod ov m pl)
      callWith pos f first (backTo pos (starEach (e :: es) X.env)) (backToKw pos (keywordEach [] X.env)))) :
    PE X (.Call (.Attribute o m apos) (e :: es) [] pos) (tMethE CA m sp E ta t) := by
  refine ⟨fun pins s σ H Q I h => ?_⟩
  refine PySem.W.methodCall_KW (pl := pl) (thn (he.run pins s σ H _ I h) fun u s1 ⟨x, H1, I1, rx, a, dx, fs, ex, ea, l, q⟩ => ?_) ht
  subst ex
  obtain rfl : u = Value.ref a := rx
  refine getmeth_ok I1 ea kc hm l ?_
  refine PySem.W.callWith_K (first := [.ref a]) (h₀ := X.base) I.ok.mod.kin hm.kp (thn (ha.run pos pins s1 σ H1 _ I1 q) fun us s2 ⟨vs, H2, I2, r, q2⟩ => ⟨I2.kIn, ?_⟩) hst hpl
  exact run_fnS (us := .ref a :: us) (vs := .ref a :: vs) F hr hb (hx σ) I2 (.cons rfl r) q2
theorem pe_methE0 {pl : Sem Bool} (he : PE X o ta) (kc : Cls X.K CA) (hm : Meth X.K CA m fA) (F : FnOk X.prog X.w X.K X.mg X.base CX j fA fd ps sp) (hr : Room j X.A) (hb : Binds X.K fd ps []) (hx : ∀ σ, PassesAt CX X σ (E σ))
    (ht : eval (.Call (.Attribute o m apos) [] [] pos) X.env = (do
      let ov ← eval o X.env
      standAt apos.atName
      let (f, first) ← holding [ov] (getMethod ov m pl)
      callWith pos f first (backTo pos (starEach [] X.env)) (backToKw pos (keywordEach [] X.env)))) :
    PE X (.Call (.Attribute o m apos) [] [] pos) (tMethE CA m sp E ta tNil) := by
  refine ⟨fun pins s σ H Q I h => ?_⟩
  refine PySem.W.methodCall_KW (pl := pl) (thn (he.run pins s σ H _ I h) fun u s1 ⟨x, H1, I1, rx, a, dx, fs, ex, ea, l, q⟩ => ?_) ht
  subst ex
  obtain rfl : u = Value.ref a := rx
  refine getmeth_ok I1 ea kc hm l ?_
  exact PySem.W.callWith_K0 (first := [.ref a]) I1.kIn hm.kp (run_fnS (us := [.ref a]) (vs := [.ref a]) F hr hb (hx σ) I1 (.cons rfl .nil) q)
theorem run_makeE {pins : List (Addr × Obj)} {σ : L2.St} {H : Hp} {s : Shared} {Q : VK} {us : List Value} {vs : List V} (M : Mk X.K CA fA) (F : FnOk X.prog X.w X.K X.mg X.base CX j fA fd ps sp) (hr : Room (j + 1) X.A) (hb : Binds X.K fd ps [])
    (hx : PassesAt CX X σ (E σ)) (I : Inv X pins σ H s) (r : Vals vs us)
    (h : ∀ x dx, H x = none → H dx = none → dx ≠ x → sp (.ref x :: vs) (upd (upd H dx (.own x)) x (.ins CA dx [])) (fun v H2 => v = .non ∧ Q (.ref x) H2) (E σ)) :
    wpAny (model X.prog X.w) X.A (call (.ref CA) us) (EP X pins σ Q) X.xe s := by
  have hq := h (s.heap.objs.size + 1) s.heap.objs.size (I.hok.fresh (Nat.le_succ _)) (I.hok.fresh (Nat.le_refl _)) (Nat.ne_of_lt (Nat.lt_succ_self _))
  have I2 := Inv.made (C := CA) I
  have r2 : Vals (V.ref (s.heap.objs.size + 1) :: vs) (Value.ref (s.heap.objs.size + 1) :: us) := .cons rfl r
  have hl : (Value.ref (s.heap.objs.size + 1) :: us).length = ps.length := by
    have e := r2.length
    rw [F.len _ _ _ _ hq] at e
    exact e.symm
  have bb := hb _ (Value.ref (s.heap.objs.size + 1) :: us) I2.kIn (by rw [List.append_nil]; exact hl)
  rw [List.append_nil] at bb
  refine wpAny_call (make_map (f := fA) I.kIn M.makes M.init (beq_iff_eq.mp M.fn) (codeAny_mono (F.run _ X.stack _ _ ⟨Value.ref (s.heap.objs.size + 1) :: us, []⟩ (Value.ref (s.heap.objs.size + 1) :: us) _ _ (E σ) (hr.make CA us [])
    (I2.env0.make CA us []) bb r2 hq) fun r s' hq' => ?_))
  cases r with
  | error e => exact hx pins _ _ e s' I2 hq'
  | ok fl =>
    cases fl with
    | ret u =>
      obtain ⟨v, H', I3, rv, ev, q3⟩ := I2.after hq'
      subst ev
      exact ⟨rv, ⟨V.ref (s.heap.objs.size + 1), H', I3, rfl, q3⟩⟩
    | next => exact False.elim hq'
    | brk => exact False.elim hq'
    | cont => exact False.elim hq'
theorem pe_makeE (M : Mk X.K CA fA) (F : FnOk X.prog X.w X.K X.mg X.base CX j fA fd ps sp) (hr : Room (j + 1) X.A) (hg : Gl X x) (hm : X.mg x = some (.ref CA)) (hb : Binds X.K fd ps []) (hx : ∀ σ, PassesAt CX X σ (E σ))
    (ha : PA X (e :: es) t) (hdb : (x == ("__debug__" : Str)) = false) (he : starEach (e :: es) X.env = (false, eval e X.env) :: starEach es X.env) (hpl : (backTo pos (starEach es X.env)).any (·.1) = false) :
    PE X (.Call (.Name x p) (e :: es) [] pos) (tMakeE CA sp E t) := by
  refine ⟨fun pins s σ H Q I h => ?_⟩
  refine wpAny_Call_Name_kw (ld_glob I hg hm ?_ hdb)
  refine PySem.W.callWith_K (h₀ := X.base) I.ok.mod.kin M.kp (thn (ha.run pos pins s σ H _ I h) fun us s1 ⟨vs, H1, I1, r, q⟩ => ⟨I1.kIn, ?_⟩) he hpl
  exact run_makeE M F hr hb (hx σ) I1 r q
theorem qe_meth {pl : Sem Bool} (kc : CC X.K X.mg c CA) (hm : Meth X.K CA m fA) (hn : m ∉ c.fs) (ho : QE X bs o wo) (F : FnOk X.prog X.w X.K X.mg X.base (L2.CX X.prog X.w) j fA fd ps (spC X.K cls C g)) (hr : Room j X.A) (hb : Binds X.K fd ps []) (tk : Takes X (LW X.K bs cls ex)) (ha : QA X bs (e :: es) wes)
    (hst : starEach (e :: es) X.env = (false, eval e X.env) :: starEach es X.env) (hpl : (backTo pos (starEach es X.env)).any (·.1) = false)
    (ht : eval (.Call (.Attribute o m apos) (e :: es) [] pos) X.env = (do
      let ov ← eval o X.env
      standAt apos.atName
      let (f, first) ← holding [ov] (getMethod ov m pl)
      callWith pos f first (backTo pos (starEach (e :: es) X.env)) (backToKw pos (keywordEach [] X.env)))) :
    QE X bs (.Call (.Attribute o m apos) (e :: es) [] pos) (fun σ S Q => wo σ S fun x S1 => (∃ h, x = .obj c h) ∧ wes σ S1 fun us S2 => C g (x :: us) S2 Q fun c S3 => ex c σ S3) :=
  pe_imp (pe_methE ho kc.cl hm F hr hb (fun σ => passAt tk σ) ha hst hpl ht) fun σ H Q ⟨φ, σu, S, Qu, hs, ho, q, kk⟩ => ⟨φ, σu, S, _, hs, ho, q, fun x S1 φ1 v1 H1 e1 o1 r1 q1 => by
    obtain ⟨⟨h, rfl⟩, q1⟩ := q1
    obtain ⟨a, us', C', dx, vs, rfl, p1, es', hC, hH, hl, nd, rr⟩ := o1.obj r1
    cases fn_uniq hC kc.at_
    refine ⟨a, dx, _, rfl, hH, zip_none hn, φ1, σu, S1, _, hs.up e1, o1, q1, fun us S2 φ2 vs2 H2 _ e2 o2 r2 q2 => ?_⟩
    exact call_to hs (e1.trans e2) o2 (.cons (r1.up e2) r2) q2 kk⟩
theorem qe_meth0 {pl : Sem Bool} (kc : CC X.K X.mg c CA) (hm : Meth X.K CA m fA) (hn : m ∉ c.fs) (ho : QE X bs o wo) (F : FnOk X.prog X.w X.K X.mg X.base (L2.CX X.prog X.w) j fA fd ps (spC X.K cls C g)) (hr : Room j X.A) (hb : Binds X.K fd ps []) (tk : Takes X (LW X.K bs cls ex))
    (ht : eval (.Call (.Attribute o m apos) [] [] pos) X.env = (do
      let ov ← eval o X.env
      standAt apos.atName
      let (f, first) ← holding [ov] (getMethod ov m pl)
      callWith pos f first (backTo pos (starEach [] X.env)) (backToKw pos (keywordEach [] X.env)))) :
    QE X bs (.Call (.Attribute o m apos) [] [] pos) (fun σ S Q => wo σ S fun x S1 => (∃ h, x = .obj c h) ∧ C g [x] S1 Q fun c S3 => ex c σ S3) :=
  pe_imp (pe_methE0 ho kc.cl hm F hr hb (fun σ => passAt tk σ) ht) fun σ H Q ⟨φ, σu, S, Qu, hs, ho, q, kk⟩ => ⟨φ, σu, S, _, hs, ho, q, fun x S1 φ1 v1 H1 e1 o1 r1 q1 => by
    obtain ⟨⟨h, rfl⟩, q1⟩ := q1
    obtain ⟨a, us', C', dx, vs, rfl, p1, es', hC, hH, hl, nd, rr⟩ := o1.obj r1
    cases fn_uniq hC kc.at_
    refine ⟨a, dx, _, rfl, hH, zip_none hn, ?_⟩
    exact call_to hs e1 o1 (.cons r1 .nil) q1 kk⟩
theorem qe_make (kc : CC X.K X.mg c CA) (hcx : c.name = x) (M : Mk X.K CA fA) (F : FnOk X.prog X.w X.K X.mg X.base (L2.CX X.prog X.w) j fA fd ps (spC X.K cls C g)) (hr : Room (j + 1) X.A) (hg : Gl X x) (hb : Binds X.K fd ps []) (tk : Takes X (LW X.K bs cls ex)) (ha : QA X bs (e :: es) wes)
    (hdb : (x == ("__debug__" : Str)) = false) (he : starEach (e :: es) X.env = (false, eval e X.env) :: starEach es X.env) (hpl : (backTo pos (starEach es X.env)).any (·.1) = false) :
    QE X bs (.Call (.Name x p) (e :: es) [] pos) (fun σ S Q => wes σ S fun us S1 => C g (.obj c S1.length :: us) (S1 ++ [.lst []]) (fun u S2 => u = .non ∧ Q (.obj c S1.length) S2) fun c S2 => ex c σ S2) :=
  pe_imp (pe_makeE M F hr hg (by rw [← hcx]; exact kc.mgc) hb (fun σ => passAt tk σ) ha hdb he hpl) fun σ H Q ⟨φ, σu, S, Qu, hs, ho, q, kk⟩ => ⟨φ, σu, S, _, hs, ho, q, fun us S1 φ1 vs H1 _ e1 o1 r1 q1 => by
    intro y dx hy hd ne
    obtain ⟨e2, o2, r2⟩ := o1.made hy hd ne kc.at_ kc.nd
    refine call_to (hs.up (e1.trans e2)) Ext.refl o2 (.cons r2 (r1.up e2)) q1 fun u S' φ' v H' e3 o3 r3 q3 => ?_
    obtain ⟨rfl, q3⟩ := q3
    cases r3
    exact ⟨rfl, kk _ S' φ' _ H' ((e1.trans e2).trans e3) o3 (r2.up e3) q3⟩⟩
end
end Ek

namespace Ek
open PySem PySem.Spec PyProof.Rows L2

theorem fr_env (e : Value) {cenv env : Env} (h : cenv.frame = env.frame) : noteFrame e cenv = noteFrame e env := by
  unfold noteFrame PySem.frameOf
  rw [h]
/-- an exception in the air of X, noted at L perhaps -/
def XF (X : Cx) (W : WX) (L : Addr) (u : Value) (s' : Shared) : Prop :=
  ∃ (a : Addr) (B : Heap) (sI : Shared) (pins : List (Addr × Obj)) (σ : L2.St) (H : Hp) (cls : Value) (d : Option Addr),
    u = .ref a ∧ Inv X pins σ H sI ∧ (∀ b o, sI.heap.get? b = some o → b ∉ frs X.stack → B.get? b = some o) ∧ sI.heap.UpToSlots s'.heap ∧
      Sky B X.stack a (Zc cls d) L s'.heap ∧ H a = none ∧ s'.os = sI.os ∧ AllBare s'.gens ∧ W cls d σ H
def TakesF (X : Cx) (W : WX) : Prop := ∀ L u s', (L = X.env.locals ∨ X.env.frame = some L) → XF X W L u s' → X.xe u s'
theorem TakesF.tk {X : Cx} {W : WX} (t : TakesF X W) : Takes X W := fun u s' x => t X.env.locals u s' (.inl rfl) x
theorem TakesF.imp {X : Cx} {W W' : WX} (t : TakesF X W) (h : ∀ c d σ H, W' c d σ H → W c d σ H) : TakesF X W' := fun L u s' hL ⟨a, B, sI, pins, σ, H, cls, d, e, I, nb, up, sky, na, os, ag, w⟩ =>
  t L u s' hL ⟨a, B, sI, pins, σ, H, cls, d, e, I, nb, up, sky, na, os, ag, h _ _ _ _ w⟩
theorem takesF_of {X : Cx} {W : WX} (hf : X.env.frame = some X.env.locals) (t : Takes X W) : TakesF X W := fun L u s' hL x => by
  have e : L = X.env.locals := by
    rcases hL with e | e
    · exact e
    · rw [hf] at e; cases e; rfl
  subst e
  exact t u s' x
theorem takesF0 {X : Cx} : TakesF X (fun _ _ _ _ => False) := fun _ _ _ _ x => by
  obtain ⟨_, _, _, _, _, _, _, _, _, _, _, _, _, _, _, _, z⟩ := x
  exact z.elim
/-- the frame of a context -/
def FrX (X : Cx) : Prop := ∃ env' outer L, X.stack = env' :: outer ∧ env'.frame = some L ∧ X.env.frame = some L

section
variable {M : Model} {A : Around} {E : Value → Shared → Prop} {s : Shared} {Z : Obj → Prop} {base B : Heap} {env : Env} {outer l : List Env} {L L' e a : Addr}
open HandSPX in
/-- noted by another frame -/
theorem looks_otherZ {Q : Unit → Shared → Prop} (hZ : Steady Z) (hfr : A.frames = some (env :: outer)) (hf : env.frame = some L) (hne : L' ≠ L) (hfl : HeldZ base (env :: outer) e Z L' s.heap)
    (hQ : ∀ h', HeldZ base (env :: outer) e Z L h' → s.heap.UpToSlots h' → Q () { s with heap := h' }) : wpAny M A (noteFrame (.ref e) env) Q E s := by
  obtain ⟨hkb, hen, hl, oe, vs, T, oT, ts, he, hz, hd, h1, hnT, hTe, hT, hdT, h3⟩ := hfl
  unfold noteFrame
  simp only [hf]
  refine wpAny_bind (wpAny_field he hd h1 ?_)
  rw [if_pos (show (Value.ref T != Value.none) = true from by simp)]
  refine wpAny_bind (wpAny_field hT hdT h3 ?_)
  rw [if_neg (show ¬ ((rawInt L' == rawInt L) = true) from fun h => hne (Int.ofNat_inj.mp (by simpa [rawInt] using h)))]
  refine wpAny_bind (wpAny_setField hT hdT (Array.getElem?_eq_some_iff.mp h3).1 ?_)
  have other : ∀ b, b ≠ T → (s.heap.update T (Obj.mapFields (·.setIfInBounds 3 Value.none))).get? b = s.heap.get? b := fun b hb => Heap.get?_update_other _ _ (Ne.symm hb)
  have noRecord : ∀ b o, s.heap.get? b = some o → (∀ vs, o.data ≠ .fields vs) → b ≠ T := fun b o hb hnf q => by
    rw [q, hT] at hb; injection hb with hb; subst hb; exact hnf ts hdT
  refine wpAny_entryZ hZ hfr (hl.of_keeps fun b o hb hnf => ⟨o, (other b (noRecord b o hb hnf)).trans hb, rfl⟩) hf ((other e (Ne.symm hTe)).trans he)
    (fun b o hbo => (other b fun q => by rw [q, hnT] at hbo; cases hbo).trans (hkb b o hbo)) hen hd (Array.getElem?_eq_some_iff.mp h1).1 hz fun h' hN => ?_
  obtain ⟨x1, x2, x3, x4⟩ := hN
  exact hQ h' ⟨x1, hen, x2, x3⟩ fun b o hb hnf => x4 b o ((other b (noRecord b o hb hnf)).trans hb) hnf
theorem Sky.note {cenv : Env} {Q : Unit → Shared → Prop} (hZ : HandSPX.Steady Z) (hfr : A.frames = some (env :: outer)) (hf : env.frame = some L) (hc : cenv.frame = some L) (x : Sky B (env :: outer) a Z L' s.heap)
    (hQ : ∀ h', HandSPX.HeldZ B (env :: outer) a Z L h' → s.heap.UpToSlots h' → Q () { s with heap := h' }) : wpAny M A (noteFrame (.ref a) cenv) Q E s := by
  rw [fr_env _ (hc.trans hf.symm)]
  rcases x with ⟨hB, hn, hl, oe, vs, he, hz, hd, h1⟩ | fl | hh
  · exact HandSPX.look_newZ hZ hfr hl hf he hB hn hd h1 hz hQ
  · exact HandSPX.looks_onZ hZ hfr hf fl hQ
  · by_cases q : L' = L
    · subst q
      exact HandSPX.againZ hf hh.2.2.2 (hQ s.heap hh (Heap.UpToSlots.refl _))
    · exact looks_otherZ hZ hfr hf q hh hQ
end
theorem inv_xe {X : Cx} {e : Value → Shared → Prop} {pins : List (Addr × Obj)} {σ : L2.St} {H : Hp} {s : Shared} (I : Inv X pins σ H s) : Inv { X with xe := e } pins σ H s :=
  ⟨⟨I.ok.mod, I.ok.kind, I.ok.glob, I.ok.blt, I.ok.above, I.ok.inj, I.ok.has, I.ok.cab, I.ok.hd, I.ok.frames, I.ok.stk, I.ok.exf, I.ok.bs, I.ok.bsz, I.ok.noex, I.ok.exfs, I.ok.funs, I.ok.frf⟩,
    I.os, I.bare, I.base, I.loc, I.cell, I.free, I.freeC, I.pin, I.hok, I.len⟩
/-- the names' block is let go under an exception that is held -/
theorem held_letgo {B h1 h2 : Heap} {l : List Env} {a C L : Addr} {Z : Obj → Prop} {m m2 : Str → Option Value} (hh : HandSPX.HeldZ B l a Z L h1) (hn1 : h1.Ns C m) (hn2 : h2.Ns C m2) (hs : Heap.SameBut C h1 h2) :
    HandSPX.HeldZ (PySem.W.hideAll B [C]) l a Z L h2 := by
  obtain ⟨hB, hna, hl, oe, vs, T, oT, ts, he, hz, hd, h3, hnT, hTe, hT, hdT, h4⟩ := hh
  obtain ⟨oL, es, ep, hoL, hdL, _⟩ := hn1
  have hid : ∀ b o, (PySem.W.hideAll B [C]).get? b = some o → b ≠ C ∧ B.get? b = some o := fun b o e => by
    refine ⟨fun q => ?_, PySem.W.of_hideAll _ e⟩
    rw [PySem.W.hideAll_none [C] (by rw [q]; exact .head _)] at e; cases e
  have hidn : ∀ b, B.get? b = none → (PySem.W.hideAll B [C]).get? b = none := fun b e => by
    cases q : (PySem.W.hideAll B [C]).get? b with
    | none => rfl
    | some o => rw [(hid b o q).2] at e; cases e
  have neE : a ≠ C := fun q => by
    rw [q, hoL] at he
    have z := Option.some.inj he
    rw [← z, hdL] at hd
    cases hd
  have neT : T ≠ C := fun q => by
    rw [q, hoL] at hT
    have z := Option.some.inj hT
    rw [← z, hdL] at hdT
    cases hdT
  exact ⟨fun b o e => (hs.2 b (hid b o e).1).trans (hB b o (hid b o e).2), hidn a hna, funFrames_none (Heap.FunFrames.sameBut hs hn2 hl) fun L hL => hidn L (hl.mem hL).1,
    oe, vs, T, oT, ts, (hs.2 a neE).trans he, hz, hd, h3, hidn T hnT, hTe, (hs.2 T neT).trans hT, hdT, h4⟩
/-- a block's context in which exceptions go on in the def's -/
abbrev blx (X : Cx) (s : Shared) (H : Hp) (scope : Scope) (cenv : Env) (fp : List Addr) : Cx :=
  { X.blk s H scope cenv fp with xe := notedBy (model X.prog X.w) X.A cenv (CompFails (model X.prog X.w) X.A X.xe cenv) }
theorem takes_blx {X : Cx} {W W' : WX} {pins : List (Addr × Obj)} {σ : L2.St} {H3 : Hp} {s3 : Shared} {scope : Scope} {ce : Env} {fp : List Addr} (I3 : Inv X pins σ H3 s3) (f3 : ∀ b ∈ fp, FpOk X pins H3 b) (hC : s3.heap.objs.size ≤ ce.locals)
    (hF : FrX X) (hcf : ce.frame = X.env.frame) (tk : TakesF X W) (hW : ∀ cls d (σ' σ'' : L2.St) H', σ'.length = σ''.length → W' cls d σ' H' → W cls d σ'' H') : TakesF (blx X s3 H3 scope ce fp) W' := by
  intro L u s' _ xf
  obtain ⟨a, B, sI, pinsI, σI, HI, cls, d, rfl, I, nb, up, sky, na, os, ag, w⟩ := xf
  obtain ⟨env', outer, L0, hst, hf, hxf⟩ := hF
  have IB : Inv (X.blk s3 H3 scope ce fp) pinsI σI HI sI := inv_xe (e := fun _ _ => False) I
  have IX : Inv X pins σ HI sI := I3.call' (ch := fp) IB.os IB.base IB.hok IB.bare fun b hb => ⟨(f3 b hb).2.2.2.1, (f3 b hb).2.1, (f3 b hb).2.2.2.2.1, (f3 b hb).2.2.2.2.2⟩
  obtain ⟨m, hn, _⟩ := IB.loc
  have hn : sI.heap.Ns ce.locals m := hn
  have hnC : HI ce.locals = none := IB.free
  obtain ⟨f0, f1, f2, f3', f4, f5⟩ := I3.fpOk hC hnC
  have hfr : X.A.frames = some (env' :: outer) := by rw [I3.ok.frames, hst]
  have sky : Sky B (env' :: outer) a (Zc cls d) L s'.heap := by
    have z : Sky B X.stack a (Zc cls d) L s'.heap := sky
    rw [hst] at z
    exact z
  have hc : ce.frame = some L0 := hcf.trans hxf
  show wpAny _ X.A (noteFrame (.ref a) ce) _ _ s'
  refine Sky.note Zc.steady hfr hf hc sky fun h1 hh up1 => ⟨m, (up.trans up1).ns hn, fun h2 m2 hn2 hs2 => ?_⟩
  have hh2 := held_letgo hh ((up.trans up1).ns hn) hn2 hs2
  obtain ⟨hB2, _, _, oe, vs, T, oT, ts, he, hz, hd, h3, hnT, hTe, hT, hdT, h4⟩ := id hh2
  unfold PySem.passOn
  refine wpAny_bind (wpAny_field he hd h3 ?_)
  rw [if_neg (show ¬ ((Value.ref T == Value.none) = true) from by simp), hc]
  refine wpAny_bind (HandSPX.setFlight_onZ hh2 fun h3 hh3 up3 => wpAny_throw ?_)
  have hid : ∀ b o, (PySem.W.hideAll sI.heap [ce.locals]).get? b = some o → b ≠ ce.locals ∧ sI.heap.get? b = some o := fun b o e => by
    refine ⟨fun q => ?_, PySem.W.of_hideAll _ e⟩
    rw [PySem.W.hideAll_none [ce.locals] (by rw [q]; exact .head _)] at e; cases e
  refine tk L0 _ _ (.inr hxf) ⟨a, PySem.W.hideAll B [ce.locals], { sI with heap := PySem.W.hideAll sI.heap [ce.locals] }, pins, σ, HI, cls, d, rfl,
    IX.turned (t' := sI.toks) (fun b o hb e => PySem.W.hideAll_get _ e (by simpa using hb)) f0 f1 f3' f4 f5,
    fun b o e hb => PySem.W.hideAll_get _ (nb b o (hid b o e).2 hb) (by simpa using (hid b o e).1), fun b o e hnf => ?_, .inr (.inr (by rw [hst]; exact hh3)), na, os, ag, hW cls d σI σ HI ?_ w⟩
  · obtain ⟨ne, e⟩ := hid b o e
    obtain ⟨sl, e1⟩ := up b o e hnf
    obtain ⟨sl2, e2⟩ := up1 b _ e1 hnf
    have e3 := (hs2.2 b ne).trans e2
    obtain ⟨sl4, e4⟩ := up3 b _ e3 hnf
    exact ⟨sl4, e4⟩
  · have h1 : σI.length = X.N.length := IB.len
    rw [h1, IX.len]
section
variable {X : Cx}
theorem lc_coreX {W : WX} {W' : WX} {pins : List (Addr × Obj)} {s : Shared} {σ : L2.St} {H : Hp} {Q : VK} {elt tg iter : Expr} {ifs : List Expr} {scope : Scope} {own : List (Str × Nat)} {pos pos' : Pos} {wi : TI} {g : TG} {tt : TT} {te : TE} {use : Option (Value → Sem Unit)} {Qf : Value → Shared → Prop}
    (hc : X.calm = true) (hN : X.N.Nodup) (I : Inv X pins σ H s) (hi : PI X tg iter wi) (ok : BlkOk X.N X.env.scope scope own)
    (hg : ∀ (s : Shared) (H : Hp) (C : Addr) (cl : List (Str × Addr)) (fp : List Addr), PG (X.blk s H scope (compEnvC scope cl C X.env) fp) tg g) (ht : ∀ (s : Shared) (H : Hp) (C : Addr) (cl : List (Str × Addr)) (fp : List Addr), PTs (X.blk s H scope (compEnvC scope cl C X.env) fp) ifs tt)
    (he : ∀ (s : Shared) (H : Hp) (C : Addr) (cl : List (Str × Addr)) (fp : List Addr), TakesF (blx X s H scope (compEnvC scope cl C X.env) fp) W' → PE (blx X s H scope (compEnvC scope cl C X.env) fp) elt te) (hF : FrX X) (tk : TakesF X W) (hW : ∀ cls d (σ' σ'' : L2.St) H', σ'.length = σ''.length → W' cls d σ' H' → W cls d σ'' H') (hs : ∀ x, foldedSetIterable iter X.env x = pure x)
    (h : tLc wi g tt te (own.map (·.2)) σ H Q)
    (hRR : ∀ D C s' m H', Inv X pins σ H' s' → Q (.ref D) H' → s'.heap.Ns C m → FpOk X pins H' C → ∀ ce : Env, ce.locals = C → compEnds (model X.prog X.w) X.A X.xe use Qf (.ref D) ce (.ok .next) s') :
    wpAny (model X.prog X.w) X.A (comprehension (.ListComp elt [⟨tg, iter, ifs, 0⟩] scope pos) scope X.env pos' (newList []) false (eval iter X.env) use) Qf X.xe s := by
  have hfree : ∀ y ∈ scope.names, y.2 = .free → ∃ c, X.env.cells.lookup y.1 = some c := fun y hy e => by
    rcases ok.free y hy e with k | k
    · exact I.ok.has _ (.inl k)
    · exact I.ok.has _ (.inr k)
  refine comprehension_at (use := use) rfl hs (closure_ok hfree) ok.kind (fun y hy e => by rw [ok.uniq y hy, e])
    (thn (hi.run pins s σ H _ I h) fun xv s1 hx => thn hx fun itv s2 h2 => ?_)
  obtain ⟨it, fp, tn, J, H2, e, I2, T, st2, f2, q⟩ := h2
  subst e
  refine wpAny_newObj_type (newEnv_comp ?_) (by show 0 ≤ sizeLine; decide)
  generalize hD : s2.heap.objs.size = D
  have hDn : H2 D = none := I2.hok.fresh (Nat.le_of_eq hD)
  obtain ⟨W, ⟨m0, w0⟩, turn⟩ := q D hDn
  -- the new list
  generalize hs3 : ({ s2 with heap := s2.heap.push { cls := .type "list", data := .seq ([] : List Value).toArray } } : Shared) = s3
  have I3 : Inv X pins σ (upd H2 D (.lst [])) s3 := by
    rw [← hs3]
    refine I2.laid (t' := s2.toks) (fun b o e => Heap.get?_push_of_some _ e) (Nat.le_of_eq hD) ⟨Nat.zero_le _, [], 0, .nil, ?_⟩
    rw [← hD]
    exact Heap.get?_push_size _ rfl
  have h3 : s3.heap = s2.heap.push { cls := .type "list", data := .seq ([] : List Value).toArray } := by rw [← hs3]
  have sz : ∀ b ∈ fp, b < s2.heap.objs.size := fun b hb => by
    obtain ⟨o, e, _⟩ := T.obj _ _ st2 b hb
    exact Heap.lt_size e
  have f3 : ∀ b ∈ fp, FpOk X pins (upd H2 D (.lst [])) b ∧ b < s3.heap.objs.size := fun b hb => by
    have hlt := sz b hb
    refine ⟨⟨?_, (f2 b hb).2⟩, by rw [h3, Heap.size_push]; exact Nat.lt_succ_of_lt hlt⟩
    rw [upd_ne (by rw [← hD]; exact Nat.ne_of_lt hlt)]
    exact (f2 b hb).1
  have st3 : tn 0 s3.heap := T.keep _ _ _ st2 fun b _ o e => by rw [h3]; exact Heap.get?_push_of_some _ e
  have I4 := block_start I3 ok hN f3
  have pg := hg s3 (upd H2 D (.lst [])) s3.heap.objs.size (cellsFrom (s3.heap.objs.size + 1) scope.names (cloFrom X.env.cells scope.names [])) fp
  have pt := ht s3 (upd H2 D (.lst [])) s3.heap.objs.size (cellsFrom (s3.heap.objs.size + 1) scope.names (cloFrom X.env.cells scope.names [])) fp
  have pe := he s3 (upd H2 D (.lst [])) s3.heap.objs.size (cellsFrom (s3.heap.objs.size + 1) scope.names (cloFrom X.env.cells scope.names [])) fp
  show codeAny _ _ (.compStart (.ListComp elt [⟨tg, iter, ifs, 0⟩] scope pos) 0 (.ref it) (.ref D) (compEnvC scope (cellsFrom (s3.heap.objs.size + 1) scope.names (cloFrom X.env.cells scope.names [])) s3.heap.objs.size X.env)) (compEnds (model X.prog X.w) X.A X.xe use Qf (.ref D) (compEnvC scope (cellsFrom (s3.heap.objs.size + 1) scope.names (cloFrom X.env.cells scope.names [])) s3.heap.objs.size X.env)) { s3 with heap := pushCells (s3.heap.push { cls := .type "dict", data := .dict #[] }) scope.names }
  have nfp : ∀ b ∈ fp, (upd H2 D (.lst [])) b = none := fun b hb => (f3 b hb).1.1
  have cF : (compEnvC scope (cellsFrom (s3.heap.objs.size + 1) scope.names (cloFrom X.env.cells scope.names [])) s3.heap.objs.size X.env).frame = X.env.frame := rfl
  generalize hce : compEnvC scope (cellsFrom (s3.heap.objs.size + 1) scope.names (cloFrom X.env.cells scope.names [])) s3.heap.objs.size X.env = ce at I4 pg pt pe cF ⊢
  have cL : ce.locals = s3.heap.objs.size := by subst hce; rfl
  generalize hH3 : upd H2 D (.lst []) = H3 at I3 I4 pg pt pe w0 nfp f3
  have tkB : TakesF (blx X s3 H3 scope ce fp) W' := takes_blx I3 (fun b hb => (f3 b hb).1) (by rw [cL]; exact Nat.le_refl _) hF cF tk hW
  have pe := pe tkB
  generalize hs4 : ({ s3 with heap := pushCells (s3.heap.push { cls := .type "dict", data := .dict #[] }) scope.names } : Shared) = s4 at I4 ⊢
  have st4 : tn 0 s4.heap := T.keep _ _ _ st3 fun b _ o e => by rw [← hs4]; exact pushCells_keeps _ _ _ _ (Heap.get?_push_of_some _ e)
  have stat : ∀ {σ' : L2.St} {H' : Hp} {s' : Shared}, Inv (X.blk s3 H3 scope ce fp) [] σ' H' s' → (∀ b ∈ fp, H' b = none) → ∀ b ∈ fp, FpOk (X.blk s3 H3 scope ce fp) [] H' b := fun {σ' H' s'} I' hn b hb =>
    ⟨hn b hb, (I'.ok.exf b hb).1, I'.ok.exfs b hb, .inl hb, fun x c e => (I'.ok.exf b hb).2 x c e, fun p hp => absurd (show p ∈ ([] : List (Addr × Obj)) ++ [] from hp) (by simp)⟩
  have loop : codeAny (model X.prog X.w) X.A (.compLoop (.ListComp elt [⟨tg, iter, ifs, 0⟩] scope pos) 0 (.ref it) (.ref D) ce) (compEnds (model X.prog X.w) X.A X.xe use Qf (.ref D) ce) s4 := by
    refine compLoop_any (fun n s' => ∃ i H', Inv (X.blk s3 H3 scope ce fp) [] (wipe σ (own.map (·.2))) H' s' ∧ tn i s'.heap ∧ (∀ b ∈ fp, H' b = none) ∧ W i n H') ?_ m0 ⟨0, H3, I4, st4, nfp, w0⟩
    rintro n s5 ⟨i, H5, I5, st5, n5, w5⟩
    rcases turn i n H5 w5 with ⟨stop, qq⟩ | ⟨go, Nx, hNx, step⟩
    · have td := T.done (X.blk s3 H3 scope ce fp) rfl rfl rfl hc i [] s5 _ H5 (fun _ _ => False) I5 (stat I5 n5) st5 stop
      refine thnF td fun r s6 ⟨hr, I6⟩ => ?_
      subst hr
      -- back in the def's context
      have I7 : Inv X pins σ H5 s6 := I3.call' (ch := fp) I6.os I6.base I6.hok I6.bare fun b hb => ⟨(f3 b hb).1.2.2.2.1, (f3 b hb).1.2.1, (f3 b hb).1.2.2.2.2.1, (f3 b hb).1.2.2.2.2.2⟩
      have nC : H5 s3.heap.objs.size = none := by
        have z : H5 ce.locals = none := I6.free
        rw [cL] at z
        exact z
      obtain ⟨m, hn, _⟩ := I6.loc
      have hn : s6.heap.Ns ce.locals m := hn
      rw [cL] at hn
      exact hRR D s3.heap.objs.size s6 m H5 I7 qq hn (I3.fpOk (Nat.le_refl _) nC) ce cL
    · have ti := T.item (X.blk s3 H3 scope ce fp) rfl rfl rfl hc i [] s5 _ H5 (fun _ _ => False) I5 (stat I5 n5) st5 go
      refine thnF ti fun r s6 ⟨u, hr, h6⟩ => ?_
      subst hr
      refine thnF h6 fun _ s7 ⟨x, H7, I7, r7, y7, st7, n7⟩ => ?_
      have I7' := I7.pinned (stat I7 n7) (T.obj _ _ st7)
      refine thnF (pg.run _ s7 _ H7 x u _ I7' r7 (step x H7 y7)) fun _ s8 ⟨σ8, H8, I8, hw8, q8⟩ => ?_
      refine thnF (pt.run _ s8 σ8 H8 _ I8 q8) fun b s9 ⟨H9, I9, q9⟩ => ?_
      -- the turn's end
      have fin : ∀ {s' : Shared} {H' : Hp}, Inv (X.blk s3 H3 scope ce fp) ([] ++ pinsAt fp s7.heap) σ8 H' s' → Nx H' → ∃ m, m < n ∧ ∃ i H', Inv (X.blk s3 H3 scope ce fp) [] (wipe σ (own.map (·.2))) H' s' ∧ tn i s'.heap ∧ (∀ b ∈ fp, H' b = none) ∧ W i m H' := fun {s' H'} I' nx => by
        obtain ⟨m', hm, w'⟩ := hNx H' nx
        have pin' : ∀ b ∈ fp, ∀ o, s7.heap.get? b = some o → s'.heap.get? b = some o ∧ H' b = none := fun b hb o e =>
          let z := I'.pin (b, o) (List.mem_append_right _ (List.mem_append_right _ (mem_pinsAt hb e)))
          ⟨z.1, z.2.1⟩
        have hl : (wipe σ (own.map (·.2))).length = σ8.length := by rw [← hw8, wipe_length]
        refine ⟨m', hm, i + 1, H', (I'.unpinned (pins := [])).weak hl (fun j v e => ?_), T.keep _ _ _ st7 fun b hb o e => (pin' b hb o e).1, fun b hb => ?_, w'⟩
        · rw [← hw8] at e
          exact (wipe_some e).1
        · obtain ⟨o, e, _⟩ := T.obj _ _ st7 b hb
          exact (pin' b hb o e).2
      cases b with
      | false =>
        simp only [Bool.false_eq_true, if_false] at q9 ⊢
        exact fin I9 q9
      | true =>
        simp only [if_true] at q9 ⊢
        refine wpAny_mono (pe.run _ s9 σ8 H9 _ (inv_xe I9) q9) (fun z s10 ⟨yv, H10, I10, r10, acc, hD10, hz10, nx⟩ => ?_) (fun e s' x => wpAny_mono x (fun _ _ h => by cases use <;> exact h) (fun _ _ h => by cases use <;> exact h))
        have I10 := inv_xe (e := fun _ _ => False) I10
        exact app_ok (X := X.blk s3 H3 scope ce fp) I10 hD10 hz10 r10 fun s11 I11 => fin I11 nx
  exact codeAny_compStart_list loop (T.self X.A 0 _ _ _ st4 loop)
/-- as a value -/
theorem pe_lcX {W W' : WX} {elt tg iter : Expr} {ifs : List Expr} {scope : Scope} {own : List (Str × Nat)} {pos : Pos} {wi : TI} {g : TG} {tt : TT} {te : TE} (hc : X.calm = true) (hN : X.N.Nodup) (hi : PI X tg iter wi) (ok : BlkOk X.N X.env.scope scope own)
    (hg : ∀ (s : Shared) (H : Hp) (C : Addr) (cl : List (Str × Addr)) (fp : List Addr), PG (X.blk s H scope (compEnvC scope cl C X.env) fp) tg g) (ht : ∀ (s : Shared) (H : Hp) (C : Addr) (cl : List (Str × Addr)) (fp : List Addr), PTs (X.blk s H scope (compEnvC scope cl C X.env) fp) ifs tt)
    (he : ∀ (s : Shared) (H : Hp) (C : Addr) (cl : List (Str × Addr)) (fp : List Addr), TakesF (blx X s H scope (compEnvC scope cl C X.env) fp) W' → PE (blx X s H scope (compEnvC scope cl C X.env) fp) elt te) (hF : FrX X) (tk : TakesF X W) (hW : ∀ cls d (σ' σ'' : L2.St) H', σ'.length = σ''.length → W' cls d σ' H' → W cls d σ'' H') (hs : ∀ x, foldedSetIterable iter X.env x = pure x := by intro _; rfl) :
    PE X (.ListComp elt [⟨tg, iter, ifs, 0⟩] scope pos) (tLc wi g tt te (own.map (·.2))) := by
  refine ⟨fun pins s σ H Q I h => ?_⟩
  rw [eval_ListComp]
  refine lc_coreX hc hN I hi ok hg ht he hF tk hW hs h fun D C s' m H' I' q hn f ce ec => ?_
  subst ec
  refine ⟨m, hn, fun h'' sb => ?_⟩
  obtain ⟨f0, f1, f2, f3, f4, f5⟩ := f
  exact ⟨.ref D, H', I'.turned (t' := s'.toks) (fun b o hb e => (sb.2 b hb).trans e) f0 f1 f3 f4 f5, rfl, q⟩
/-- name = [..] on one line, the name a local -/
theorem ps_setLcX {W W' : WX} {i : Nat} {y : Str} {py : Pos} {elt tg iter : Expr} {ifs : List Expr} {scope : Scope} {own : List (Str × Nat)} {pos spos : Pos} {wi : TI} {g : TG} {tt : TT} {te : TE} (hc : X.calm = true) (hN : X.N.Nodup) (hy : X.N[i]? = some y) (hyl : X.env.scope.names.lookup y = some .local)
    (hsw : swapsWith (.ListComp elt [⟨tg, iter, ifs, 0⟩] scope pos) (some (.Name y py)) spos.line X.env = pure true) (hi : PI X tg iter wi) (ok : BlkOk X.N X.env.scope scope own)
    (hg : ∀ (s : Shared) (H : Hp) (C : Addr) (cl : List (Str × Addr)) (fp : List Addr), PG (X.blk s H scope (compEnvC scope cl C X.env) fp) tg g) (ht : ∀ (s : Shared) (H : Hp) (C : Addr) (cl : List (Str × Addr)) (fp : List Addr), PTs (X.blk s H scope (compEnvC scope cl C X.env) fp) ifs tt)
    (he : ∀ (s : Shared) (H : Hp) (C : Addr) (cl : List (Str × Addr)) (fp : List Addr), TakesF (blx X s H scope (compEnvC scope cl C X.env) fp) W' → PE (blx X s H scope (compEnvC scope cl C X.env) fp) elt te) (hF : FrX X) (tk : TakesF X W) (hW : ∀ cls d (σ' σ'' : L2.St) H', σ'.length = σ''.length → W' cls d σ' H' → W cls d σ'' H') (hs : ∀ x, foldedSetIterable iter X.env x = pure x := by intro _; rfl) :
    PS X (.Assign [.Name y py] (.ListComp elt [⟨tg, iter, ifs, 0⟩] scope pos) spos) (tAsg (tLc wi g tt te (own.map (·.2))) (gName i)) := by
  refine ⟨fun pins s σ H D I h => ?_⟩
  rw [exec_Assign_Name_used _ _ _ _ hsw]
  refine wpAny_bind (wpAny_standAt (wpAny_bind ?_))
  show wpAny _ X.A (do let _ ← comprehension (.ListComp elt [⟨tg, iter, ifs, 0⟩] scope pos) scope X.env (firstIterPos [⟨tg, iter, ifs, 0⟩] pos) (newList []) false (eval iter X.env) (some (assign (.Name y py) X.env))) _ _ s
  have h : tLc wi g tt te (own.map (·.2)) σ H (fun x H1 => gName i x σ H1 D.nx) := h
  refine wpAny_bind (thn (lc_coreX (Qf := fun _ s' => SP X pins D .next s') hc hN I hi ok hg ht he hF tk hW hs h fun L C s' m H' I' q hn f ce ec => ?_) fun _ s' hq => wpAny_pure (wpAny_pure hq))
  subst ec
  show wpAny _ _ (assign (.Name y py) X.env (.ref L)) _ _ _
  refine wpAny_assign_Name (store_ok2 (v := V.ref L) I' hN hy (.inl hyl) rfl (fun s2 I2 ⟨a, sb, ha⟩ => ?_) (.inr hyl))
  obtain ⟨f0, f1, f2, f3, f4, f5⟩ := f
  have haC : ce.locals ≠ a := by
    rcases ha with z | z
    · rw [z]; exact f1
    · exact fun e => f4 y a z e.symm
  refine ⟨m, hn.sameBut sb haC, fun h3 sb3 => ?_⟩
  exact ⟨_, H', I2.turned (t' := s2.toks) (fun b o hb e => (sb3.2 b hb).trans e) f0 f1 f3 f4 f5, q⟩
end
section
variable {X : Cx} {bs : Hp × List Pl} {cls : Nat → Value} {ex : XQ} {elt tg iter : Expr} {ifs : List Expr} {wi : WI} {wt : Sl → Sto → BQ → Prop} {we : Sl → Sto → UQ → Prop} {ts : List Nat} {tp : Bool} {scope : Scope} {own : List (Str × Nat)} {pos : Pos}
theorem lw_nn {K : PySem.W.Frag} : ∀ (c : Value) (d : Option Addr) (σ' σ'' : L2.St) (H' : Hp), σ'.length = σ''.length → LW K bs cls (exB ex) c d σ' H' → LW K bs cls ex c d σ'' H' := fun c d σ' σ'' H' hl ⟨c', σu, S, φ, e1, e2, hs, ho, q⟩ =>
  ⟨c', nnS σu, S, φ, e1, e2, ⟨by rw [← hl, ← hs.1]; simp [nnS], fun i u e => by
    simp only [nnS, List.getElem?_map, Option.map_eq_some_iff] at e
    obtain ⟨_, _, e⟩ := e
    cases e⟩, ho, q⟩
theorem qe_compX (hc : X.calm = true) (hN : X.N.Nodup) (hi : PI X tg iter (LI X.K bs wi)) (ok : BlkOk X.N X.env.scope scope own) (hv : ∀ i ∈ ts, i ∈ own.map (·.2))
    (hg : ∀ (s : Shared) (H : Hp) (C : Addr) (cl : List (Str × Addr)) (fp : List Addr), PG (X.blk s H scope (compEnvC scope cl C X.env) fp) tg (gB X.K ts tp))
    (ht : ∀ (s : Shared) (H : Hp) (C : Addr) (cl : List (Str × Addr)) (fp : List Addr), PTs (X.blk s H scope (compEnvC scope cl C X.env) fp) ifs (LT X.K bs wt))
    (he : ∀ (s : Shared) (H : Hp) (C : Addr) (cl : List (Str × Addr)) (fp : List Addr), TakesF (blx X s H scope (compEnvC scope cl C X.env) fp) (LW X.K bs cls (exB ex)) → PE (blx X s H scope (compEnvC scope cl C X.env) fp) elt (LE X.K bs we))
    (hF : FrX X) (tk : TakesF X (LW X.K bs cls ex)) (hs : ∀ x, foldedSetIterable iter X.env x = pure x) :
    QE X bs (.ListComp elt [⟨tg, iter, ifs, 0⟩] scope pos) (fun σ S Q => wi σ S fun its lv li S1 => compU (bindU ts tp) wt we (wipeU σ (own.map (·.2))) lv li Q its [] S1) :=
  pe_imp (pe_lcX hc hN hi ok hg ht he hF tk lw_nn hs) (lc_to hv)
theorem qs_setCompX {i : Nat} {y : Str} {py spos : Pos} (hc : X.calm = true) (hN : X.N.Nodup) (hy : X.N[i]? = some y) (hyl : X.env.scope.names.lookup y = some .local)
    (hsw : swapsWith (.ListComp elt [⟨tg, iter, ifs, 0⟩] scope pos) (some (.Name y py)) spos.line X.env = pure true) (hi : PI X tg iter (LI X.K bs wi)) (ok : BlkOk X.N X.env.scope scope own) (hv : ∀ i ∈ ts, i ∈ own.map (·.2))
    (hg : ∀ (s : Shared) (H : Hp) (C : Addr) (cl : List (Str × Addr)) (fp : List Addr), PG (X.blk s H scope (compEnvC scope cl C X.env) fp) tg (gB X.K ts tp))
    (ht : ∀ (s : Shared) (H : Hp) (C : Addr) (cl : List (Str × Addr)) (fp : List Addr), PTs (X.blk s H scope (compEnvC scope cl C X.env) fp) ifs (LT X.K bs wt))
    (he : ∀ (s : Shared) (H : Hp) (C : Addr) (cl : List (Str × Addr)) (fp : List Addr), TakesF (blx X s H scope (compEnvC scope cl C X.env) fp) (LW X.K bs cls (exB ex)) → PE (blx X s H scope (compEnvC scope cl C X.env) fp) elt (LE X.K bs we))
    (hF : FrX X) (tk : TakesF X (LW X.K bs cls ex)) (hs : ∀ x, foldedSetIterable iter X.env x = pure x) :
    QS X bs (.Assign [.Name y py] (.ListComp elt [⟨tg, iter, ifs, 0⟩] scope pos) spos)
      (fun D σ S => (fun Q => wi σ S fun its lv li S1 => compU (bindU ts tp) wt we (wipeU σ (own.map (·.2))) lv li Q its [] S1) fun u S1 => D.nx (σ.set i (some u)) S1) :=
  ps_imp (ps_setLcX hc hN hy hyl hsw hi ok hg ht he hF tk lw_nn hs) fun D σ H ⟨φ, σu, S, Du, hs, ho, q, k⟩ => by
    refine lc_to hv σ H _ ⟨φ, σu, S, _, hs, ho, q, fun u S1 φ1 v1 H1 e1 o1 r1 q1 => ?_⟩
    exact k.nx _ S1 φ1 _ H1 e1 ((hs.up e1).set r1 i) o1 q1
end
end Ek

namespace Ek
open PySem PySem.Spec PyProof.Rows L2

inductive GV where
  | int (i : Int) | str (x : Str) | txts (xs : List Str)
  deriving DecidableEq
def GV.ex : GV → Ex
  | .int i => .cint i
  | .str x => .cstr x
  | .txts xs => .ctup xs
/-- a module's constant as it stands -/
def GV.rel (K : PySem.W.Frag) : GV → Value → Prop
  | .int i, u => RelV (.int i) u
  | .str x, u => RelV (.str x) u
  | .txts xs, u => ∃ (a : Addr) (o : Obj) (its : Array Value) (n : Nat), u = .ref a ∧ K.lookup a = some o ∧ o.cls = .type "tuple" ∧ o.data = .seq its n ∧ its.size ≤ sizeLine ∧ Vals (xs.map V.str) its.toList
structure CE where
  N : List Str
  sc : Scope
  F : List Str
  G : List (Str × GV)
  X : List Str
  /-- which names hold objects of which classes; the classes; the methods, by class and name -/
  V : List (Str × Cl)
  K : List (Str × Cl)
  M : List (Str × Str)
def ixOf : List Str → Str → Option Nat
  | [], _ => none
  | y :: r, x => if y = x then some 0 else (ixOf r x).map (· + 1)
theorem ixOf_get : ∀ {l : List Str} {x : Str} {i : Nat}, ixOf l x = some i → l[i]? = some x
  | [], _, _, h => by cases h
  | y :: r, x, i, h => by
    unfold ixOf at h
    split at h
    · rename_i e
      cases h
      rw [e]; rfl
    · rw [Option.map_eq_some_iff] at h
      obtain ⟨j, h1, rfl⟩ := h
      exact ixOf_get (l := r) h1
def ixP : List (Str × Str) → Str → Str → Option Nat
  | [], _, _ => none
  | y :: r, x, z => if y.1 = x ∧ y.2 = z then some 0 else (ixP r x z).map (· + 1)
theorem ixP_get : ∀ {l : List (Str × Str)} {x z : Str} {i : Nat}, ixP l x z = some i → l[i]? = some (x, z)
  | [], _, _, _, h => by cases h
  | y :: r, x, z, i, h => by
    unfold ixP at h
    split at h
    · rename_i e
      cases h
      rw [← e.1, ← e.2]; rfl
    · rw [Option.map_eq_some_iff] at h
      obtain ⟨j, h1, rfl⟩ := h
      exact ixP_get (l := r) h1
theorem ixOf_none : ∀ {l : List Str} {x : Str}, ixOf l x = none → x ∉ l
  | [], _, _ => by simp
  | y :: r, x, h => by
    unfold ixOf at h
    split at h
    · cases h
    · rename_i e
      rw [Option.map_eq_none_iff] at h
      simp only [List.mem_cons, not_or]
      exact ⟨fun z => e z.symm, ixOf_none h⟩
def vis (sc : Scope) (x : Str) : Bool := sc.names.lookup x == some .local || sc.names.lookup x == some .cell || sc.names.lookup x == some .free
def loc (sc : Scope) (x : Str) : Bool := sc.names.lookup x == some .local || sc.names.lookup x == some .cell
def glo (sc : Scope) (x : Str) : Bool := sc.names.lookup x == some .globalImplicit
def dbg (x : Str) : Bool := x == ("__debug__" : Str) || x == ("__classdict__" : Str)
def nstar : Expr → Bool
  | .Starred .. => false
  | _ => true
def isSl : Expr → Bool
  | .Slice .. => true
  | _ => false
def isRev : Option Expr → Option Expr → Expr → Bool
  | none, none, .UnaryOp .USub (.Constant (.int 1) _ _) _ => true
  | _, _, _ => false
theorem isRev_of {lo hi : Option Expr} {st : Expr} (h : isRev lo hi st = true) : ∃ k p1 p2, lo = none ∧ hi = none ∧ st = .UnaryOp .USub (.Constant (.int 1) k p1) p2 := by
  unfold isRev at h
  split at h
  · exact ⟨_, _, _, rfl, rfl, rfl⟩
  · cases h
def isCmp : Expr → Bool
  | .ListComp .. => true
  | .SetComp .. => true
  | .DictComp .. => true
  | _ => false
def isCall : Expr → Bool
  | .Call .. => true
  | _ => false
def isTup : Expr → Bool
  | .Tuple .. => true
  | .List .. => true
  | _ => false
def cBin : Operator → Option Op
  | .Add => some .add | .Sub => some .sub | .Mult => some .mul | .FloorDiv => some .fdiv | .Mod => some .mod | .Pow => some .pow | .LShift => some .shl
  | _ => none
def cL (f : Expr → Option Ex) : List Expr → Option (List Ex)
  | [] => some []
  | e :: r => if nstar e = true then (f e).bind fun a => (cL f r).map fun b => a :: b else none
def cBo (o : BoolOp) : List Ex → Option Ex
  | [] => none
  | [a] => some a
  | a :: b :: r => (cBo o (b :: r)).map (match o with | .And => Ex.and a | .Or => Ex.or a)
def biTab : List ((Str × Nat) × Bi) := [(("sorted", 1), .sort1), (("max", 1), .max1), (("min", 1), .min1), (("abs", 1), .abs), (("len", 1), .len), (("min", 2), .min2), (("max", 2), .max2), (("int", 1), .int1), (("tuple", 1), .tup1), (("list", 1), .lst1), (("all", 1), .all), (("any", 1), .any), (("sum", 1), .sum)]
def cBi (f : Str) (n : Nat) : Option Bi := biTab.lookup (f, n)
def cTy (x : Str) : Option Ty :=
  if x = "int" then some .int else if x = "bool" then some .bool else if x = "tuple" then some .tuple else if x = "str" then some .str else if x = "list" then some .list else none
def bltNames : List Str := ["abs", "len", "min", "max", "int", "tuple", "list", "all", "any", "sum", "isinstance", "bool", "str", "range", "enumerate", "ValueError", "sorted"]
def cO (f : Expr → Option Ex) : Option Expr → Option Ex
  | none => some .cnon
  | some e => f e
def isTp : Expr → Bool
  | .Tuple .. => true
  | _ => false
def cSrc (f : Expr → Option Ex) (ce : CE) (tg : Expr) : Expr → Option (Nat × List Ex)
  | .Call (.Name g p) es [] q => if glo ce.sc g = true ∧ g = "range" ∧ ixOf ce.F g = none ∧ (es.length = 1 ∨ es.length = 2 ∨ es.length = 3) then (cL f es).map fun l => (1, l) else if glo ce.sc g = true ∧ g = "enumerate" ∧ ixOf ce.F g = none ∧ es.length = 1 ∧ isTp tg = true then (cL f es).map fun l => (2, l) else (f (.Call (.Name g p) es [] q)).map fun e => (0, [e])
  | e => if isSet e = true then none else (f e).map fun e => (0, [e])
/-- a comprehension's own names -/
def ownOf (N : List Str) : List (Str × NameKind) → List (Str × Nat)
  | [] => []
  | (x, k) :: r => if k = .local ∨ k = .cell then (match ixOf N x with | some i => (x, i) :: ownOf N r | none => ownOf N r) else ownOf N r
def cT1 (N : List Str) (sc : Scope) : Expr → Option Nat
  | .Name x _ => if loc sc x = true then ixOf N x else none
  | _ => none
def cTs (N : List Str) (sc : Scope) : List Expr → Option (List Nat)
  | [] => some []
  | e :: r => (cT1 N sc e).bind fun i => (cTs N sc r).map fun l => i :: l
def cTg (N : List Str) (sc : Scope) : Expr → Option (List Nat × Bool)
  | .Tuple es _ _ => (cTs N sc es).map fun l => (l, true)
  | e => (cT1 N sc e).map fun i => ([i], false)
/-- o.m(..) of a built-in value -/
def cAtt (f : Expr → Option Ex) (o : Expr) (m : Str) (apos pos : Pos) : List Expr → Option Ex
  | [] => if m = "bit_length" ∧ (apos.endLine == pos.line) = true then (f o).map fun a => .bi .bits [a] else none
  | [b] => if m = "index" ∧ (apos.endLine == pos.line) = true ∧ nstar b = true then (f o).bind fun a => (f b).map fun b' => .idx a b' else none
  | _ => none
/-- o.m(..) of an object -/
def cMeth (f : Expr → Option Ex) (ce : CE) (c : Cl) (o : Expr) (m : Str) (apos pos : Pos) (es : List Expr) : Option Ex :=
  if ixOf c.fs m = none ∧ ¬ m = "__init__" ∧ (apos.endLine == pos.line) = true ∧ es.length < 30 then (ixP ce.M c.name m).bind fun g => (f o).bind fun a => (cL f es).map fun l => .meth a c (ce.F.length + g) l else none
/-- C(..) -/
def cMake (f : Expr → Option Ex) (ce : CE) (x : Str) (es : List Expr) : Option Ex :=
  (ce.K.lookup x).bind fun c => if glo ce.sc x = true ∧ c.name = x ∧ es.isEmpty = false then (ixP ce.M x "__init__").bind fun g => (cL f es).map fun l => .make c (ce.F.length + g) l else none
def cE : Nat → CE → Expr → Option Ex
  | 0, _, _ => none
  | n + 1, ce, e => match e with
    | .Constant (.int i) _ _ => some (.cint i)
    | .Constant (.bool i) _ _ => some (.cbl i)
    | .Constant (.str i) _ _ => some (.cstr i)
    | .Constant .none _ _ => some .cnon
    | .Name x _ => if dbg x = true then none else if vis ce.sc x = true then (ixOf ce.N x).map .var else if glo ce.sc x = true then (match ce.G.lookup x with | some g => some g.ex | none => if (ixOf ce.F x).isSome = true then some (.cfn x) else none) else none
    | .BinOp a o b _ => (cBin o).bind fun o' => (cE n ce a).bind fun a' => (cE n ce b).map fun b' => .op o' a' b'
    | .UnaryOp .USub a _ => (cE n ce a).map .neg
    | .UnaryOp .Not a _ => (cE n ce a).map .not
    | .Compare a [o] [b] _ => (cOp o).bind fun o' => (cE n ce a).bind fun a' => (cE n ce b).map fun b' => .cmp o' a' b'
    | .Compare a [o, p] [b, d] _ => (cOp o).bind fun o' => (cOp p).bind fun p' => (cE n ce a).bind fun a' => (cE n ce b).bind fun b' => (cE n ce d).map fun d' => .chn o' p' a' b' d'
    | .BoolOp o es _ => (cL (cE n ce) es).bind (cBo o)
    | .IfExp t a b _ => (cE n ce t).bind fun t' => (cE n ce a).bind fun a' => (cE n ce b).map fun b' => .ife t' a' b'
    | .Tuple es _ _ => if es.length ≤ 1000 then (cL (cE n ce) es).map .tup else none
    | .List es _ => if es.length ≤ 1000 then (cL (cE n ce) es).map .lst else none
    | .Subscript a (.Slice lo hi none _) _ => (cE n ce a).bind fun a' => (cO (cE n ce) lo).bind fun l => (cO (cE n ce) hi).map fun h => .sl a' l h
    | .Subscript a (.Slice lo hi (some st) _) _ => if isRev lo hi st = true then (cE n ce a).map .rev else none
    | .Subscript a i _ => if isSl i = true then none else (cE n ce a).bind fun a' => (cE n ce i).map fun i' => .ix a' i'
    | .Attribute (.Name y yp) f _ => (ce.V.lookup y).bind fun c => (ixOf c.fs f).bind fun i => (cE n ce (.Name y yp)).map fun a => .fld a c i
    | .Call (.Attribute (.Name y yp) at_ apos) es [] pos => match ce.V.lookup y with
      | some c => cMeth (cE n ce) ce c (.Name y yp) at_ apos pos es
      | none => cAtt (cE n ce) (.Name y yp) at_ apos pos es
    | .Call (.Name f _) es [] _ => if dbg f = true then none else if (ce.K.lookup f).isSome = true then cMake (cE n ce) ce f es else if glo ce.sc f = true then
        match ixOf ce.F f with
        | some g => if es.isEmpty = true then none else (cL (cE n ce) es).map (.call g)
        | none => match es with
          | [a, .Name T _] => if f = "isinstance" then (if glo ce.sc T = true ∧ ixOf ce.F T = none then (cTy T).bind fun t => (cE n ce a).map fun a' => .bi (.isi t) [a'] else none) else (cBi f 2).bind fun b => (cL (cE n ce) es).map (.bi b)
          | [.Call (.Name r _) [a] [] _] => if f = "list" ∧ r = "range" ∧ glo ce.sc r = true ∧ ixOf ce.F r = none then (if nstar a = true then (cE n ce a).map fun a' => .bi .lrange [a'] else none) else (cBi f es.length).bind fun b => (cL (cE n ce) es).map (.bi b)
          | _ => (cBi f es.length).bind fun b => (cL (cE n ce) es).map (.bi b)
      else if vis ce.sc f = true ∧ es.isEmpty = false then (ixOf ce.N f).bind fun i => (cL (cE n ce) es).map (.callv i ce.F) else none
    | .ListComp elt [g] scope _ => if g.is_async = 0 ∧ blkC ce.N ce.sc scope (ownOf ce.N scope.names) = true ∧ g.ifs.length ≤ 1 then
        (cTg ce.N scope g.target).bind fun t => (cSrc (cE n ce) ce g.target g.iter).bind fun s => (cL (cE n { ce with sc := relS scope ce.sc }) g.ifs).bind fun ts => (cE n { ce with sc := relS scope ce.sc } elt).bind fun el =>
          if (t.1.all fun i => ((ownOf ce.N scope.names).map (·.2)).contains i) = true then some (.comp ((ownOf ce.N scope.names).map (·.2)) t.1 t.2 s.1 s.2 ts el) else none
      else none
    | _ => none

theorem cE_ns {n : Nat} {ce : CE} {e : Expr} {c : Ex} (h : cE n ce e = some c) : isSet e = false := by
  cases n with
  | zero => cases h
  | succ n => cases e <;> first | rfl | (simp only [cE] at h; cases h)
/-- what a context must have -/
structure Good (G : List Df) (cls : Nat → Value) (k : Nat) (ce : CE) (X : Cx) : Prop where
  calm : X.calm = true
  nd : X.N.Nodup
  N : X.N = ce.N
  sc : X.env.scope = ce.sc
  room : Room k X.A
  fns : ∀ (g : Nat) (x : Str), ce.F[g]? = some x → ∃ a fd ps, X.mg x = some (.ref a) ∧ PySem.W.keepIn X.K (.ref a) = true ∧ Binds X.K fd ps [] ∧ FnOk X.prog X.w X.K X.mg X.base (L2.CX X.prog X.w) k a fd ps (spC X.K cls (wpC G k) g) ∧ FnAt X.K x a
  mgf : ∀ (x : Str) (a : Addr), FnAt X.K x a → X.mg x = some (.ref a)
  blt : ∀ x ∈ bltNames, x ∉ ce.F → X.mg x = none
  gl : ∀ (x : Str) (g : GV), ce.G.lookup x = some g → ∃ u, X.mg x = some u ∧ g.rel X.K u
  vl : ∀ (y : Str) (c : Cl), ce.V.lookup y = some c → ∃ CA, CC X.K X.mg c CA
  kl : ∀ (x : Str) (c : Cl), ce.K.lookup x = some c → ∃ CA, CC X.K X.mg c CA
  mt : ∀ (j : Nat) (cn m : Str), ce.M[j]? = some (cn, m) → ∃ CA a fd ps, FnAt X.K cn CA ∧ Binds X.K fd ps [] ∧
    ((m ≠ "__init__" ∧ Meth X.K CA m a ∧ FnOk X.prog X.w X.K X.mg X.base (L2.CX X.prog X.w) k a fd ps (spC X.K cls (wpC G k) (ce.F.length + j))) ∨
      (m = "__init__" ∧ Mk X.K CA a ∧ ∀ i, k = i + 1 → FnOk X.prog X.w X.K X.mg X.base (L2.CX X.prog X.w) i a fd ps (spC X.K cls (wpC G k) (ce.F.length + j))))
  fr : FrX X
theorem Good.blk {G : List Df} {cls : Nat → Value} {k : Nat} {ce : CE} {X : Cx} (h : Good G cls k ce X) (s : Shared) (H : Hp) (scope : Scope) (cl : List (Str × Addr)) (C : Addr) (fp : List Addr) :
    Good G cls k { ce with sc := relS scope ce.sc } (X.blk s H scope (compEnvC scope cl C X.env) fp) :=
  ⟨h.calm, h.nd, h.N, by show relabel scope X.env = relS scope ce.sc; rw [← h.sc]; rfl, h.room, h.fns, h.mgf, h.blt, h.gl, h.vl, h.kl, h.mt, h.fr⟩
theorem Good.bx {G : List Df} {cls : Nat → Value} {k : Nat} {ce : CE} {X : Cx} (h : Good G cls k ce X) (s : Shared) (H : Hp) (scope : Scope) (cl : List (Str × Addr)) (C : Addr) (fp : List Addr) :
    Good G cls k { ce with sc := relS scope ce.sc } (blx X s H scope (compEnvC scope cl C X.env) fp) :=
  ⟨h.calm, h.nd, h.N, by show relabel scope X.env = relS scope ce.sc; rw [← h.sc]; rfl, h.room, h.fns, h.mgf, h.blt, h.gl, h.vl, h.kl, h.mt, h.fr⟩
theorem takesB {X : Cx} {bs : Hp × List Pl} {cls : Nat → Value} {s : Shared} {H : Hp} {scope : Scope} {env : Env} {fp : List Addr} : TakesF (X.blk s H scope env fp) (LW X.K bs cls fun _ _ _ => False) :=
  TakesF.imp takesF0 fun c d σ H ⟨_, _, _, _, _, _, _, _, h⟩ => h

section
variable {G : List Df} {cls : Nat → Value} {k : Nat}
abbrev W (G : List Df) (k : Nat) := wpC G k
theorem vis_of {sc : Scope} {x : Str} (h : vis sc x = true) : Vis sc x := by
  unfold vis at h
  simp only [Bool.or_eq_true, beq_iff_eq] at h
  rcases h with (h | h) | h
  · exact .inl h
  · exact .inr (.inl h)
  · exact .inr (.inr h)
theorem dbg_of {x : Str} (h : ¬ dbg x = true) : (x == ("__debug__" : Str)) = false ∧ (x == ("__classdict__" : Str)) = false := by
  unfold dbg at h
  simp only [Bool.or_eq_true, not_or, Bool.not_eq_true] at h
  exact h
theorem star_cons {e : Expr} {r : List Expr} {env : Env} (h : nstar e = true) : starEach (e :: r) env = (false, eval e env) :: starEach r env := by
  cases e <;> first
    | rfl
    | cases h
theorem cL_cons {f : Expr → Option Ex} {e : Expr} {r : List Expr} {l : List Ex} (h : cL f (e :: r) = some l) : ∃ a b, nstar e = true ∧ f e = some a ∧ cL f r = some b ∧ l = a :: b := by
  unfold cL at h
  split at h
  · rename_i hs
    simp only [Option.bind_eq_some_iff, Option.map_eq_some_iff] at h
    obtain ⟨a, h1, b, h2, rfl⟩ := h
    exact ⟨a, b, hs, h1, h2, rfl⟩
  · cases h
theorem cL_nil {f : Expr → Option Ex} {l : List Ex} (h : cL f [] = some l) : l = [] := by cases h; rfl
theorem noStar {f : Expr → Option Ex} {env : Env} {pos : Pos} : ∀ {es : List Expr} {l : List Ex}, cL f es = some l → (backTo pos (starEach es env)).any (·.1) = false
  | [], _, _ => rfl
  | e :: r, _, h => by
    obtain ⟨a, b, hs, _, h2, _⟩ := cL_cons h
    rw [star_cons hs]
    show (false || (backTo pos (starEach r env)).any (·.1)) = false
    rw [noStar h2]; rfl
variable {X : Cx} {bs : Hp × List Pl} {ex : XQ} {ce : CE} {n : Nat}
/-- the induction's word -/
structure Snd (G : List Df) (cls : Nat → Value) (k n : Nat) : Prop where
  e : ∀ (ce : CE) (e : Expr) (c : Ex) (X : Cx) (bs : Hp × List Pl) (ex : XQ), cE n ce e = some c → Good G cls k ce X → TakesF X (LW X.K bs cls ex) → QE X bs e (wpE (wpC G k) ex c)
  t : ∀ (ce : CE) (e : Expr) (c : Ex) (X : Cx) (bs : Hp × List Pl) (ex : XQ), cE n ce e = some c → Good G cls k ce X → TakesF X (LW X.K bs cls ex) → QT X bs e (wpT (wpC G k) ex c)
theorem snd_args (s : Snd G cls k n) (g : Good G cls k ce X) (tk : TakesF X (LW X.K bs cls ex)) : ∀ {es : List Expr} {l : List Ex}, cL (cE n ce) es = some l → QA X bs es (wpEs (wpC G k) ex l)
  | [], _, h => by rw [cL_nil h, wpEs_nil]; exact qa_nil
  | e :: r, _, h => by
    obtain ⟨a, b, hs, h1, h2, rfl⟩ := cL_cons h
    rw [wpEs_cons]
    exact qa_cons (s.e ce e a X bs ex h1 g tk) (snd_args s g tk h2) (star_cons hs)
theorem snd_bool (s : Snd G cls k n) (g : Good G cls k ce X) (tk : TakesF X (LW X.K bs cls ex)) (o : BoolOp) (pos : Pos) : ∀ {es : List Expr} {l : List Ex} {c : Ex}, cL (cE n ce) es = some l → cBo o l = some c →
    QE X bs (.BoolOp o es pos) (wpE (wpC G k) ex c) ∧ PW X (.BoolOp o es pos) (LT X.K bs (wpT (wpC G k) ex c))
  | [], _, _, h, h' => by rw [cL_nil h] at h'; cases h'
  | [e], _, _, h, h' => by
    obtain ⟨a, b, hs, h1, h2, rfl⟩ := cL_cons h
    rw [cL_nil h2] at h'
    cases h'
    refine ⟨qe_one (s.e ce e _ X bs ex h1 g tk), ?_⟩
    cases o with
    | And => exact qw_and1 (s.t ce e _ X bs ex h1 g tk)
    | Or => exact qw_or1 (s.t ce e _ X bs ex h1 g tk)
  | e :: e2 :: r, _, _, h, h' => by
    obtain ⟨a, b, hs, h1, h2, rfl⟩ := cL_cons h
    obtain ⟨a2, b2, hs2, h3, h4, rfl⟩ := cL_cons h2
    simp only [cBo, Option.map_eq_some_iff] at h'
    obtain ⟨c', h5, rfl⟩ := h'
    obtain ⟨i1, i2⟩ := snd_bool s g tk o pos h2 h5
    cases o with
    | And =>
      refine ⟨?_, ?_⟩
      · rw [wpE_and]; exact qe_and (s.e ce e _ X bs ex h1 g tk) i1
      · rw [wpT_and]; exact qw_and (s.t ce e _ X bs ex h1 g tk) i2
    | Or =>
      refine ⟨?_, ?_⟩
      · rw [wpE_or]; exact qe_or (s.e ce e _ X bs ex h1 g tk) i1
      · rw [wpT_or]; exact qw_or (s.t ce e _ X bs ex h1 g tk) i2
theorem hu_room (g : Good G cls k ce X) : X.A.units + 65 < cLine := by have := g.room.un; omega
theorem gl_of (g : Good G cls k ce X) {x : Str} (h : glo ce.sc x = true) : Gl X x := by
  unfold glo at h
  rw [← g.sc] at h
  exact beq_iff_eq.mp h
theorem snd_name (g : Good G cls k ce X) (tk : TakesF X (LW X.K bs cls ex)) {x : Str} {p : Pos} {c : Ex} (h : cE (n + 1) ce (.Name x p) = some c) : QE X bs (.Name x p) (wpE (wpC G k) ex c) := by
  simp only [cE] at h
  split at h
  · cases h
  · rename_i hd
    obtain ⟨hd1, hd2⟩ := dbg_of hd
    split at h
    · rename_i hv
      rw [Option.map_eq_some_iff] at h
      obtain ⟨i, hi, rfl⟩ := h
      rw [wpE_var]
      exact qe_var (by rw [g.N]; exact ixOf_get hi) (by rw [g.sc]; exact vis_of hv) hd1 hd2
    · split at h
      · rename_i hg
        split at h
        rotate_left
        · split at h
          · rename_i hf
            cases h
            obtain ⟨j, hj⟩ := Option.isSome_iff_exists.mp hf
            obtain ⟨a, fd, ps, hm, _, _, _, hat⟩ := g.fns j x (ixOf_get hj)
            rw [wpE_cfn]
            exact qe_glob (v := .ref a) (gl_of g hg) hm rfl (fun _ _ => .fn hat) hd1
          · cases h
        rename_i gv hi
        cases h
        obtain ⟨u, hm, r⟩ := g.gl x gv hi
        cases gv with
        | int i => show QE X bs _ (wpE (wpC G k) ex (.cint i)); rw [wpE_cint]; exact qe_glob (v := .int i) (gl_of g hg) hm r (fun _ _ => .int i) hd1
        | str i => show QE X bs _ (wpE (wpC G k) ex (.cstr i)); rw [wpE_cstr]; exact qe_glob (v := .str i) (gl_of g hg) hm r (fun _ _ => .str i) hd1
        | txts xs =>
          obtain ⟨a, o, its, m, rfl, z⟩ := r
          show QE X bs _ (wpE (wpC G k) ex (.ctup xs)); rw [wpE_ctup]
          exact qe_glob (v := .ref a) (gl_of g hg) hm rfl (fun _ _ => .tup (.inr ⟨o, its, m, z⟩) (reps_strs xs)) hd1
      · cases h
theorem snd_op (s : Snd G cls k n) (g : Good G cls k ce X) (tk : TakesF X (LW X.K bs cls ex)) {o : Operator} {o' : Op} {a b : Expr} {a' b' : Ex} {p : Pos} (ho : cBin o = some o') (ha : cE n ce a = some a') (hb : cE n ce b = some b') : QE X bs (.BinOp a o b p) (wpE (wpC G k) ex (.op o' a' b')) := by
  have qa := s.e ce a a' X bs ex ha g tk
  have qb := s.e ce b b' X bs ex hb g tk
  rw [wpE_op]
  cases o <;> simp only [cBin] at ho <;> cases ho
  · exact qe_op op_add4 lnk_add qa qb
  · exact qe_op (r := rI (fun _ _ => True) fun i j => .int (i - j)) (opI fun _ _ _ _ _ _ _ _ q => sub_int q) (lnk_ari (g := (· - ·))) qa qb
  · exact qe_op op_mul2 lnk_mul qa qb
  · exact qe_op op_modN lnk_ari qa qb
  · exact qe_op op_pow lnk_ari qa qb
  · exact qe_op op_shl lnk_ari qa qb
  · exact qe_op op_fdivL lnk_ari qa qb
theorem mem_blt {x : Str} (h : bltNames.contains x = true) : x ∈ bltNames := List.contains_iff_mem.mp h
theorem lk_mem {α β : Type} [BEq α] [LawfulBEq α] : ∀ {l : List (α × β)} {a : α} {v : β}, l.lookup a = some v → (a, v) ∈ l
  | [], _, _, h => by cases h
  | (x, y) :: r, a, v, h => by
    rw [List.lookup_cons] at h
    cases q : a == x with
    | true =>
      rw [q] at h
      cases h
      rw [beq_iff_eq.mp q]
      exact List.mem_cons_self
    | false =>
      rw [q] at h
      exact List.mem_cons_of_mem _ (lk_mem h)
theorem cBi_mem {f : Str} {m : Nat} {b : Bi} (h : cBi f m = some b) : ((f, m), b) ∈ biTab := lk_mem h
theorem bi_all : ∀ p ∈ biTab, bltNames.contains p.1.1 = true ∧ 0 < p.1.2 := by decide +kernel
theorem fi_of {f : Str} {m : Nat} {b : Bi} (h : cBi f m = some b) (hx : f ∉ ce.F) (g : Good G cls k ce X) : X.mg f = none := g.blt f (mem_blt (bi_all _ (cBi_mem h)).1) hx
theorem cBi_pos {f : Str} {m : Nat} {b : Bi} (h : cBi f m = some b) : 0 < m := (bi_all _ (cBi_mem h)).2
theorem snd_bi (s : Snd G cls k n) (g : Good G cls k ce X) (tk : TakesF X (LW X.K bs cls ex)) {f : Str} {es : List Expr} {l : List Ex} {b : Bi} {p pos : Pos} (hg : Gl X f) (hx : f ∉ ce.F) (hdb : (f == ("__debug__" : Str)) = false) (hb : cBi f es.length = some b) (hl : cL (cE n ce) es = some l) :
    QE X bs (.Call (.Name f p) es [] pos) (wpE (wpC G k) ex (.bi b l)) := by
  have hm := fi_of hb hx g
  match es, hl, hb with
  | [], hl, hb =>
    have z := cBi_pos hb
    exact absurd z (by decide)
  | e :: r, hl, hb =>
    obtain ⟨a', b', hs, h1, h2, el⟩ := cL_cons hl
    have ha := snd_args s g tk hl
    have he := star_cons (env := X.env) (r := r) hs
    have hpl := noStar (env := X.env) (pos := pos) h2
    rw [wpE_bi]
    have hmem := cBi_mem hb
    unfold biTab at hmem
    generalize hlen : (e :: r).length = len at hmem
    repeat' (rcases List.mem_cons.mp hmem with hmem | hmem; rotate_left)
    · cases hmem
    all_goals (cases hmem)
    · exact pe_imp (pe_callB (cr_sum g.calm) hg hm (by decide +kernel) ha (by decide +kernel) hdb he hpl) fun σ H Q h => args_to fw_sum h
    · exact pe_imp (pe_callB (cr_any2 g.calm) hg hm (by decide +kernel) ha (by decide +kernel) hdb he hpl) fun σ H Q h => args_to fw_any h
    · exact pe_imp (pe_callB (cr_all g.calm) hg hm (by decide +kernel) ha (by decide +kernel) hdb he hpl) fun σ H Q h => args_to fw_all h
    · exact pe_imp (pe_callTy call_list_of hg hm (by decide +kernel) ha (by decide +kernel) hdb he hpl) fun σ H Q h => args_to fw_lst1 h
    · exact pe_imp (pe_callTy call_tuple_of hg hm (by decide +kernel) ha (by decide +kernel) hdb he hpl) fun σ H Q h => args_to fw_tup1 h
    · exact pe_imp (pe_callTy call_int1 hg hm (by decide +kernel) ha (by decide +kernel) hdb he hpl) fun σ H Q h => args_to fw_int h
    · exact pe_imp (pe_callB (call_max2 g.calm) hg hm (by decide +kernel) ha (by decide +kernel) hdb he hpl) fun σ H Q h => args_to fw_max h
    · exact pe_imp (pe_callB (call_min2 g.calm) hg hm (by decide +kernel) ha (by decide +kernel) hdb he hpl) fun σ H Q h => args_to fw_min h
    · exact pe_imp (pe_callB call_len hg hm (by decide +kernel) ha (by decide +kernel) hdb he hpl) fun σ H Q h => args_to fw_len h
    · exact pe_imp (pe_callB call_abs hg hm (by decide +kernel) ha (by decide +kernel) hdb he hpl) fun σ H Q h => args_to fw_abs h
    · exact pe_imp (pe_callB (cr_min g.calm) hg hm (by decide +kernel) ha (by decide +kernel) hdb he hpl) fun σ H Q h => args_to fw_min1 h
    · exact pe_imp (pe_callB (cr_max g.calm) hg hm (by decide +kernel) ha (by decide +kernel) hdb he hpl) fun σ H Q h => args_to fw_max1 h
    · exact pe_imp (pe_callB cr_sort hg hm (by decide +kernel) ha (by decide +kernel) hdb he hpl) fun σ H Q h => args_to fw_sort1 h
theorem ty_boot {x : Str} {t : Ty} (h : cTy x = some t) : bootBuiltins x = some (.type (tyT t)) ∧ x ∈ bltNames ∧ x ≠ "__name__" ∧ (x == ("__debug__" : Str)) = false := by
  unfold cTy at h
  repeat' split at h
  all_goals first
    | (rename_i e; subst e; cases h; exact ⟨by decide +kernel, mem_blt (by decide +kernel), by decide +kernel, by decide +kernel⟩)
    | cases h
theorem snd_isi (s : Snd G cls k n) (g : Good G cls k ce X) (tk : TakesF X (LW X.K bs cls ex)) {a : Expr} {a' : Ex} {T : Str} {t : Ty} {p q pos : Pos} (hg : Gl X "isinstance") (hx : ("isinstance" : Str) ∉ ce.F) (hgT : Gl X T) (hxT : T ∉ ce.F) (hT : cTy T = some t) (hs : nstar a = true) (ha : cE n ce a = some a') :
    QE X bs (.Call (.Name "isinstance" p) [a, .Name T q] [] pos) (wpE (wpC G k) ex (.bi (.isi t) [a'])) := by
  obtain ⟨hb, hmem, hn, hd⟩ := ty_boot hT
  have hm : X.mg "isinstance" = none := g.blt _ (mem_blt (by decide +kernel)) hx
  have hmT : X.mg T = none := g.blt _ hmem hxT
  have h1 := s.e ce a a' X bs ex ha g tk
  have h2 : PE X (.Name T q) (tC (.ty (tyT t))) := pe_bltn hgT hmT hb rfl hn hd
  have st : starEach [a, .Name T q] X.env = (false, eval a X.env) :: starEach [.Name T q] X.env := star_cons hs
  rw [wpE_bi, wpEs_cons, wpEs_nil]
  exact pe_imp (pe_callB call_isi hg hm (by decide +kernel) (pa_cons h1 (pa_cons h2 pa_nil rfl) st) (by decide +kernel) (by decide +kernel) st rfl) fun σ H Q h => by
    obtain ⟨φ, σu, S, Qu, hs, ho, q, kk⟩ := h
    exact ⟨φ, σu, S, _, hs, ho, q, fun u S1 φ1 v H1 e1 o1 r1 q1 => fw_isi H1 φ1 S1 u v Qu Q o1 r1 q1 fun u S' φ' v H' e2 o2 r2 q2 => kk u S' φ' v H' (e1.trans e2) o2 r2 q2⟩
theorem fold_ok {e : Expr} {env : Env} (h : isSet e = false) : ∀ x, foldedSetIterable e env x = pure x := by
  intro x
  cases e <;> first
    | rfl
    | cases h
theorem snd_src (s : Snd G cls k n) (g : Good G cls k ce X) (tk : TakesF X (LW X.K bs cls ex)) {tg it : Expr} {m : Nat} {l : List Ex} (h : cSrc (cE n ce) ce tg it = some (m, l)) :
    PI X tg it (LI X.K bs fun σ S R => wpEs (wpC G k) ex l σ S fun us S1 => srcU m us S1 fun its lv li => R its lv li S1) ∧ ∀ x, foldedSetIterable it X.env x = pure x := by
  have val : ∀ {e : Expr}, isSet e = false → (cE n ce e).map (fun e => (0, [e])) = some (m, l) → PI X tg e (LI X.K bs fun σ S R => wpEs (wpC G k) ex l σ S fun us S1 => srcU m us S1 fun its lv li => R its lv li S1) ∧ ∀ x, foldedSetIterable e X.env x = pure x := fun {e} hse h => by
    rw [Option.map_eq_some_iff] at h
    obtain ⟨c, hc, e2⟩ := h
    cases e2
    refine ⟨?_, fold_ok hse⟩
    rw [wpEs_cons, wpEs_nil]
    exact qi_seq (tg := tg) (s.e ce e c X bs ex hc g tk)
  unfold cSrc at h
  split at h
  · rename_i f p es q
    split at h
    · rename_i hc
      obtain ⟨hg, rfl, hx, hl⟩ := hc
      rw [Option.map_eq_some_iff] at h
      obtain ⟨l', hl', e2⟩ := h
      cases e2
      have hg' := gl_of g hg
      have hm : X.mg "range" = none := g.blt _ (mem_blt (by decide +kernel)) (ixOf_none hx)
      have ha := snd_args s g tk hl'
      refine ⟨?_, fun x => rfl⟩
      match es, hl, hl', ha with
      | [a], _, hl', ha =>
        obtain ⟨_, _, hs, _, _, _⟩ := cL_cons hl'
        exact qi_rng1 hg' hm ha (star_cons hs)
      | [a, b], _, hl', ha =>
        obtain ⟨_, _, hs, _, h2, _⟩ := cL_cons hl'
        obtain ⟨_, _, hs2, _, _, _⟩ := cL_cons h2
        have e2 : starEach [b] X.env = [(false, eval b X.env)] := star_cons hs2
        exact qi_rng2 hg' hm ha (by rw [star_cons hs, e2]) e2
      | [a, b, c], _, hl', ha =>
        obtain ⟨_, _, hs, _, h2, _⟩ := cL_cons hl'
        obtain ⟨_, _, hs2, _, h3, _⟩ := cL_cons h2
        obtain ⟨_, _, hs3, _, _, _⟩ := cL_cons h3
        have e3 : starEach [c] X.env = [(false, eval c X.env)] := star_cons hs3
        have e2 : starEach [b, c] X.env = [(false, eval b X.env), (false, eval c X.env)] := by rw [star_cons hs2, e3]
        exact qi_rng3 hg' hm ha fun ha' => pi_range3 hg' hm ha' (star_cons hs) (by rw [e2]; rfl)
      | _ :: _ :: _ :: _ :: _, hl, _, _ => simp at hl
      | [], hl, _, _ => simp at hl
    · split at h
      · rename_i hc
        obtain ⟨hg, rfl, hx, hl, ht⟩ := hc
        rw [Option.map_eq_some_iff] at h
        obtain ⟨l', hl', e2⟩ := h
        cases e2
        have hg' := gl_of g hg
        have hm : X.mg "enumerate" = none := g.blt _ (mem_blt (by decide +kernel)) (ixOf_none hx)
        have ha := snd_args s g tk hl'
        refine ⟨?_, fun x => rfl⟩
        cases tg <;> try (cases ht; done)
        match es, hl, hl', ha with
        | [a], _, hl', ha =>
          obtain ⟨_, _, hs, _, _, _⟩ := cL_cons hl'
          exact qi_en hg' hm ha (star_cons hs)
      · exact val rfl h
  · split at h
    · cases h
    · rename_i hh
      exact val (by simpa using hh) h
end
end Ek


namespace Ek
open PySem PySem.Spec PyProof.Rows L2
section
variable {G : List Df} {cls : Nat → Value} {k : Nat} {X : Cx} {bs : Hp × List Pl} {ex : XQ} {ce : CE} {n : Nat}
theorem snd_call (s : Snd G cls k n) (g : Good G cls k ce X) (tk : TakesF X (LW X.K bs cls ex)) {f : Str} {j : Nat} {es : List Expr} {l : List Ex} {p pos : Pos} (hd : (f == ("__debug__" : Str)) = false) (hg : Gl X f) (hj : ixOf ce.F f = some j) (hne : ¬ es.isEmpty = true) (hl : cL (cE n ce) es = some l) :
    QE X bs (.Call (.Name f p) es [] pos) (wpE (wpC G k) ex (.call j l)) := by
  match es, hl, hne with
  | [], _, hne => exact absurd rfl hne
  | e :: r, hl, _ =>
    obtain ⟨a', b', hs, h1, h2, el⟩ := cL_cons hl
    have ha := snd_args s g tk hl
    obtain ⟨a, fd, ps, hm, hk, hb, F, _⟩ := g.fns j f (ixOf_get hj)
    rw [wpE_call]
    exact qe_call F g.room hg hm hk hb tk.tk ha hd (star_cons hs) (noStar h2)
theorem snd_callv (s : Snd G cls k n) (g : Good G cls k ce X) (tk : TakesF X (LW X.K bs cls ex)) {f : Str} {i : Nat} {es : List Expr} {l : List Ex} {p pos : Pos} (hd : (f == ("__debug__" : Str)) = false ∧ (f == ("__classdict__" : Str)) = false) (hv : Vis X.env.scope f) (hi : ixOf ce.N f = some i) (hne : es.isEmpty = false) (hl : cL (cE n ce) es = some l) :
    QE X bs (.Call (.Name f p) es [] pos) (wpE (wpC G k) ex (.callv i ce.F l)) := by
  match es, hl, hne with
  | [], _, hne => cases hne
  | e :: r, hl, _ =>
    obtain ⟨a', b', hs, h1, h2, el⟩ := cL_cons hl
    have ha := snd_args s g tk hl
    rw [wpE_callv]
    refine qe_callv g.room (by rw [g.N]; exact ixOf_get hi) hv (fun j y a hy hat => ?_) tk.tk ha hd.1 hd.2 (star_cons hs) (noStar h2)
    obtain ⟨a2, fd, ps, hm, hk, hb, F, _⟩ := g.fns j y hy
    have e := g.mgf y a hat
    rw [hm] at e
    cases e
    exact ⟨fd, ps, hk, hb, F⟩
theorem plainIx {i : Expr} (h : isSl i = false) : PlainIx i := by
  intro o v
  cases i <;> first
    | rfl
    | cases h
theorem snd_part (s : Snd G cls k n) (g : Good G cls k ce X) (tk : TakesF X (LW X.K bs cls ex)) {o : Option Expr} {c : Ex} (h : cO (cE n ce) o = some c) : PO X o (LO X.K bs (wpE (wpC G k) ex c)) := by
  cases o with
  | none => cases h; rw [wpE_cnon]; exact qo_none
  | some e => exact qo_some (s.e ce e c X bs ex h g tk)
theorem blk_loc {scope : Scope} {x : Str} (h : loc scope x = true) (s : Shared) (H : Hp) (cl : List (Str × Addr)) (C : Addr) (fp : List Addr) :
    Loc (X.blk s H scope (compEnvC scope cl C X.env) fp).env.scope x ∧ ((X.blk s H scope (compEnvC scope cl C X.env) fp).fn x = true ∨ (X.blk s H scope (compEnvC scope cl C X.env) fp).env.scope.names.lookup x = some .local) := by
  unfold loc at h
  simp only [Bool.or_eq_true, beq_iff_eq] at h
  rcases h with h | h
  · have z : (relabel scope X.env).names.lookup x = some .local := lookup_relS_keep (sc := X.env.scope) (by decide) h
    exact ⟨.inl z, .inr z⟩
  · have z : (relabel scope X.env).names.lookup x = some .cell := lookup_relS_keep (sc := X.env.scope) (by decide) h
    exact ⟨.inr z, .inl (by show (scope.names.lookup x == some .cell) = true; rw [h]; rfl)⟩
theorem cT1_inv {N : List Str} {sc : Scope} {e : Expr} {i : Nat} (h : cT1 N sc e = some i) : ∃ x p, e = .Name x p ∧ loc sc x = true ∧ ixOf N x = some i := by
  cases e <;> try (cases h; done)
  rename_i x p
  simp only [cT1] at h
  split at h
  · rename_i hl
    exact ⟨x, p, rfl, hl, h⟩
  · cases h
theorem blk_name {scope : Scope} {e : Expr} {i : Nat} (g : Good G cls k ce X) (h : cT1 ce.N scope e = some i) (s : Shared) (H : Hp) (C : Addr) (cl : List (Str × Addr)) (fp : List Addr) : PG (X.blk s H scope (compEnvC scope cl C X.env) fp) e (gName i) := by
  obtain ⟨x, p, rfl, hl, hi⟩ := cT1_inv h
  obtain ⟨h1, h2⟩ := blk_loc (X := X) hl s H cl C fp
  exact pg_name g.nd (by show X.N[i]? = some x; rw [g.N]; exact ixOf_get hi) h1 h2
theorem asg_star {e : Expr} {r : List Expr} {env : Env} (h : nstar e = true) : assignEach (e :: r) env = (false, assign e env) :: assignEach r env := by
  cases e <;> first
    | rfl
    | cases h
theorem blk_names {scope : Scope} (g : Good G cls k ce X) (s : Shared) (H : Hp) (C : Addr) (cl : List (Str × Addr)) (fp : List Addr) : ∀ {es : List Expr} {l : List Nat}, cTs ce.N scope es = some l →
    PGs (X.blk s H scope (compEnvC scope cl C X.env) fp) es (gNames l) ∧ (assignEach es (compEnvC scope cl C X.env)).length = l.length ∧ (assignEach es (compEnvC scope cl C X.env)).findIdx? (·.1) = none
  | [], _, h => by cases h; exact ⟨pgs_nil, rfl, rfl⟩
  | e :: r, _, h => by
    simp only [cTs, Option.bind_eq_some_iff, Option.map_eq_some_iff] at h
    obtain ⟨i, h1, l, h2, rfl⟩ := h
    obtain ⟨a, b, c⟩ := blk_names g s H C cl fp h2
    have hs : nstar e = true := by
      obtain ⟨x, p, rfl, _, _⟩ := cT1_inv h1
      rfl
    refine ⟨pgs_cons (blk_name g h1 s H C cl fp) a (by rw [show (X.blk s H scope (compEnvC scope cl C X.env) fp).env = compEnvC scope cl C X.env from rfl, asg_star hs]; rfl), ?_, ?_⟩
    · rw [asg_star hs]; simp [b]
    · rw [asg_star hs, List.findIdx?_cons]
      simp [c]
theorem blk_tg {scope : Scope} (g : Good G cls k ce X) {e : Expr} {t : List Nat × Bool} (h : cTg ce.N scope e = some t) (s : Shared) (H : Hp) (C : Addr) (cl : List (Str × Addr)) (fp : List Addr) : PG (X.blk s H scope (compEnvC scope cl C X.env) fp) e (gB X.K t.1 t.2) := by
  have one : ∀ {e : Expr}, (cT1 ce.N scope e).map (fun i => ([i], false)) = some t → PG (X.blk s H scope (compEnvC scope cl C X.env) fp) e (gB X.K t.1 t.2) := fun {e} h => by
    rw [Option.map_eq_some_iff] at h
    obtain ⟨i, h1, rfl⟩ := h
    exact blk_name g h1 s H C cl fp
  cases e <;> try (exact one h)
  rename_i es kk pos
  simp only [cTg, Option.map_eq_some_iff] at h
  obtain ⟨l, h1, rfl⟩ := h
  obtain ⟨a, b, c⟩ := blk_names g s H C cl fp h1
  exact pg_tup g.calm a b c
theorem snd_tests (s : Snd G cls k n) (g : Good G cls k ce X) {es : List Expr} {l : List Ex} (tk : TakesF X (LW X.K bs cls fun _ _ _ => False)) (h : cL (cE n ce) es = some l) (hl : es.length ≤ 1) : PTs X es (LT X.K bs (wpTs (wpC G k) l)) := by
  match es, h, hl with
  | [], h, _ =>
    rw [cL_nil h, wpTs_nil]
    exact ⟨fun pins s σ H Q I ⟨φ, σu, S, Qu, hs, ho, q, kk⟩ => pts_nil.run pins s σ H Q I (kk true S φ H Ext.refl ho q)⟩
  | [e], h, _ =>
    obtain ⟨a, b, hs, h1, h2, rfl⟩ := cL_cons h
    rw [cL_nil h2, wpTs_cons]
    exact pts_one (s.t ce e a X bs _ h1 g tk)
/-- the parts of a comprehension's rule -/
structure LcParts (G : List Df) (cls : Nat → Value) (k n : Nat) (ce : CE) (X : Cx) (bs : Hp × List Pl) (ex : XQ) (elt tg iter : Expr) (ifs : List Expr) (scope : Scope) (c : Ex) where
  wi : WI
  wt : Sl → Sto → BQ → Prop
  we : Sl → Sto → UQ → Prop
  ts : List Nat
  tp : Bool
  eq : wpE (wpC G k) ex c = fun σ S Q => wi σ S fun its lv li S1 => compU (bindU ts tp) wt we (wipeU σ ((ownOf ce.N scope.names).map (·.2))) lv li Q its [] S1
  hi : PI X tg iter (LI X.K bs wi)
  ok : BlkOk X.N X.env.scope scope (ownOf ce.N scope.names)
  hv : ∀ i ∈ ts, i ∈ (ownOf ce.N scope.names).map (·.2)
  hg : ∀ (s : Shared) (H : Hp) (C : Addr) (cl : List (Str × Addr)) (fp : List Addr), PG (X.blk s H scope (compEnvC scope cl C X.env) fp) tg (gB X.K ts tp)
  ht : ∀ (s : Shared) (H : Hp) (C : Addr) (cl : List (Str × Addr)) (fp : List Addr), PTs (X.blk s H scope (compEnvC scope cl C X.env) fp) ifs (LT X.K bs wt)
  he : ∀ (s : Shared) (H : Hp) (C : Addr) (cl : List (Str × Addr)) (fp : List Addr), TakesF (blx X s H scope (compEnvC scope cl C X.env) fp) (LW X.K bs cls (exB ex)) → PE (blx X s H scope (compEnvC scope cl C X.env) fp) elt (LE X.K bs we)
  hs : ∀ x, foldedSetIterable iter X.env x = pure x
theorem snd_lc (s : Snd G cls k n) (g : Good G cls k ce X) (tk : TakesF X (LW X.K bs cls ex)) {elt : Expr} {gn : Comprehension} {scope : Scope} {pos : Pos} {c : Ex} (h : cE (n + 1) ce (.ListComp elt [gn] scope pos) = some c) :
    gn.is_async = 0 ∧ Nonempty (LcParts G cls k n ce X bs ex elt gn.target gn.iter gn.ifs scope c) := by
  simp only [cE] at h
  split at h
  · rename_i hc
    obtain ⟨ha, hb, hl⟩ := hc
    simp only [Option.bind_eq_some_iff] at h
    obtain ⟨t, ht, ⟨m, l⟩, hsrc, ts, hts, el, hel, h⟩ := h
    split at h
    · rename_i hall
      cases h
      obtain ⟨hi, hs⟩ := snd_src (tg := gn.target) s g tk hsrc
      refine ⟨ha, ⟨⟨_, _, _, t.1, t.2, wpE_comp, hi, ?_, fun i hm => ?_, fun s' H C cl fp => blk_tg g ht s' H C cl fp, fun s' H C cl fp => ?_, fun s' H C cl fp tkx => ?_, hs⟩⟩⟩
      · rw [g.N, g.sc]; exact blkOk_by hb
      · have := List.all_eq_true.mp hall i hm
        exact List.contains_iff_mem.mp this
      · exact snd_tests s (g.blk s' H scope cl C fp) takesB hts hl
      · exact s.e _ elt el _ bs _ hel (g.bx s' H scope cl C fp) tkx
    · cases h
  · cases h
def noTest : Expr → Bool
  | .UnaryOp .Not _ _ => false
  | .BoolOp .. => false
  | .IfExp .. => false
  | .Compare .. => false
  | _ => true
theorem tru_he {a : Expr} {env : Env} (h : noTest a = true) : ∀ whole, isTrue a env whole = (do let v ← whole; standAt a.pos; holding [v] (truthy v)) := by
  intro whole
  cases a <;> first
    | rfl
    | (simp [noTest] at h; done)
    | skip
  rename_i o x p
  cases o <;> first
    | rfl
    | (simp [noTest] at h; done)
/-- the value of a list comprehension -/
theorem snd_lcE (s : Snd G cls k n) (g : Good G cls k ce X) (tk : TakesF X (LW X.K bs cls ex)) {elt : Expr} {gn : Comprehension} {scope : Scope} {pos : Pos} {c : Ex} (h : cE (n + 1) ce (.ListComp elt [gn] scope pos) = some c) : QE X bs (.ListComp elt [gn] scope pos) (wpE (wpC G k) ex c) := by
  obtain ⟨ha, ⟨p⟩⟩ := snd_lc s g tk h
  obtain ⟨tg, it, ifs, as⟩ := gn
  have ha' : as = 0 := ha
  subst ha'
  rw [p.eq]
  exact qe_compX g.calm g.nd p.hi p.ok p.hv p.hg p.ht p.he g.fr tk p.hs
theorem meth_form {y m : Str} {yp apos pos : Pos} {es : List Expr} {env : Env} (hl : (apos.endLine == pos.line) = true) (hn : es.length < 30) (hs : (backTo pos (starEach es env)).any (·.1) = false) :
    eval (.Call (.Attribute (.Name y yp) m apos) es [] pos) env = (do
      let ov ← eval (.Name y yp) env
      standAt apos.atName
      let (f, first) ← holding [ov] (getMethod ov m (do return (← importBound (.Name y yp) env).getD true))
      callWith pos f first (backTo pos (starEach es env)) (backToKw pos (keywordEach [] env))) := by
  have h : methodCallForm (es.length + ([] : List Keyword).length) (backTo pos (starEach es env)) (backToKw pos (keywordEach [] env)) = true := by
    unfold methodCallForm
    have e1 : (backTo pos (starEach es env)).all (fun x => !x.1) = true := by
      rw [List.all_eq_not_any_not]
      simp only [Bool.not_not]
      rw [hs]; rfl
    rw [e1]
    show (true && true && decide (es.length + 0 + 0 < 30)) = true
    simpa using hn
  rw [arm_eval_Call]
  unfold methodCall calleeOf methodCallPos
  rw [h, hl]
  rfl
theorem snd_meth (s : Snd G cls k n) (g : Good G cls k ce X) (tk : TakesF X (LW X.K bs cls ex)) {y m : Str} {yp apos pos : Pos} {es : List Expr} {c0 : Cl} {c : Ex} (hv : ce.V.lookup y = some c0) (h : cMeth (cE n ce) ce c0 (.Name y yp) m apos pos es = some c) :
    QE X bs (.Call (.Attribute (.Name y yp) m apos) es [] pos) (wpE (wpC G k) ex c) := by
  unfold cMeth at h
  split at h
  · rename_i hc
    obtain ⟨hm, hi, hline, hlen⟩ := hc
    have ht := meth_form (y := y) (yp := yp) (m := m) (env := X.env) hline hlen
    simp only [Option.bind_eq_some_iff, Option.map_eq_some_iff] at h
    obtain ⟨j, hj, a', ha, l, hl, rfl⟩ := h
    obtain ⟨CA, kc⟩ := g.vl y c0 hv
    obtain ⟨CB, a, fd, ps, hat, hb, q⟩ := g.mt j _ _ (ixP_get hj)
    cases fn_uniq hat kc.at_
    rcases q with ⟨_, hme, F⟩ | ⟨e, _⟩
    · rw [wpE_meth]
      cases es with
      | nil =>
        rw [cL_nil hl]
        simp only [wpEs_nil]
        exact qe_meth0 kc hme (ixOf_none hm) (s.e ce _ a' X bs ex ha g tk) F g.room hb tk.tk (ht rfl)
      | cons e r =>
        obtain ⟨_, _, hs, _, h2, _⟩ := cL_cons hl
        exact qe_meth kc hme (ixOf_none hm) (s.e ce _ a' X bs ex ha g tk) F g.room hb tk.tk (snd_args s g tk hl) (star_cons hs) (noStar h2) (ht (noStar hl))
    · exact absurd e hi
  · cases h
/-- the arguments, then what can't be -/
theorem pe_noMake {x : Str} {p pos : Pos} {e : Expr} {es : List Expr} {CA fA : Addr} {t : TA} (M : Mk X.K CA fA) (hg : Gl X x) (hm : X.mg x = some (.ref CA)) (ha : PA X (e :: es) t) (hdb : (x == ("__debug__" : Str)) = false) (he : starEach (e :: es) X.env = (false, eval e X.env) :: starEach es X.env) (hpl : (backTo pos (starEach es X.env)).any (·.1) = false) :
    PE X (.Call (.Name x p) (e :: es) [] pos) (fun σ H Q => t σ H fun _ _ => False) := by
  refine ⟨fun pins s σ H Q I h => ?_⟩
  refine wpAny_Call_Name_kw (ld_glob I hg hm ?_ hdb)
  exact PySem.W.callWith_K (h₀ := X.base) I.ok.mod.kin M.kp (thn (ha.run pos pins s σ H _ I h) fun us s1 ⟨vs, H1, I1, r, q⟩ => q.elim) he hpl
theorem snd_make (s : Snd G cls k n) (g : Good G cls k ce X) (tk : TakesF X (LW X.K bs cls ex)) {x : Str} {p pos : Pos} {es : List Expr} {c : Ex} (hd : (x == ("__debug__" : Str)) = false) (h : cMake (cE n ce) ce x es = some c) :
    QE X bs (.Call (.Name x p) es [] pos) (wpE (wpC G k) ex c) := by
  unfold cMake at h
  rw [Option.bind_eq_some_iff] at h
  obtain ⟨c0, hk, h⟩ := h
  split at h
  · rename_i hc
    obtain ⟨hg, hn, hne⟩ := hc
    simp only [Option.bind_eq_some_iff, Option.map_eq_some_iff] at h
    obtain ⟨j, hj, l, hl, rfl⟩ := h
    obtain ⟨CA, kc⟩ := g.kl x c0 hk
    obtain ⟨CB, a, fd, ps, hat, hb, q⟩ := g.mt j _ _ (ixP_get hj)
    rw [← hn] at hat
    cases fn_uniq hat kc.at_
    rcases q with ⟨e, _⟩ | ⟨_, M, F⟩
    · exact absurd rfl e
    · rw [wpE_make]
      match es, hl with
      | e :: r, hl =>
        obtain ⟨_, _, hs, _, h2, _⟩ := cL_cons hl
        cases k with
        | zero =>
          refine pe_imp (pe_noMake M (gl_of g hg) (by rw [← hn]; exact kc.mgc) (snd_args s g tk hl) hd (star_cons hs) (noStar h2)) fun σ H Q ⟨φ, σu, S, Qu, hs, ho, q, kk⟩ => ⟨φ, σu, S, _, hs, ho, q, fun us S1 φ1 vs H1 _ _ _ _ q1 => q1.elim⟩
        | succ i => exact qe_make kc hn M (F i rfl) g.room (gl_of g hg) hb tk.tk (snd_args s g tk hl) hd (star_cons hs) (noStar h2)
      | [], hl => simp at hne
  · cases h
theorem snd_e (s : Snd G cls k n) : ∀ (ce : CE) (e : Expr) (c : Ex) (X : Cx) (bs : Hp × List Pl) (ex : XQ), cE (n + 1) ce e = some c → Good G cls k ce X → TakesF X (LW X.K bs cls ex) → QE X bs e (wpE (wpC G k) ex c) := by
  intro ce e c X bs ex h g tk
  cases e with
  | Constant v kk p =>
    cases v <;> simp only [cE] at h <;> cases h
    · rw [wpE_cnon]; exact qe_non
    · rw [wpE_cbl]; exact qe_bl
    · rw [wpE_cint]; exact qe_int
    · rw [wpE_cstr]; exact qe_str
  | Name x p => exact snd_name g tk h
  | BinOp a o b p =>
    simp only [cE, Option.bind_eq_some_iff, Option.map_eq_some_iff] at h
    obtain ⟨o', ho, a', ha, b', hb, rfl⟩ := h
    exact snd_op s g tk ho ha hb
  | UnaryOp o a p =>
    cases o <;> simp only [cE, Option.map_eq_some_iff] at h <;> first
      | (obtain ⟨a', ha, rfl⟩ := h
         first
           | (rw [wpE_not]; exact qe_not (s.e ce a a' X bs ex ha g tk))
           | (rw [wpE_neg]; exact pe_imp (pe_un un_neg (s.e ce a a' X bs ex ha g tk)) (one lnk_neg)))
      | cases h
  | Compare a os es p =>
    match os, es, h with
    | [o], [b], h =>
      simp only [cE, Option.bind_eq_some_iff, Option.map_eq_some_iff] at h
      obtain ⟨o', ho, a', ha, b', hb, rfl⟩ := h
      obtain ⟨kc⟩ := cm_ok (bs := bs) (hu_room g) ho
      rw [wpE_cmp]
      exact qe_cmp (cE_ns hb) kc (s.e ce a a' X bs ex ha g tk) (s.e ce b b' X bs ex hb g tk)
    | [o, o2], [b, d], h =>
      simp only [cE, Option.bind_eq_some_iff, Option.map_eq_some_iff] at h
      obtain ⟨o', ho, p', hp, a', ha, b', hb, d', hd, rfl⟩ := h
      obtain ⟨kc⟩ := cm_ok (bs := bs) (hu_room g) ho
      obtain ⟨kc2⟩ := cm_ok (bs := bs) (hu_room g) hp
      rw [wpE_chn]
      exact qe_chn (cE_ns hd) kc kc2 (s.e ce a a' X bs ex ha g tk) (s.e ce b b' X bs ex hb g tk) (s.e ce d d' X bs ex hd g tk)
  | BoolOp o es p =>
    simp only [cE, Option.bind_eq_some_iff] at h
    obtain ⟨l, hl, hb⟩ := h
    exact (snd_bool s g tk o p hl hb).1
  | IfExp t a b p =>
    simp only [cE, Option.bind_eq_some_iff, Option.map_eq_some_iff] at h
    obtain ⟨t', ht, a', ha, b', hb, rfl⟩ := h
    rw [wpE_ife]
    exact qe_ife (s.t ce t t' X bs ex ht g tk) (s.e ce a a' X bs ex ha g tk) (s.e ce b b' X bs ex hb g tk)
  | Tuple es kk p =>
    simp only [cE] at h
    split at h
    · rename_i hl
      rw [Option.map_eq_some_iff] at h
      obtain ⟨l, h1, rfl⟩ := h
      rw [wpE_tup]
      exact qe_tup (snd_args s g tk h1) hl
    · cases h
  | List es p =>
    simp only [cE] at h
    split at h
    · rename_i hl
      rw [Option.map_eq_some_iff] at h
      obtain ⟨l, h1, rfl⟩ := h
      rw [wpE_lst]
      exact qe_lst (snd_args s g tk h1) hl
    · cases h
  | Subscript a i p =>
    have gen : isSl i = false → ((cE n ce a).bind fun a' => (cE n ce i).map fun i' => Ex.ix a' i') = some c → QE X bs (.Subscript a i p) (wpE (wpC G k) ex c) := fun hi h => by
      simp only [Option.bind_eq_some_iff, Option.map_eq_some_iff] at h
      obtain ⟨a', ha, i', hi', rfl⟩ := h
      rw [wpE_ix]
      exact qe_ix (plainIx hi) (s.e ce a a' X bs ex ha g tk) (s.e ce i i' X bs ex hi' g tk)
    cases i <;> try (exact gen rfl (by simpa only [cE, isSl, Bool.false_eq_true, if_false] using h))
    rename_i lo hi st p2
    cases st with
    | none =>
      simp only [cE, Option.bind_eq_some_iff, Option.map_eq_some_iff] at h
      obtain ⟨a', ha, l, hl, u, hu, rfl⟩ := h
      rw [wpE_sl]
      exact qe_sl (s.e ce a a' X bs ex ha g tk) (snd_part s g tk hl) (snd_part s g tk hu)
    | some st =>
      simp only [cE] at h
      split at h
      · rename_i hr
        obtain ⟨k', p1, p3, rfl, rfl, rfl⟩ := isRev_of hr
        rw [Option.map_eq_some_iff] at h
        obtain ⟨a', ha, rfl⟩ := h
        rw [wpE_rev]
        exact qe_rev (s.e ce a a' X bs ex ha g tk)
      · cases h
  | Call f es kws p =>
    cases f <;> try (simp only [cE] at h; cases h; done)
    case Attribute o at_ apos =>
      cases o <;> try (simp only [cE] at h; cases h; done)
      rename_i y yp
      cases kws with
      | cons _ _ => simp only [cE] at h; cases h
      | nil =>
        simp only [cE] at h
        split at h
        · rename_i c0 hv
          exact snd_meth s g tk hv h
        · cases es with
          | cons b r =>
            cases r with
            | cons _ _ => simp only [cAtt] at h; cases h
            | nil =>
              simp only [cAtt] at h
              split at h
              · rename_i hc
                obtain ⟨rfl, hl, hs⟩ := hc
                simp only [Option.bind_eq_some_iff, Option.map_eq_some_iff] at h
                obtain ⟨a', ha, b', hb, rfl⟩ := h
                rw [wpE_idx]
                have e1 : starEach [b] X.env = (false, eval b X.env) :: starEach [] X.env := star_cons hs
                exact qe_idx (s.e ce _ a' X bs ex ha g tk) (s.e ce b b' X bs ex hb g tk) rfl (by rw [e1]; rfl) hl e1
              · cases h
          | nil =>
            simp only [cAtt] at h
            split at h
            · rename_i hc
              obtain ⟨rfl, hl⟩ := hc
              rw [Option.map_eq_some_iff] at h
              obtain ⟨a', ha, rfl⟩ := h
              rw [wpE_bi, wpEs_cons, wpEs_nil]
              exact pe_imp (pe_bits (s.e ce _ a' X bs ex ha g tk) rfl hl) (one lnk_bits)
            · cases h
    rename_i x p1
    cases kws with
    | cons _ _ => simp only [cE] at h; cases h
    | nil =>
      simp only [cE] at h
      split at h
      · cases h
      · rename_i hd
        obtain ⟨hd1, hd2⟩ := dbg_of hd
        split at h
        · exact snd_make s g tk hd1 h
        split at h
        · rename_i hg
          have hg' := gl_of g hg
          split at h
          · rename_i j hj
            split at h
            · cases h
            · rename_i hne
              rw [Option.map_eq_some_iff] at h
              obtain ⟨l, hl, rfl⟩ := h
              exact snd_call s g tk hd1 hg' hj hne hl
          · rename_i hj
            have hx := ixOf_none hj
            have gen : ((cBi x es.length).bind fun b => (cL (cE n ce) es).map (Ex.bi b)) = some c → QE X bs (.Call (.Name x p1) es [] p) (wpE (wpC G k) ex c) := fun h => by
              simp only [Option.bind_eq_some_iff, Option.map_eq_some_iff] at h
              obtain ⟨b, hb, l, hl, rfl⟩ := h
              exact snd_bi s g tk hg' hx hd1 hb hl
            split at h
            · rename_i a T q
              split at h
              · rename_i hi
                subst hi
                split at h
                · rename_i hT
                  simp only [Option.bind_eq_some_iff, Option.map_eq_some_iff] at h
                  obtain ⟨t, ht, a', ha, rfl⟩ := h
                  have hs : nstar a = true := by
                    cases a <;> first
                      | rfl
                      | (cases n <;> (simp only [cE] at ha; cases ha))
                  exact snd_isi s g tk hg' hx (gl_of g hT.1) (ixOf_none hT.2) ht hs ha
                · cases h
              · exact gen h
            · rename_i r q a q2
              split at h
              · rename_i hc
                obtain ⟨rfl, rfl, hgr, hxr⟩ := hc
                split at h
                · rename_i hs
                  rw [Option.map_eq_some_iff] at h
                  obtain ⟨a', ha, rfl⟩ := h
                  have hm1 : X.mg "list" = none := g.blt _ (mem_blt (by decide +kernel)) hx
                  have hm2 : X.mg "range" = none := g.blt _ (mem_blt (by decide +kernel)) (ixOf_none hxr)
                  rw [wpE_bi, wpEs_cons, wpEs_nil]
                  exact pe_imp (pe_listRg g.calm hg' hm1 (prg_1 (gl_of g hgr) hm2 (s.e ce a a' X bs ex ha g tk) (star_cons hs)) rfl) (one lnk_lrange)
                · cases h
              · exact gen h
            · exact gen h
        · split at h
          · rename_i hv
            simp only [Option.bind_eq_some_iff, Option.map_eq_some_iff] at h
            obtain ⟨i, hi, l, hl, rfl⟩ := h
            exact snd_callv s g tk ⟨hd1, hd2⟩ (by rw [g.sc]; exact vis_of hv.1) hi hv.2 hl
          · cases h
  | ListComp elt gs scope p =>
    match gs, h with
    | [gn], h => exact snd_lcE s g tk h
  | Attribute o f p =>
    cases o <;> try (simp only [cE] at h; cases h; done)
    rename_i y yp
    simp only [cE, Option.bind_eq_some_iff, Option.map_eq_some_iff] at h
    obtain ⟨c0, hv, i, hi, a', ha, rfl⟩ := h
    obtain ⟨CA, kc⟩ := g.vl y c0 hv
    rw [wpE_fld]
    exact qe_fld kc (ixOf_get hi) (s.e ce _ a' X bs ex ha g tk) rfl
  | _ => simp only [cE] at h; cases h
end
end Ek

namespace Ek
open PySem PySem.Spec PyProof.Rows L2
section
variable {G : List Df} {cls : Nat → Value} {k : Nat} {X : Cx} {bs : Hp × List Pl} {ex : XQ} {ce : CE} {n : Nat}
/-- whose test is its value's truth -/
def isV : Ex → Bool
  | .and .. => false
  | .or .. => false
  | .not .. => false
  | .ife .. => false
  | _ => true
theorem wpT_val {C : CallS} {c : Ex} (h : isV c = true) : wpT C ex c = fun σ S Q => wpE C ex c σ S fun x S1 => truU x S1 Q := by
  cases c <;> first
    | (simp [isV] at h; done)
    | (funext σ S Q; simp only [wpT])
theorem isV_of {e : Expr} {c : Ex} (h : cE (n + 1) ce e = some c) (hn : noTest e = true) : isV c = true := by
  cases e with
  | Constant v kk p => cases v <;> simp only [cE] at h <;> cases h <;> rfl
  | Name x p =>
    simp only [cE] at h
    repeat' split at h
    · cases h
    · rw [Option.map_eq_some_iff] at h
      obtain ⟨_, _, rfl⟩ := h; rfl
    · rename_i gv _
      cases h
      cases gv <;> rfl
    · cases h; rfl
    · cases h
    · cases h
  | BinOp a o b p =>
    simp only [cE, Option.bind_eq_some_iff, Option.map_eq_some_iff] at h
    obtain ⟨o', ho, a', ha, b', hb, rfl⟩ := h; rfl
  | UnaryOp o a p =>
    cases o <;> simp only [cE, Option.map_eq_some_iff] at h <;> first
      | (simp [noTest] at hn; done)
      | (obtain ⟨a', ha, rfl⟩ := h; rfl)
      | cases h
  | Compare a os es p => simp [noTest] at hn
  | BoolOp o es p => simp [noTest] at hn
  | IfExp t a b p => simp [noTest] at hn
  | Tuple es kk p =>
    simp only [cE] at h
    split at h
    · rw [Option.map_eq_some_iff] at h
      obtain ⟨l, h1, rfl⟩ := h; rfl
    · cases h
  | List es p =>
    simp only [cE] at h
    split at h
    · rw [Option.map_eq_some_iff] at h
      obtain ⟨l, h1, rfl⟩ := h; rfl
    · cases h
  | Subscript a i p =>
    have gen : ((cE n ce a).bind fun a' => (cE n ce i).map fun i' => Ex.ix a' i') = some c → isV c = true := fun h => by
      simp only [Option.bind_eq_some_iff, Option.map_eq_some_iff] at h
      obtain ⟨a', ha, i', hi', rfl⟩ := h; rfl
    cases i <;> try (exact gen (by simpa only [cE, isSl, Bool.false_eq_true, if_false] using h))
    rename_i lo hi st p2
    cases st with
    | none =>
      simp only [cE, Option.bind_eq_some_iff, Option.map_eq_some_iff] at h
      obtain ⟨a', ha, l, hl, u, hu, rfl⟩ := h; rfl
    | some st =>
      simp only [cE] at h
      split at h
      · rw [Option.map_eq_some_iff] at h
        obtain ⟨a', ha, rfl⟩ := h; rfl
      · cases h
  | Call f es kws p =>
    cases f <;> try (simp only [cE] at h; cases h; done)
    case Attribute o at_ apos =>
      cases o <;> try (simp only [cE] at h; cases h; done)
      cases kws with
      | cons _ _ => simp only [cE] at h; cases h
      | nil =>
        simp only [cE] at h
        split at h
        · unfold cMeth at h
          split at h
          · simp only [Option.bind_eq_some_iff, Option.map_eq_some_iff] at h
            obtain ⟨j, hj, a', ha, l, hl, rfl⟩ := h; rfl
          · cases h
        · cases es with
          | cons b r =>
            cases r with
            | cons _ _ => simp only [cAtt] at h; cases h
            | nil =>
              simp only [cAtt] at h
              split at h
              · simp only [Option.bind_eq_some_iff, Option.map_eq_some_iff] at h
                obtain ⟨a', ha, b', hb, rfl⟩ := h
                rfl
              · cases h
          | nil =>
            simp only [cAtt] at h
            split at h
            · rw [Option.map_eq_some_iff] at h
              obtain ⟨a', ha, rfl⟩ := h
              rfl
            · cases h
    cases kws with
    | cons _ _ => simp only [cE] at h; cases h
    | nil =>
      rename_i x p1
      have gen : ∀ {m}, ((cBi x m).bind fun b => (cL (cE n ce) es).map (Ex.bi b)) = some c → isV c = true := fun h => by
        simp only [Option.bind_eq_some_iff, Option.map_eq_some_iff] at h
        obtain ⟨b, hb, l, hl, rfl⟩ := h; rfl
      simp only [cE] at h
      split at h
      · cases h
      · split at h
        · unfold cMake at h
          rw [Option.bind_eq_some_iff] at h
          obtain ⟨c0, hk, h⟩ := h
          split at h
          · simp only [Option.bind_eq_some_iff, Option.map_eq_some_iff] at h
            obtain ⟨j, hj, l, hl, rfl⟩ := h; rfl
          · cases h
        split at h
        · split at h
          · split at h
            · cases h
            · rw [Option.map_eq_some_iff] at h
              obtain ⟨l, hl, rfl⟩ := h; rfl
          · split at h
            · split at h
              · split at h
                · simp only [Option.bind_eq_some_iff, Option.map_eq_some_iff] at h
                  obtain ⟨t, ht, a', ha, rfl⟩ := h; rfl
                · cases h
              · exact gen h
            · split at h
              · split at h
                · rw [Option.map_eq_some_iff] at h
                  obtain ⟨a', ha, rfl⟩ := h; rfl
                · cases h
              · exact gen h
            · exact gen h
        · split at h
          · simp only [Option.bind_eq_some_iff, Option.map_eq_some_iff] at h
            obtain ⟨i, hi, l, hl, rfl⟩ := h; rfl
          · cases h
  | ListComp elt gs scope p =>
    match gs, h with
    | [gn], h =>
      simp only [cE] at h
      split at h
      · simp only [Option.bind_eq_some_iff] at h
        obtain ⟨t, ht, s, hsrc, ts, hts, el, hel, h⟩ := h
        split at h
        · cases h; rfl
        · cases h
      · cases h
  | Attribute o f p =>
    cases o <;> try (simp only [cE] at h; cases h; done)
    simp only [cE, Option.bind_eq_some_iff, Option.map_eq_some_iff] at h
    obtain ⟨c0, hv, i, hi, a', ha, rfl⟩ := h; rfl
  | _ => simp only [cE] at h; cases h
theorem pt_ifExp {c a b : Expr} {pos : Pos} {tc ta tb : TT} (hc : PT X c tc) (ha : PT X a ta) (hb : PT X b tb) : PT X (.IfExp c a b pos) (fun σ H Q => tc σ H fun t H1 => if t = true then ta σ H1 Q else tb σ H1 Q) := by
  refine ⟨fun pins s σ H Q I h => ?_⟩
  rw [PySem.arm_isTrue_IfExp]
  refine wpAny_bind (thn (hc.run pins s σ H _ I h) fun t s1 ⟨H1, I1, q1⟩ => ?_)
  cases t with
  | true => exact ha.run pins s1 σ H1 Q I1 q1
  | false => exact hb.run pins s1 σ H1 Q I1 q1
theorem qt_ife {c a b : Expr} {pos : Pos} {wt wa wb : Sl → Sto → BQ → Prop} (hc : QT X bs c wt) (ha : QT X bs a wa) (hb : QT X bs b wb) : QT X bs (.IfExp c a b pos) (fun σ S Q => wt σ S fun t S1 => if t = true then wa σ S1 Q else wb σ S1 Q) :=
  pt_imp (pt_ifExp hc ha hb) fun σ H Q ⟨φ, σu, S, Qu, hs, ho, q, kk⟩ => ⟨φ, σu, S, _, hs, ho, q, fun t S1 φ1 H1 e1 o1 q1 => by
    cases t with
    | true =>
      rw [if_pos rfl] at q1 ⊢
      exact ⟨φ1, σu, S1, _, hs.up e1, o1, q1, fun u S' φ' H' e2 o2 q2 => kk u S' φ' H' (e1.trans e2) o2 q2⟩
    | false =>
      rw [if_neg Bool.false_ne_true] at q1 ⊢
      exact ⟨φ1, σu, S1, _, hs.up e1, o1, q1, fun u S' φ' H' e2 o2 q2 => kk u S' φ' H' (e1.trans e2) o2 q2⟩⟩
theorem snd_t (s : Snd G cls k n) : ∀ (ce : CE) (e : Expr) (c : Ex) (X : Cx) (bs : Hp × List Pl) (ex : XQ), cE (n + 1) ce e = some c → Good G cls k ce X → TakesF X (LW X.K bs cls ex) → QT X bs e (wpT (wpC G k) ex c) := by
  intro ce e c X bs ex h g tk
  have val : noTest e = true → QT X bs e (wpT (wpC G k) ex c) := fun he => by
    rw [wpT_val (isV_of h he)]
    exact qt_tru (tru_he he) (snd_e s ce e c X bs ex h g tk)
  cases e with
  | Compare a os es p =>
    match os, es, h with
    | [o], [b], h =>
      simp only [cE, Option.bind_eq_some_iff, Option.map_eq_some_iff] at h
      obtain ⟨o', ho, a', ha, b', hb, rfl⟩ := h
      obtain ⟨kc⟩ := cm_ok (bs := bs) (hu_room g) ho
      rw [wpT_cmp, wpE_cmp]
      exact qt_cmp (cE_ns hb) kc (s.e ce a a' X bs ex ha g tk) (s.e ce b b' X bs ex hb g tk)
    | [o, o2], [b, d], h =>
      simp only [cE, Option.bind_eq_some_iff, Option.map_eq_some_iff] at h
      obtain ⟨o', ho, p', hp, a', ha, b', hb, d', hd, rfl⟩ := h
      obtain ⟨kc⟩ := cm_ok (bs := bs) (hu_room g) ho
      obtain ⟨kc2⟩ := cm_ok (bs := bs) (hu_room g) hp
      rw [wpT_chn, wpE_chn]
      exact qt_chn (cE_ns hd) kc kc2 (s.e ce a a' X bs ex ha g tk) (s.e ce b b' X bs ex hb g tk) (s.e ce d d' X bs ex hd g tk)
  | BoolOp o es p =>
    simp only [cE, Option.bind_eq_some_iff] at h
    obtain ⟨l, hl, hb⟩ := h
    exact (snd_bool s g tk o p hl hb).2.pt
  | UnaryOp o a p =>
    cases o <;> first
      | exact val rfl
      | skip
    simp only [cE, Option.map_eq_some_iff] at h
    obtain ⟨a', ha, rfl⟩ := h
    rw [wpT_not]; exact qt_not (s.t ce a a' X bs ex ha g tk)
  | IfExp t a b p =>
    simp only [cE, Option.bind_eq_some_iff, Option.map_eq_some_iff] at h
    obtain ⟨t', ht, a', ha, b', hb, rfl⟩ := h
    rw [wpT_ife]
    exact qt_ife (s.t ce t t' X bs ex ht g tk) (s.t ce a a' X bs ex ha g tk) (s.t ce b b' X bs ex hb g tk)
  | _ => exact val rfl
theorem snd_all : ∀ n, Snd G cls k n
  | 0 => ⟨(fun _ _ _ _ _ _ h => nomatch (show (none : Option Ex) = some _ from h)), (fun _ _ _ _ _ _ h => nomatch (show (none : Option Ex) = some _ from h))⟩
  | n + 1 => ⟨snd_e (snd_all n), snd_t (snd_all n)⟩

end
end Ek

namespace Ek
open PySem PySem.Spec PyProof.Rows L2

def lcl (sc : Scope) (x : Str) : Bool := sc.names.lookup x == some .local
/-- the classes of the program: each is under itself and under their base -/
def subX (x y : Str) : Bool := x == y || y == ("EchelonError" : Str)
/-- one class that isinstance asks for -/
def cCl (ce : CE) (x : Str) : Expr → Option Bool
  | .Name C _ => if glo ce.sc C = true ∧ ¬ dbg C = true then (if (ixOf ce.X C).isSome = true then some (subX x C) else if C = ("ValueError" : Str) ∧ (ixOf ce.F C).isNone = true then some true else none) else none
  | _ => none
def cCls (ce : CE) (x : Str) : List Expr → Option Bool
  | [] => some false
  | .Name C p :: r => if glo ce.sc C = true ∧ ¬ dbg C = true ∧ (ixOf ce.X C).isSome = true then (cCls ce x r).map fun b => subX x C || b else none
  | _ => none
/-- questions about the caught error of the class x -/
def cHb (ce : CE) (nm x : Str) : Nat → Expr → Option Bool
  | 0, _ => none
  | n + 1, e => match e with
    | .Call (.Name f _) [.Name a _, .Tuple es _ _] [] _ => if f = ("isinstance" : Str) ∧ a = nm ∧ glo ce.sc f = true ∧ (ixOf ce.F f).isNone = true ∧ es.length ≤ 1000 then cCls ce x es else none
    | .Call (.Name f _) [.Name a _, .Name C p] [] _ => if f = ("isinstance" : Str) ∧ a = nm ∧ glo ce.sc f = true ∧ (ixOf ce.F f).isNone = true then cCl ce x (.Name C p) else none
    | .UnaryOp .Not a _ => (cHb ce nm x n a).map not
    | .BoolOp .And [a, b] _ => (cHb ce nm x n a).bind fun c => (cHb ce nm x n b).map fun d => c && d
    | .BoolOp .And [a, b, c] _ => (cHb ce nm x n a).bind fun p => (cHb ce nm x n b).bind fun q => (cHb ce nm x n c).map fun r => p && (q && r)
    | _ => none
/-- what stands in a clause: constants, displays of them, questions about the error -/
def cHx (q : Nat → Expr → Option Bool) : Nat → Expr → Option Ex
  | 0, _ => none
  | n + 1, e => match e with
    | .Constant (.int i) _ _ => some (.cint i)
    | .Constant (.bool i) _ _ => some (.cbl i)
    | .Constant (.str i) _ _ => some (.cstr i)
    | .Constant .none _ _ => some .cnon
    | .Tuple es _ _ => if es.length ≤ 1000 then (cL (cHx q n) es).map .tup else none
    | .List es _ => if es.length ≤ 1000 then (cL (cHx q n) es).map .lst else none
    | e => (q n e).map .cbl
/-- with a name that holds a bool -/
def cHk (q : Nat → Expr → Option Bool) (y : Str) (b : Bool) : Nat → Expr → Option Bool
  | 0, _ => none
  | n + 1, e => match e with
    | .Name z _ => if z = y then some b else none
    | .BoolOp .And [a, c] _ => (cHk q y b n a).bind fun p => (cHk q y b n c).map fun r => p && r
    | .BoolOp .And [a, c, d] _ => (cHk q y b n a).bind fun p => (cHk q y b n c).bind fun r => (cHk q y b n d).map fun s => p && (r && s)
    | e => q n e
def qOf (ce : CE) (nm : Option Str) (x : Str) (n : Nat) (e : Expr) : Option Bool := nm.bind fun y => cHb ce y x n e
def cHs (ce : CE) (nm : Option Str) (x : Str) (n : Nat) : List Stmt → Option (Option Ex)
  | [.Return (some e) _] => (cHx (qOf ce nm x) n e).map some
  | [.Assign [.Name y _] a _, .Return (some e) _] => if lcl ce.sc y = true ∧ (ixOf ce.N y).isSome = true ∧ nm ≠ some y ∧ ¬ dbg y = true ∧ isCmp a = false ∧ isTup a = false then (qOf ce nm x n a).bind fun b => (cHx (cHk (qOf ce nm x) y b) n e).map some else none
  | [.Continue _] => if nm.isNone = true then some none else none
  | _ => none
/-- a clause: its class, and what it gives for each class that it catches -/
def cHd (n : Nat) (ce : CE) : ExceptHandler → Option (Str × (Str → Option (Option Ex)))
  | .ExceptHandler (some (.Name x _)) none (b :: r) _ => if glo ce.sc x = true ∧ ¬ dbg x = true ∧ (ixOf ce.X x).isSome = true then some (x, fun y => cHs ce none y n (b :: r)) else none
  | .ExceptHandler (some (.Name x _)) (some nm) (b :: r) _ => if glo ce.sc x = true ∧ ¬ dbg x = true ∧ (ixOf ce.X x).isSome = true ∧ lcl ce.sc nm = true ∧ (ixOf ce.N nm).isSome = true ∧ ¬ dbg nm = true ∧ ce.X.contains ("EchelonError" : Str) = true then some (x, fun y => cHs ce (some nm) y n (b :: r)) else none
  | _ => none
def cHds (n : Nat) (ce : CE) : List ExceptHandler → Option (List (Str × (Str → Option (Option Ex))))
  | [] => some []
  | h :: r => (cHd n ce h).bind fun a => (cHds n ce r).map fun b => a :: b
def tabH (hl : List (Str × (Str → Option (Option Ex)))) : Nat → List Str → Option (List (Nat × Option Ex))
  | _, [] => some []
  | c, x :: r => match hl.find? fun p => subX x p.1 with
    | some p => (p.2 x).bind fun v => (tabH hl (c + 1) r).map fun t => (c, v) :: t
    | none => tabH hl (c + 1) r
theorem tab_lt {hl : List (Str × (Str → Option (Option Ex)))} : ∀ (xs : List Str) (c j : Nat) (tb : List (Nat × Option Ex)), tabH hl c xs = some tb → j < c → tb.lookup j = none
  | [], _, _, _, h, _ => by cases h; rfl
  | x :: r, c, j, tb, h, hj => by
    unfold tabH at h
    split at h
    · simp only [Option.bind_eq_some_iff, Option.map_eq_some_iff] at h
      obtain ⟨v, _, t, ht, rfl⟩ := h
      rw [List.lookup_cons, show (j == c) = false by simp; omega]
      exact tab_lt r (c + 1) j t ht (by omega)
    · exact tab_lt r (c + 1) j tb h (by omega)
theorem tab_look {hl : List (Str × (Str → Option (Option Ex)))} : ∀ (xs : List Str) (c j : Nat) (x : Str) (tb : List (Nat × Option Ex)), tabH hl c xs = some tb → xs[j]? = some x →
    (∀ p, (hl.find? fun p => subX x p.1) = some p → ∃ v, p.2 x = some v ∧ tb.lookup (c + j) = some v) ∧ ((hl.find? fun p => subX x p.1) = none → tb.lookup (c + j) = none)
  | [], _, _, _, _, _, h => by simp at h
  | y :: r, c, 0, x, tb, h, hx => by
    simp at hx
    subst hx
    unfold tabH at h
    split at h
    · rename_i p e
      simp only [Option.bind_eq_some_iff, Option.map_eq_some_iff] at h
      obtain ⟨v, hv, t, ht, rfl⟩ := h
      refine ⟨fun p' e' => ?_, fun e' => by rw [e] at e'; cases e'⟩
      rw [e] at e'; cases e'
      exact ⟨v, hv, by rw [List.lookup_cons, show (c + 0 == c) = true by simp]⟩
    · rename_i e
      refine ⟨(fun p' e' => by rw [e] at e'; cases e'), fun _ => tab_lt r (c + 1) _ tb h (by omega)⟩
  | y :: r, c, j + 1, x, tb, h, hx => by
    unfold tabH at h
    have e1 : c + (j + 1) = c + 1 + j := by omega
    split at h
    · simp only [Option.bind_eq_some_iff, Option.map_eq_some_iff] at h
      obtain ⟨v, hv, t, ht, rfl⟩ := h
      have ih := tab_look (hl := hl) r (c + 1) j x t ht (by simpa using hx)
      rw [e1, List.lookup_cons, show (c + 1 + j == c) = false by simp; omega]
      exact ih
    · rw [e1]
      exact tab_look (hl := hl) r (c + 1) j x tb h (by simpa using hx)
def rIsET (K : PySem.W.Frag) (D a : Addr) : List V → Hp → VK → Prop := fun xs H Q => ∃ (tp : Addr) (cs : List Addr) (b : Bool), xs = [.ref a, .ref tp] ∧ H tp = some (.tup (cs.map V.ref)) ∧ PySem.W.kitAny K (.ref D) (cs.map Value.ref) = some b ∧ Q (.bl b) H
theorem refs_of : ∀ {cs : List Addr} {us : List Value}, Vals (cs.map V.ref) us → us = cs.map Value.ref
  | [], _, .nil => rfl
  | c :: cs, _, .cons r rr => by
    have e := refs_of rr
    have e2 : _ = Value.ref c := r
    rw [List.map_cons, e, e2]
theorem call_isET {X : Cx} {a D : Addr} {oe : Obj} {pn : List (Addr × Obj)} (C : ExcC X.K D) (hz : Zc (.ref D) none oe) (hf : ∃ vs, oe.data = .fields vs) : CallR (X.suite a ((a, oe) :: pn)) (.builtin "isinstance") (rIsET X.K D a) := by
  intro pins s σ H xs us Q I r h
  obtain ⟨tp, cs, b, rfl, ht, e, q⟩ := h
  cases r with
  | cons rx rr =>
    cases rr with
    | cons rt rr =>
      cases rr
      cases rx
      cases (show _ = Value.ref tp from rt)
      obtain ⟨hget, _⟩ := I.pin (a, oe) (List.mem_append.mpr (.inl List.mem_cons_self))
      obtain ⟨vs, hv⟩ := hf
      have J : PySem.W.InstAt s.heap a oe D none := by
        obtain ⟨oc, od, oda, osl⟩ := oe
        obtain ⟨g1, g2⟩ := hz
        dsimp only at g1 g2 hv
        subst g1 g2 hv
        exact ⟨hget, rfl, rfl, trivial⟩
      obtain ⟨_, its, rv, o, o1, o2, n, o3⟩ := (show ObjOk X.prog X.w H s.heap tp (.tup (cs.map V.ref)) from I.hok tp _ ht)
      have e3 := refs_of rv
      subst e3
      obtain ⟨oc, od, dt, sl⟩ := o
      dsimp only at o2 o3
      subst o2 o3
      exact PySem.W.kia_tup (PySem.W.handS_kitx_exc C.hg C.hk C.hs C.hd C.ha C.hn C.ht C.hm) I.kIn J o1 e (fun z => nomatch z) fun tk => ⟨.bl b, H, I.kept (t' := tk) fun _ _ z => z, rfl, q⟩
/-- what a suite's reading has besides: its error's name -/
abbrev SlP (sl : Option (Nat × Addr)) : L2.St → Prop := fun σ => ∀ p, sl = some p → σ[p.1]? = some (some (.ref p.2))
def LEx (K : PySem.W.Frag) (bs : Hp × List Pl) (P : L2.St → Prop) (w : Sl → Sto → UQ → Prop) : TE := fun σ H Q => P σ ∧ LE K bs w σ H Q
def LAx (K : PySem.W.Frag) (bs : Hp × List Pl) (P : L2.St → Prop) (n : Nat) (w : Sl → Sto → (List U → Sto → Prop) → Prop) : TA := fun σ H Q => P σ ∧ LA K bs n w σ H Q
/-- what must be known of the classes -/
structure Hc (ce : CE) (cls : Nat → Value) (X : Cx) (D : Addr) (x : Str) : Prop where
  sc : X.env.scope = ce.sc
  N : X.N = ce.N
  isi : ("isinstance" : Str) ∉ ce.F → X.mg "isinstance" = none
  ve : ("ValueError" : Str) ∉ ce.F → X.mg "ValueError" = none
  mg : ∀ h y, ce.X[h]? = some y → ∃ A, cls h = .ref A ∧ X.mg y = some (.ref A)
  exc : ExcC X.K D
  kit : ∀ h y, ce.X[h]? = some y → PySem.W.kitOne X.K (.ref D) (cls h) = some (subX x y)
  kitV : PySem.W.kitOne X.K (.ref D) (.type "ValueError") = some true
section
variable {X : Cx} {bs : Hp × List Pl} {ce : CE} {cls : Nat → Value} {a D : Addr} {oe : Obj} {pn : List (Addr × Obj)} {x nm : Str} {i : Nat} {C : CallS} {ex : XQ}
theorem lex_of {X' : Cx} {e : Expr} {w : Sl → Sto → UQ → Prop} {sl : L2.St → Prop} (h : QE X' bs e w) : PE X' e (LEx X'.K bs sl w) := pe_imp h fun _ _ _ q => q.2
theorem glo_gl {X' : Cx} (h : X'.env.scope = ce.sc) {y : Str} (hg : glo ce.sc y = true) : Gl X' y := by
  unfold glo at hg
  rw [← h] at hg
  exact beq_iff_eq.mp hg
theorem hb_isi (h : Hc ce cls X D x) (hz : Zc (.ref D) none oe) (hf : ∃ vs, oe.data = .fields vs) (hi : ixOf ce.N nm = some i) (hl : lcl ce.sc nm = true) (hd : ¬ dbg nm = true) {f a0 C0 : Str} {p p1 p2 pos : Pos} {b : Bool}
    (hc : cHb ce nm x 1 (.Call (.Name f p) [.Name a0 p1, .Name C0 p2] [] pos) = some b) : PE (X.suite a ((a, oe) :: pn)) (.Call (.Name f p) [.Name a0 p1, .Name C0 p2] [] pos) (LEx X.K bs (SlP (some (i, a))) (wpE C ex (.cbl b))) := by
  simp only [cHb] at hc
  split at hc
  · rename_i hq
    obtain ⟨rfl, rfl, hg, hF⟩ := hq
    have hF' : ("isinstance" : Str) ∉ ce.F := by
      rw [Option.isNone_iff_eq_none] at hF
      exact ixOf_none hF
    have hvis : Vis X.env.scope a0 := by rw [h.sc]; exact .inl (by unfold lcl at hl; exact beq_iff_eq.mp hl)
    have pv : PE (X.suite a ((a, oe) :: pn)) (.Name a0 p1) (tVar i) := pe_var (X := X.suite a ((a, oe) :: pn)) (by show X.N[i]? = _; rw [h.N]; exact ixOf_get hi) hvis (dbg_of hd).1 (dbg_of hd).2
    simp only [cCl] at hc
    split at hc
    · rename_i hq2
      obtain ⟨hgC, hdC⟩ := hq2
      have go : ∀ (v : V) (cv : Value) (r : ∀ u, RelV v u → u = cv) (hk : PySem.W.kitOne X.K (.ref D) cv = some b) (pC : PE (X.suite a ((a, oe) :: pn)) (.Name C0 p2) (tC v)), PE (X.suite a ((a, oe) :: pn)) (.Call (.Name ("isinstance" : Str) p) [.Name a0 p1, .Name C0 p2] [] pos) (LEx X.K bs (SlP (some (i, a))) (wpE C ex (.cbl b))) := by
        intro v cv r hk pC
        refine pe_imp (pe_callB (X := X.suite a ((a, oe) :: pn)) (call_isE h.exc hz hf) (glo_gl (X' := X.suite a ((a, oe) :: pn)) h.sc hg) (h.isi hF') rfl (pa_cons pv (pa_cons pC pa_nil))) fun σ H Q q => ?_
        obtain ⟨hs, φ, σu, S, Qu, hsl, ho, q, kk⟩ := q
        rw [wpE_cbl] at q
        exact ⟨.ref a, hs _ rfl, v, cv, b, rfl, r, hk, kk _ S φ _ H Ext.refl ho (.bl b) q⟩
      split at hc
      · rename_i hq3
        obtain ⟨j, hj⟩ := Option.isSome_iff_exists.mp hq3
        cases hc
        obtain ⟨A, hA, hmA⟩ := h.mg j C0 (ixOf_get hj)
        refine go (.ref A) (.ref A) (fun u r => r) ?_ (pe_glob (X := X.suite a ((a, oe) :: pn)) (glo_gl (X' := X.suite a ((a, oe) :: pn)) h.sc hgC) hmA rfl (dbg_of hdC).1)
        rw [← hA]; exact h.kit j C0 (ixOf_get hj)
      · split at hc
        · rename_i hn3 hV
          cases hc
          obtain ⟨rfl, hVF⟩ := hV
          rw [Option.isNone_iff_eq_none] at hVF
          exact go (.ty "ValueError") (.type "ValueError") (fun u r => r) h.kitV (pe_bltn (X := X.suite a ((a, oe) :: pn)) (glo_gl (X' := X.suite a ((a, oe) :: pn)) h.sc hgC) (h.ve (ixOf_none hVF)) (by decide +kernel) rfl)
        · cases hc
    · cases hc
  · cases hc
theorem cls_names (h : Hc ce cls X D x) {X' : Cx} (hX : X'.env.scope = X.env.scope) (hM : X'.mg = X.mg) : ∀ (es : List Expr) (b : Bool), cCls ce x es = some b →
    ∃ As : List Addr, PA X' es (fun σ H Q => Q (As.map V.ref) H) ∧ As.length = es.length ∧ PySem.W.kitAny X.K (.ref D) (As.map Value.ref) = some b
  | [], b, hc => by cases hc; exact ⟨[], pa_nil, rfl, rfl⟩
  | e :: r, b, hc => by
    cases e <;> try (simp only [cCls] at hc; cases hc; done)
    rename_i C0 p
    simp only [cCls] at hc
    split at hc
    · rename_i hq
      obtain ⟨hg, hd, hx⟩ := hq
      rw [Option.map_eq_some_iff] at hc
      obtain ⟨b', hb', rfl⟩ := hc
      obtain ⟨As, hp, hl, hk⟩ := cls_names h hX hM r b' hb'
      obtain ⟨j, hj⟩ := Option.isSome_iff_exists.mp hx
      obtain ⟨A, hA, hmA⟩ := h.mg j C0 (ixOf_get hj)
      have hkit := h.kit j C0 (ixOf_get hj)
      rw [hA] at hkit
      refine ⟨A :: As, pa_imp (pa_cons (pe_glob (v := .ref A) (glo_gl (by rw [hX]; exact h.sc) hg) (by rw [hM]; exact hmA) rfl (dbg_of hd).1) hp) fun σ H Q q => q, by simp [hl], ?_⟩
      refine kitAny_cons hkit (fun hb => by rw [hb, Bool.false_or]; exact hk) fun hb => by rw [hb, Bool.true_or]
    · cases hc
theorem hb_isiT (h : Hc ce cls X D x) (hz : Zc (.ref D) none oe) (hf : ∃ vs, oe.data = .fields vs) (hi : ixOf ce.N nm = some i) (hl : lcl ce.sc nm = true) (hd : ¬ dbg nm = true) {f a0 : Str} {es : List Expr} {kk0 : Nat} {p p1 p2 pos : Pos} {b : Bool}
    (hc : cHb ce nm x 1 (.Call (.Name f p) [.Name a0 p1, .Tuple es kk0 p2] [] pos) = some b) : PE (X.suite a ((a, oe) :: pn)) (.Call (.Name f p) [.Name a0 p1, .Tuple es kk0 p2] [] pos) (LEx X.K bs (SlP (some (i, a))) (wpE C ex (.cbl b))) := by
  simp only [cHb] at hc
  split at hc
  · rename_i hq
    obtain ⟨rfl, rfl, hg, hF, hlen⟩ := hq
    have hF' : ("isinstance" : Str) ∉ ce.F := by
      rw [Option.isNone_iff_eq_none] at hF
      exact ixOf_none hF
    have hvis : Vis X.env.scope a0 := by rw [h.sc]; exact .inl (by unfold lcl at hl; exact beq_iff_eq.mp hl)
    have pv : PE (X.suite a ((a, oe) :: pn)) (.Name a0 p1) (tVar i) := pe_var (X := X.suite a ((a, oe) :: pn)) (by show X.N[i]? = _; rw [h.N]; exact ixOf_get hi) hvis (dbg_of hd).1 (dbg_of hd).2
    obtain ⟨As, hp, hlA, hk⟩ := cls_names h (X' := X.suite a ((a, oe) :: pn)) rfl rfl es b hc
    refine pe_imp (pe_callB (X := X.suite a ((a, oe) :: pn)) (call_isET h.exc hz hf) (glo_gl (X' := X.suite a ((a, oe) :: pn)) h.sc hg) (h.isi hF') (by decide +kernel) (pa_cons pv (pa_cons (pe_tup hp) pa_nil))) fun σ H Q q => ?_
    obtain ⟨hs, φ, σu, S, Qu, hsl, ho, q, kk⟩ := q
    rw [wpE_cbl] at q
    refine ⟨.ref a, hs _ rfl, ?_⟩
    refine ⟨by rw [List.length_map, hlA]; exact big_line (Nat.le_trans hlen (by decide)), fun tp htp => ⟨tp, As, b, rfl, upd_same, hk, kk _ S φ _ _ (ext_new htp) (ho.new htp) (.bl b) q⟩⟩
  · cases hc
theorem lex_not {X' : Cx} {e : Expr} {pos : Pos} {b : Bool} {sl : L2.St → Prop} (h : PE X' e (LEx X'.K bs sl (wpE C ex (.cbl b)))) : PE X' (.UnaryOp .Not e pos) (LEx X'.K bs sl (wpE C ex (.cbl (!b)))) :=
  pe_imp (pe_not h) fun σ H Q ⟨hs, φ, σu, S, Qu, hsl, ho, q, kk⟩ => ⟨hs, φ, σu, S, fun u S' => u = .bl b ∧ Qu (.bl (!b)) S', hsl, ho, by rw [wpE_cbl] at q ⊢; exact ⟨rfl, q⟩, fun u S' φ' v H' e2 o2 r2 q2 => by
    obtain ⟨rfl, q2⟩ := q2
    cases r2
    exact ⟨b, rfl, kk _ S' φ' _ H' e2 o2 (.bl _) q2⟩⟩
theorem lex_and {X' : Cx} {e e2 : Expr} {rest : List Expr} {pos : Pos} {b c : Bool} {sl : L2.St → Prop} (h : PE X' e (LEx X'.K bs sl (wpE C ex (.cbl b)))) (h2 : PE X' (.BoolOp .And (e2 :: rest) pos) (LEx X'.K bs sl (wpE C ex (.cbl c)))) : PE X' (.BoolOp .And (e :: e2 :: rest) pos) (LEx X'.K bs sl (wpE C ex (.cbl (b && c)))) :=
  pe_imp (pe_and h h2) fun σ H Q ⟨hs, φ, σu, S, Qu, hsl, ho, q, kk⟩ => ⟨hs, φ, σu, S, fun u S' => u = .bl b ∧ Qu (.bl (b && c)) S', hsl, ho, by rw [wpE_cbl] at q ⊢; exact ⟨rfl, q⟩, fun u S' φ' v H' e2 o2 r2 q2 => by
    obtain ⟨rfl, q2⟩ := q2
    cases r2
    refine ⟨b, rfl, ?_⟩
    cases b with
    | true => exact ⟨hs, φ', σu, S', Qu, hsl.up e2, o2, by rw [wpE_cbl]; exact q2, fun u S3 φ3 v3 H3 e3 o3 r3 q3 => kk u S3 φ3 v3 H3 (e2.trans e3) o3 r3 q3⟩
    | false => exact kk _ S' φ' _ H' e2 o2 (.bl _) q2⟩
theorem snd_hb (h : Hc ce cls X D x) (hz : Zc (.ref D) none oe) (hf : ∃ vs, oe.data = .fields vs) (hi : ixOf ce.N nm = some i) (hl : lcl ce.sc nm = true) (hd : ¬ dbg nm = true) : ∀ (n : Nat) (e : Expr) (b : Bool), cHb ce nm x n e = some b → PE (X.suite a ((a, oe) :: pn)) e (LEx X.K bs (SlP (some (i, a))) (wpE C ex (.cbl b)))
  | 0, _, _, hc => nomatch (show (none : Option Bool) = some _ from hc)
  | n + 1, e, b, hc => by
    unfold cHb at hc
    split at hc
    · exact hb_isiT h hz hf hi hl hd (by simpa only [cHb] using hc)
    · exact hb_isi h hz hf hi hl hd (by simpa only [cHb] using hc)
    · rw [Option.map_eq_some_iff] at hc
      obtain ⟨c, h1, rfl⟩ := hc
      exact lex_not (X' := X.suite a ((a, oe) :: pn)) (snd_hb h hz hf hi hl hd n _ c h1)
    · simp only [Option.bind_eq_some_iff, Option.map_eq_some_iff] at hc
      obtain ⟨c, h1, d, h2, rfl⟩ := hc
      exact lex_and (X' := X.suite a ((a, oe) :: pn)) (snd_hb h hz hf hi hl hd n _ c h1) (pe_one (snd_hb h hz hf hi hl hd n _ d h2))
    · simp only [Option.bind_eq_some_iff, Option.map_eq_some_iff] at hc
      obtain ⟨c, h1, d, h2, r, h3, rfl⟩ := hc
      exact lex_and (X' := X.suite a ((a, oe) :: pn)) (snd_hb h hz hf hi hl hd n _ c h1) (lex_and (X' := X.suite a ((a, oe) :: pn)) (snd_hb h hz hf hi hl hd n _ d h2) (pe_one (snd_hb h hz hf hi hl hd n _ r h3)))
    · cases hc
end
end Ek

namespace Ek
open PySem PySem.Spec PyProof.Rows L2
abbrev TSx := Addr → Value → Option Addr → TS
/-- the name's slot is empty behind its clause -/
def gone (D : Ends) : Option Nat → Ends
  | none => D
  | some i => { nx := fun σ H => D.nx (σ.set i none) H, rt := D.rt, bk := fun σ H => D.bk (σ.set i none) H, ct := fun σ H => D.ct (σ.set i none) H }
def put (σ : L2.St) (a : Addr) : Option Nat → L2.St
  | none => σ
  | some i => σ.set i (some (.ref a))
/-- what the clauses wish of an exception, one after the other -/
def wClauses (K : PySem.W.Frag) (Wout : WX) (D : Ends) : List (Value × Option Nat × TSx) → WX
  | [] => Wout
  | (c, n, ts) :: r => fun cls d σ H => ∃ b, PySem.W.exmOne K cls c = some b ∧ (b = true → ∀ a, H a = none → (∀ i, n = some i → i < σ.length) → ts a cls d (gone D n) (put σ a n) H) ∧ (b = false → wClauses K Wout D r cls d σ H)
def slotOk (X : Cx) (nm : Option Str) (n : Option Nat) : Prop := match nm, n with
  | none, none => True
  | some y, some i => X.N[i]? = some y ∧ X.env.kindOf y = some .local
  | _, _ => False
inductive Clauses (X : Cx) : List ExceptHandler → List (Value × Option Nat × TSx) → Prop
  | nil : Clauses X [] []
  | cons {x : Str} {nm : Option Str} {c : Value} {n : Option Nat} {ts : TSx} {b₀ : Stmt} {suite : List Stmt} {np pos' : Pos} {hds : List ExceptHandler} {l : List (Value × Option Nat × TSx)} (hc : Names X x c) (hn : slotOk X nm n)
      (hsu : ∀ (a : Addr) (oe : Obj) (cls : Value) (d : Option Addr) (pn : List (Addr × Obj)), Zc cls d oe → (∃ vs, oe.data = .fields vs) → PSs (X.suite a ((a, oe) :: pn)) (b₀ :: suite) (ts a cls d)) (r : Clauses X hds l) :
      Clauses X (.ExceptHandler (some (.Name x np)) nm (b₀ :: suite) pos' :: hds) ((c, n, ts) :: l)
section
variable {X : Cx} {body : List Stmt} {h₀ : ExceptHandler} {hds : List ExceptHandler} {l : List (Value × Option Nat × TSx)} {pos : Pos} {tb : WX → TS} {Wout : WX}
theorem ps_clauses (hs : X.stack = X.env :: X.outer) (hf : X.env.frame = some X.env.locals) (hN : X.N.Nodup) (tk : Takes X Wout)
    (hb : ∀ (W : WX) (pn : List (Addr × Obj)) (xe : Value → Shared → Prop), Takes (X.tr pn xe) W → PassesOwn (model X.prog X.w) X.A X.env xe → PSs (X.tr pn xe) body (tb W))
    (hh : Clauses X (h₀ :: hds) l) : PS X (.Try body (h₀ :: hds) [] [] pos) (fun D σ H => tb (wClauses X.K Wout D l) D σ H) := by
  refine ⟨fun pins s σ H D I h => ?_⟩
  have ok := I.ok
  have hfr : X.A.frames = some (X.env :: X.outer) := by rw [ok.frames, hs]
  refine wpAny_Try_except (wpAny_mono ((hb (wClauses X.K Wout D l) (X.pn ++ pins) _ (fun u s' xx => ?_) PassesOwn.looking).run [] s σ H D (I.toTry _) h) (fun f s1 hsp => ?_) (fun e s1 he => he))
  · obtain ⟨a, B, sI, pins', σ', H', cls, d, rfl, J', nb, up, sky, na, os, ag, w⟩ := xx
    have J : Inv X pins σ' H' sI := J'.ofTry ok
    show wpAny (model X.prog X.w) X.A (noteFrame (.ref a) X.env) _ _ _
    refine Sky.land Zc.steady hfr hf (by rw [← hs]; exact sky) fun h3 fl3 up3 => ?_
    have J3 : Inv X pins σ' H' { s' with heap := h3 } := J.landed nb fl3.1 (up.trans up3) os ag
    obtain ⟨oe3, vs3, he3, hz3, hd3⟩ := fl3.there
    have nfr : a ∉ frs (X.env :: X.outer) := fun hm => by
      obtain ⟨_, o', e', hnf⟩ := fl3.2.2.1.mem hm
      rw [he3] at e'; cases e'
      exact hnf _ hd3
    have nL : a ≠ X.env.locals := fun z => nfr (List.mem_filterMap.mpr ⟨X.env, List.mem_cons_self, by rw [hf, z]⟩)
    have nF : a ∉ X.fs := fun hm => by
      obtain ⟨e, he, q⟩ := List.mem_filterMap.mp hm
      exact nfr (List.mem_filterMap.mpr ⟨e, List.mem_cons_of_mem _ he, q⟩)
    have S3 := J3.suite he3 hd3 na nL nF
    have go : ∀ {hds' : List ExceptHandler} {l' : List (Value × Option Nat × TSx)}, Clauses X hds' l' → wClauses X.K Wout D l' cls d σ' H' →
        wpAny (model X.prog X.w) X.A (handleBy (.ref a) X.env hds') (SP X pins D) X.xe { s' with heap := h3 } := by
      intro hds' l' hk
      induction hk with
      | nil =>
        intro w
        refine wpAny_handleBy_nil ?_
        obtain ⟨_, _, _, oe, vs, T, oT, ts', he, hz, hd, h1, hr⟩ := id fl3
        unfold PySem.passOn
        refine wpAny_bind (wpAny_field he hd h1 ?_)
        rw [if_neg (show ¬ ((Value.ref T == Value.none) = true) from by simp)]
        have fin : wpAny (model X.prog X.w) X.A (setFlight (.ref a) X.env.frame) (fun _ s4 => wpAny (model X.prog X.w) X.A (throw (.ref a) : Sem Flow) (SP X pins D) X.xe s4) X.xe { s' with heap := h3 } := by
          rw [hf]
          exact HandSPX.setFlight_upZ fl3 fun h4 hh4 up4 => wpAny_throw (tk _ _ ⟨a, B, sI, pins, σ', H', cls, d, rfl, J, nb, (up.trans up3).trans up4, .inr (.inr (by rw [hs]; exact hh4)), na, os, ag, w⟩)
        first
          | exact wpAny_bind (wpAny_pure (wpAny_bind fin))
          | exact wpAny_bind fin
      | @cons x nm c n ts b₀ suite np pos' hds2 l2 hc hn hsu r ih =>
        intro w
        obtain ⟨b, hb1, hyes, hno⟩ := w
        refine wpAny_handleBy_cons (codeAny_handlers_test ?_) (by intro q; cases q)
        have LT : PySem.W.Looks (model X.prog X.w) h3 (typeOf (.ref a)) cls := fun A Q E s k q => wpAny_typeOf_ref (k _ _ he3) (by rw [hz3.1]; exact q)
        have test : ∀ {Q : Value → Shared → Prop} {E : Value → Shared → Prop}, Q c { s' with heap := h3 } → wpAny (model X.prog X.w) (X.A.mark (some (.ref a))) (eval (.Name x np) X.env) Q E { s' with heap := h3 } := fun {Q E} q => by
          obtain ⟨hg, hdbg, hm | ⟨hm, hv, hnn⟩⟩ := hc
          · exact ld_glob (X := X.suite a ((a, oe3) :: (X.pn ++ pins))) S3 hg hm q hdbg
          · exact ld_blt (X := X.suite a ((a, oe3) :: (X.pn ++ pins))) S3 hg hm hv q hnn hdbg
        refine test ((PySem.W.exm_one (M := model X.prog X.w) J3.kIn LT hb1).here ?_)
        cases b with
        | false => exact ih (hno rfl)
        | true =>
          have hy := hyes rfl a na fun i e => by
            subst e
            cases nm with
            | none => exact hn.elim
            | some y => rw [J.len]; exact (List.getElem?_eq_some_iff.mp hn.1).1
          match nm, n, hn with
          | none, none, _ =>
            refine codeAny_handlers_suite (HandSPX.lands_againZ fl3 fun h4 fl4 up4 => ?_)
            have J4 : Inv X pins σ' H' { s' with heap := h4 } := J.landed nb fl4.1 ((up.trans up3).trans up4) os ag
            obtain ⟨oe4, vs4, he4, hz4, hd4⟩ := fl4.there
            refine wpAny_mono ((hsu a oe4 cls d (X.pn ++ pins) hz4 ⟨_, hd4⟩).run [] _ _ H' _ (J4.suite he4 hd4 na nL nF) hy) (fun f s6 hsp => ?_) (fun _ _ z => False.elim z)
            cases f with
            | ret u =>
              obtain ⟨v6, σ6, H6, S6, r6, q6⟩ := hsp
              exact ⟨_, _, _, S6.unsuite ok, r6, q6⟩
            | next => obtain ⟨σ6, H6, S6, q6⟩ := hsp; exact ⟨_, _, S6.unsuite ok, q6⟩
            | brk => obtain ⟨σ6, H6, S6, q6⟩ := hsp; exact ⟨_, _, S6.unsuite ok, q6⟩
            | cont => obtain ⟨σ6, H6, S6, q6⟩ := hsp; exact ⟨_, _, S6.unsuite ok, q6⟩
          | some y, some i, hn =>
            obtain ⟨hi, hln⟩ := hn
            refine codeAny_handlers_suite_as (HandSPX.lands_againZ fl3 fun h4 fl4 up4 => ?_)
            have J4 : Inv X pins σ' H' { s' with heap := h4 } := J.landed nb fl4.1 ((up.trans up3).trans up4) os ag
            obtain ⟨oe4, vs4, he4, hz4, hd4⟩ := fl4.there
            refine store_ok (X := X.suite a ((a, oe4) :: (X.pn ++ pins))) (v := .ref a) (J4.suite he4 hd4 na nL nF) hN hi (.inl hln) rfl (fun s5 S5 => ?_) (.inr hln)
            refine wpAny_mono ((hsu a oe4 cls d (X.pn ++ pins) hz4 ⟨_, hd4⟩).run [] s5 _ H' _ S5 hy) (fun f s6 hsp => ?_) (fun _ _ z => False.elim z)
            cases f with
            | ret u =>
              obtain ⟨v6, σ6, H6, S6, r6, q6⟩ := hsp
              exact gone_ok (S6.unsuite ok) hN hi hln fun s7 J7 => ⟨_, _, _, J7, r6, q6⟩
            | next => obtain ⟨σ6, H6, S6, q6⟩ := hsp; exact gone_ok (S6.unsuite ok) hN hi hln fun s7 J7 => ⟨_, _, J7, q6⟩
            | brk => obtain ⟨σ6, H6, S6, q6⟩ := hsp; exact gone_ok (S6.unsuite ok) hN hi hln fun s7 J7 => ⟨_, _, J7, q6⟩
            | cont => obtain ⟨σ6, H6, S6, q6⟩ := hsp; exact gone_ok (S6.unsuite ok) hN hi hln fun s7 J7 => ⟨_, _, J7, q6⟩
    exact go hh w
  · cases f with
    | next => obtain ⟨σ', H', J', q⟩ := hsp; exact wpAny_execs_nil ⟨σ', H', J'.ofTry ok, q⟩
    | brk => obtain ⟨σ', H', J', q⟩ := hsp; exact ⟨σ', H', J'.ofTry ok, q⟩
    | cont => obtain ⟨σ', H', J', q⟩ := hsp; exact ⟨σ', H', J'.ofTry ok, q⟩
    | ret u => obtain ⟨v, σ', H', J', r, q⟩ := hsp; exact ⟨v, σ', H', J'.ofTry ok, r, q⟩
end
end Ek

namespace Ek
open PySem PySem.Spec PyProof.Rows L2
section
variable {bs : Hp × List Pl} {ce : CE} {nm : Option Str} {x : Str} {sl : L2.St → Prop} {q : Nat → Expr → Option Bool} {C : CallS} {ex : XQ}
theorem lax_cons {X' : Cx} {e : Expr} {es : List Expr} {wa : Sl → Sto → UQ → Prop} {wes : Sl → Sto → (List U → Sto → Prop) → Prop} (ha : PE X' e (LEx X'.K bs sl wa)) (hr : PA X' es (LAx X'.K bs sl es.length wes)) (hs : starEach (e :: es) X'.env = (false, eval e X'.env) :: starEach es X'.env) :
    PA X' (e :: es) (LAx X'.K bs sl (e :: es).length (fun σ S Q => wa σ S fun u S1 => wes σ S1 fun us S2 => Q (u :: us) S2)) :=
  pa_imp (pa_cons ha hr hs) fun σ H Q ⟨h0, φ, σu, S, Qu, hsl, ho, q, kk⟩ => ⟨h0, φ, σu, S, _, hsl, ho, q, fun u S1 φ1 v1 H1 e1 o1 r1 q1 => ⟨h0, φ1, σu, S1, _, hsl.up e1, o1, q1, fun us S2 φ2 vs H2 hl e2 o2 r2 q2 =>
    kk _ S2 φ2 _ H2 (by rw [List.length_cons, hl, List.length_cons]) (e1.trans e2) o2 (.cons (r1.up e2) r2) q2⟩⟩
theorem snd_hx {X' : Cx} (hb : ∀ (n : Nat) (e : Expr) (b : Bool), q n e = some b → PE X' e (LEx X'.K bs sl (wpE C ex (.cbl b)))) : ∀ (n : Nat) (e : Expr) (c : Ex), cHx q n e = some c → PE X' e (LEx X'.K bs sl (wpE C ex c))
  | 0, _, _, h => nomatch (show (none : Option Ex) = some _ from h)
  | n + 1, e, c, h => by
    have args : ∀ {es : List Expr} {l : List Ex}, cL (cHx q n) es = some l → PA X' es (LAx X'.K bs sl es.length (wpEs C ex l)) := by
      intro es
      induction es with
      | nil => intro l h; rw [cL_nil h, wpEs_nil]; exact pa_imp qa_nil fun _ _ _ q => q.2
      | cons e r ih =>
        intro l h
        obtain ⟨a, b, hs, h1, h2, rfl⟩ := cL_cons h
        rw [wpEs_cons]
        exact lax_cons (snd_hx hb n e a h1) (ih h2) (star_cons hs)
    unfold cHx at h
    split at h
    · cases h; rw [wpE_cint]; exact lex_of qe_int
    · cases h; rw [wpE_cbl]; exact lex_of qe_bl
    · cases h; rw [wpE_cstr]; exact lex_of qe_str
    · cases h; rw [wpE_cnon]; exact lex_of qe_non
    · split at h
      · rename_i hl
        rw [Option.map_eq_some_iff] at h
        obtain ⟨l, h1, rfl⟩ := h
        rw [wpE_tup]
        exact pe_imp (pe_tup (args h1)) fun σ H Q ⟨h0, φ, σu, S, Qu, hsl, ho, q, kk⟩ => ⟨h0, φ, σu, S, _, hsl, ho, q, fun us S1 φ1 vs H1 hn e1 o1 r1 q1 =>
          ⟨by rw [← r1.length, hn]; exact big_line (Nat.le_trans hl (by decide)), Fw.tup (bs := bs) (Qu := Qu) (fun u S' φ' v H' e2 o2 r2 q2 => kk u S' φ' v H' (e1.trans e2) o2 r2 q2) o1 r1 q1⟩⟩
      · cases h
    · split at h
      · rename_i hl
        rw [Option.map_eq_some_iff] at h
        obtain ⟨l, h1, rfl⟩ := h
        rw [wpE_lst]
        exact pe_imp (pe_lst (args h1)) fun σ H Q ⟨h0, φ, σu, S, Qu, hsl, ho, q, kk⟩ => ⟨h0, φ, σu, S, _, hsl, ho, q, fun us S1 φ1 vs H1 hn e1 o1 r1 q1 =>
          ⟨by rw [← r1.length, hn]; exact big_line (Nat.le_trans hl (by decide)), Fw.lst (bs := bs) (Qu := Qu) (fun u S' φ' v H' e2 o2 r2 q2 => kk u S' φ' v H' (e1.trans e2) o2 r2 q2) o1 r1 q1⟩⟩
      · cases h
    · rw [Option.map_eq_some_iff] at h
      obtain ⟨b, h1, rfl⟩ := h
      exact hb n _ b h1
theorem hx_any : ∀ (n : Nat) (e : Expr) (c : Ex), cHx q n e = some c → ∀ (σ σ2 : Sl) (S : Sto) (Q : UQ), wpE C ex c σ S Q → wpE C ex c σ2 S Q
  | 0, _, _, h => nomatch (show (none : Option Ex) = some _ from h)
  | n + 1, e, c, h => by
    have args : ∀ {es : List Expr} {l : List Ex}, cL (cHx q n) es = some l → ∀ (σ σ2 : Sl) (S : Sto) (Q : List U → Sto → Prop), wpEs C ex l σ S Q → wpEs C ex l σ2 S Q := by
      intro es
      induction es with
      | nil => intro l h σ σ2 S Q qq; rw [cL_nil h, wpEs_nil] at *; exact qq
      | cons e r ih =>
        intro l h σ σ2 S Q qq
        obtain ⟨a, b, hs, h1, h2, rfl⟩ := cL_cons h
        rw [wpEs_cons] at qq ⊢
        have key : (fun u S1 => wpEs C ex b σ S1 fun us S2 => Q (u :: us) S2) = fun u S1 => wpEs C ex b σ2 S1 fun us S2 => Q (u :: us) S2 := by
          funext u S1
          exact propext ⟨ih h2 _ _ _ _, ih h2 _ _ _ _⟩
        rw [key] at qq
        exact hx_any n e a h1 σ σ2 S _ qq
    intro σ σ2 S Q qq
    unfold cHx at h
    split at h
    · cases h; rw [wpE_cint] at *; exact qq
    · cases h; rw [wpE_cbl] at *; exact qq
    · cases h; rw [wpE_cstr] at *; exact qq
    · cases h; rw [wpE_cnon] at *; exact qq
    · split at h
      · rw [Option.map_eq_some_iff] at h
        obtain ⟨l, h1, rfl⟩ := h
        rw [wpE_tup] at *
        exact args h1 _ _ _ _ qq
      · cases h
    · split at h
      · rw [Option.map_eq_some_iff] at h
        obtain ⟨l, h1, rfl⟩ := h
        rw [wpE_lst] at *
        exact args h1 _ _ _ _ qq
      · cases h
    · rw [Option.map_eq_some_iff] at h
      obtain ⟨b, h1, rfl⟩ := h
      rw [wpE_cbl] at *
      exact qq
/-- what a clause gives does not look at the slots; continue has no name -/
structure ClOk (C : CallS) (ex : XQ) (s : Option Nat) (f : Str → Option (Option Ex)) : Prop where
  any : ∀ x c, f x = some (some c) → ∀ (σ σ2 : Sl) (S : Sto) (Q : UQ), wpE C ex c σ S Q → wpE C ex c σ2 S Q
  cnt : ∀ x, f x = some none → s = none
theorem clok_of {n : Nat} {b : List Stmt} {s : Option Nat} (hs : nm = none → s = none) : ClOk C ex s (fun y => cHs ce nm y n b) := by
  refine ⟨fun x c h => ?_, fun x h => ?_⟩
  · simp only [cHs] at h
    split at h
    · rw [Option.map_eq_some_iff] at h
      obtain ⟨c', h1, e⟩ := h
      cases e
      exact hx_any n _ _ h1
    · split at h
      · simp only [Option.bind_eq_some_iff, Option.map_eq_some_iff] at h
        obtain ⟨b1, _, c', h1, e⟩ := h
        cases e
        exact hx_any n _ _ h1
      · cases h
    · split at h <;> cases h
    · cases h
  · simp only [cHs] at h
    split at h
    · rw [Option.map_eq_some_iff] at h
      obtain ⟨c', h1, e⟩ := h
      cases e
    · split at h
      · simp only [Option.bind_eq_some_iff, Option.map_eq_some_iff] at h
        obtain ⟨b1, _, c', h1, e⟩ := h
        cases e
      · cases h
    · split at h
      · rename_i w
        exact hs (Option.isNone_iff_eq_none.mp w)
      · cases h
    · cases h
/-- a clause's reading -/
def RdH (K : PySem.W.Frag) (bs : Hp × List Pl) (C : CallS) (ex : XQ) (sl : L2.St → Prop) : Option Ex → TS
  | some c => fun D σ H => LEx K bs sl (wpE C ex c) σ H D.rt
  | none => fun D σ H => D.ct σ H
end
end Ek

namespace Ek
open PySem PySem.Spec PyProof.Rows L2

def cGo (f : Expr → Option Tg) : List Expr → Option (List Tg)
  | [] => some []
  | e :: r => if nstar e = true then (f e).bind fun a => (cGo f r).map fun b => a :: b else none
def cTgt (n : Nat) (ce : CE) : Nat → Expr → Option Tg
  | 0, _ => none
  | m + 1, e => match e with
    | .Name x _ => if loc ce.sc x = true then (ixOf ce.N x).map .var else none
    | .Tuple es _ _ => (cGo (cTgt n ce m) es).map .tup
    | .Subscript o i _ => if isSl i = true then none else (cE n ce o).bind fun o' => (cE n ce i).map fun i' => .sub o' i'
    | _ => none
/-- the names that a pair of tuples swaps -/
def swN (sc : Scope) (line : Nat) (ts : List Expr) : List Str := ts.filterMap fun
  | .Name id pos => if sc.names.lookup id == some .local && pos.line == line then some id else none
  | _ => none
def swLine (ts : List Expr) : Nat := (ts.head?.map (·.pos.line)).getD 0
/-- a, b = x, y and a, b, c = x, y, z of plain names -/
def cPar (n : Nat) (ce : CE) : Expr → Expr → Option Sm
  | .Tuple [.Name x px, .Name y py] _ _, .Tuple [a, b] _ _ =>
    if ce.sc.kind = .function ∧ lcl ce.sc x = true ∧ lcl ce.sc y = true ∧ py.line = px.line ∧ x ≠ y ∧ ([a, b].all (foldedForSure 8)) = false ∧ ([a, b].all (constantsAlone 8)) = false ∧ nstar a = true ∧ nstar b = true then
      (ixOf ce.N x).bind fun i => (ixOf ce.N y).bind fun j => (cE n ce a).bind fun a' => (cE n ce b).map fun b' => .par2 i j a' b'
    else none
  | .Tuple [.Name x px, .Name y py, .Name z pz] _ _, .Tuple [a, b, c] _ _ =>
    if ce.sc.kind = .function ∧ lcl ce.sc x = true ∧ lcl ce.sc y = true ∧ lcl ce.sc z = true ∧ py.line = px.line ∧ pz.line = px.line ∧ x ≠ y ∧ x ≠ z ∧ y ≠ z ∧ ([a, b, c].all (foldedForSure 8)) = false ∧ ([a, b, c].all (constantsAlone 8)) = false ∧ nstar a = true ∧ nstar b = true ∧ nstar c = true then
      (ixOf ce.N x).bind fun i => (ixOf ce.N y).bind fun j => (ixOf ce.N z).bind fun l => (cE n ce a).bind fun a' => (cE n ce b).bind fun b' => (cE n ce c).map fun c' => .par3 i j l a' b' c'
    else none
  | _, _ => none
def elts : Expr → List Expr
  | .Tuple es _ _ => es
  | _ => []
/-- nothing is swapped -/
def noSw (ce : CE) (tg e : Expr) : Bool := !(isTup tg && isTup e) || (match tg, e with
  | .Tuple ts _ _, .Tuple _ _ _ => (swN ce.sc (swLine ts) ts).length != ts.length
  | _, _ => false)
def cB (f : Stmt → Option Sm) : List Stmt → Option (List Sm)
  | [] => some []
  | s :: r => (cB f r).map fun b => (f s).getD .no :: b
def cAug : Operator → Option Op
  | .Add => some .add | .Sub => some .sub
  | _ => none
/-- o.f = e -/
def cAtr (n : Nat) (ce : CE) : Expr → Expr → Option Sm
  | .Attribute (.Name y yp) f _, e => (ce.V.lookup y).bind fun c => (ixOf c.fs f).bind fun i => (cE n ce (.Name y yp)).bind fun o => (cE n ce e).map fun e' => .fset o c i e'
  | _, _ => none
def cS (n : Nat) (ce : CE) : Nat → Stmt → Option Sm
  | 0, _ => none
  | m + 1, st => match st with
    | .Return none _ => some .retn
    | .Return (some e) _ => (cE n ce e).map .ret
    | .Expr (.Constant (.str _) _ _) _ => some .pass
    | .Expr (.Call (.Attribute o at_ apos) es kws cpos) _ => match es, kws with
      | [a], [] => if at_ = "append" ∧ isCall o = false ∧ (apos.endLine == cpos.line) = true ∧ nstar a = true then (cE n ce o).bind fun o' => (cE n ce a).map fun a' => .app o' a' else (cE n ce (.Call (.Attribute o at_ apos) [a] [] cpos)).map .exp
      | es, kws => (cE n ce (.Call (.Attribute o at_ apos) es kws cpos)).map .exp
    | .AugAssign (.Attribute (.Name y yp) f _) op e _ => (ce.V.lookup y).bind fun c => (ixOf c.fs f).bind fun i => (cAug op).bind fun p => (cE n ce (.Name y yp)).bind fun o => (cE n ce e).map fun e' => .faug o c i p e'
    | .Expr e _ => if isCmp e = true then none else (cE n ce e).map .exp
    | .Assign [tg] e _ => match cAtr n ce tg e with
      | some c => some c
      | none => match cPar n ce tg e with
      | some c => some c
      | none => if nstar tg = true ∧ noSw ce tg e = true ∧ (isCmp e = true → ce.sc.kind = .function) then (cTgt n ce 5 tg).bind fun t => (cE n ce e).map fun e' => .set t e' else none
    | .AugAssign (.Name x _) o e _ => if loc ce.sc x = true then (ixOf ce.N x).bind fun i => (cAug o).bind fun o' => (cE n ce e).map fun e' => .aug i o' e' else none
    | .If c a b _ => (cE n ce c).bind fun c' => (cB (cS n ce m) a).bind fun a' => (cB (cS n ce m) b).map fun b' => .ifs c' a' b'
    | .While c b [] _ => (cE n ce c).bind fun c' => (cB (cS n ce m) b).map fun b' => .whl c' b'
    | .For tg it b [] _ => (cTgt n ce 5 tg).bind fun t => (cSrc (cE n ce) ce tg it).bind fun s => (cB (cS n ce m) b).map fun b' => .for_ t s.1 s.2 b'
    | .Pass _ => some .pass
    | .Break _ => some .brk
    | .Continue _ => some .cnt
    | .Raise (some (.Call (.Name x _) [.Constant (.str _) _ _] [] _)) none _ => if glo ce.sc x = true ∧ ¬ dbg x = true then (ixOf ce.X x).map .raise else none
    | .Try body (h :: hs) [] [] _ => (cB (cS n ce m) body).bind fun b => (cHds n ce (h :: hs)).bind fun hl => (tabH hl 0 ce.X).map fun tb => .try_ ce.X.length b tb
    | _ => none

/-- a body's context -/
structure GoodS (G : List Df) (cls : Nat → Value) (k : Nat) (ce : CE) (X : Cx) : Prop extends Good G cls k ce X where
  stk : X.stack = X.env :: X.outer
  frm : X.env.frame = some X.env.locals
  exm : ∀ (c h : Nat) (x y : Str), ce.X[c]? = some x → ce.X[h]? = some y → PySem.W.exmOne X.K (cls c) (cls h) = some (subX x y)
  kit : ce.X.contains ("EchelonError" : Str) = true → ∀ (c : Nat) (x : Str), ce.X[c]? = some x → ∃ D, cls c = .ref D ∧ ExcC X.K D ∧ (∀ (h : Nat) (y : Str), ce.X[h]? = some y → PySem.W.kitOne X.K (.ref D) (cls h) = some (subX x y)) ∧ PySem.W.kitOne X.K (.ref D) (.type "ValueError") = some true
  fn : ∀ x, X.fn x = true
  pass : PassesOwn (model X.prog X.w) X.A X.env X.xe
  exc : ∀ (c : Nat) (x : Str), ce.X[c]? = some x → ∃ A B newId initId bmB, ExcBaseFacts B newId initId bmB ∧ PySem.W.excIn X.K A bmB newId = true ∧ X.mg x = some (.ref A) ∧ PySem.W.keepIn X.K (.ref A) = true ∧ Raises X (.ref A) ∧ cls c = .ref A

section
variable {G : List Df} {cls : Nat → Value} {k : Nat} {X : Cx} {bs : Hp × List Pl} {ex : XQ} {ce : CE} {n : Nat} {C : CallS}
theorem asg_var {i : Nat} : asg C ex (.var i) = fun u σ S R => R (σ.set i (some u)) S := by funext u σ S R; simp only [asg]
theorem asg_tup {ts : List Tg} : asg C ex (.tup ts) = fun u σ S R => ∃ us, u = .tup us ∧ us.length = ts.length ∧ asgs C ex ts us σ S R := by funext u σ S R; simp only [asg]
theorem asg_sub {o i : Ex} : asg C ex (.sub o i) = fun u σ S R => wpE C ex o σ S fun x S1 => wpE C ex i σ S1 fun y S2 => setU x y u S2 fun S3 => R σ S3 := by funext u σ S R; simp only [asg]
theorem asgs_nil : asgs C ex [] = fun us σ S R => us = [] ∧ R σ S := by funext u σ S R; simp only [asgs]
theorem asgs_cons {t : Tg} {ts : List Tg} : asgs C ex (t :: ts) = fun us σ S R => ∃ u r, us = u :: r ∧ asg C ex t u σ S fun σ1 S1 => asgs C ex ts r σ1 S1 R := by funext u σ S R; simp only [asgs]
theorem loc_of {sc : Scope} {x : Str} (h : loc sc x = true) : Loc sc x := by
  unfold loc at h
  simp only [Bool.or_eq_true, beq_iff_eq] at h
  exact h
theorem cGo_cons {f : Expr → Option Tg} {e : Expr} {r : List Expr} {l : List Tg} (h : cGo f (e :: r) = some l) : ∃ a b, nstar e = true ∧ f e = some a ∧ cGo f r = some b ∧ l = a :: b := by
  unfold cGo at h
  split at h
  · rename_i hs
    simp only [Option.bind_eq_some_iff, Option.map_eq_some_iff] at h
    obtain ⟨a, h1, b, h2, rfl⟩ := h
    exact ⟨a, b, hs, h1, h2, rfl⟩
  · cases h
theorem snd_tg (g : GoodS G cls k ce X) (tk : Takes X (LW X.K bs cls ex)) : ∀ (m : Nat) (e : Expr) (t : Tg), cTgt n ce m e = some t → PG X e (LG X.K bs (asg (wpC G k) ex t))
  | 0, _, _, h => nomatch (show (none : Option Tg) = some _ from h)
  | m + 1, e, t, h => by
    have many : ∀ {es : List Expr} {l : List Tg}, cGo (cTgt n ce m) es = some l → PGs X es (LGs X.K bs (asgs (wpC G k) ex l)) ∧ (assignEach es X.env).length = l.length ∧ (assignEach es X.env).findIdx? (·.1) = none := by
      intro es
      induction es with
      | nil => intro l h; cases h; rw [asgs_nil]; exact ⟨qgs_nil, rfl, rfl⟩
      | cons e r ih =>
        intro l h
        obtain ⟨a, b, hs, h1, h2, rfl⟩ := cGo_cons h
        obtain ⟨i1, i2, i3⟩ := ih h2
        refine ⟨?_, ?_, ?_⟩
        · rw [asgs_cons]
          exact qgs_cons (snd_tg g tk m e a h1) i1 (by rw [asg_star hs]; rfl)
        · rw [asg_star hs]; simp [i2]
        · rw [asg_star hs, List.findIdx?_cons]; simp [i3]
    cases e <;> try (simp only [cTgt] at h; cases h; done)
    · -- a[i]
      rename_i o i p
      simp only [cTgt] at h
      split at h
      · cases h
      · rename_i hsl
        simp only [Option.bind_eq_some_iff, Option.map_eq_some_iff] at h
        obtain ⟨o', ho, i', hi, rfl⟩ := h
        rw [asg_sub]
        exact qg_sub ((snd_all n).e ce o o' X bs ex ho g.toGood (takesF_of g.frm tk)) ((snd_all n).e ce i i' X bs ex hi g.toGood (takesF_of g.frm tk)) (by
          intro v
          cases i <;> first
            | rfl
            | exact absurd rfl hsl)
    · rename_i x p
      simp only [cTgt] at h
      split at h
      · rename_i hl
        rw [Option.map_eq_some_iff] at h
        obtain ⟨i, hi, rfl⟩ := h
        rw [asg_var]
        exact qg_var g.nd (by rw [g.N]; exact ixOf_get hi) (by rw [g.sc]; exact loc_of hl) (.inl (g.fn x))
      · cases h
    · rename_i es kk p
      simp only [cTgt, Option.map_eq_some_iff] at h
      obtain ⟨l, h1, rfl⟩ := h
      obtain ⟨i1, i2, i3⟩ := many h1
      rw [asg_tup]
      exact qg_tup g.calm i1 i2 i3
theorem sws_plain {tg e : Expr} {line : Nat} {env : Env} (h : isCmp e = false) : swapsWithSole [tg] e line env = pure false := by
  cases e <;> first
    | rfl
    | cases h
theorem swe_plain {o : Option Expr} {e : Expr} {line : Nat} {env : Env} (h : isCmp e = false) : swapsWith e o line env = pure false := by
  cases e <;> first
    | rfl
    | cases h
theorem swn_of {tg e : Expr} {env : Env} (hsc : env.scope = ce.sc) (h : noSw ce tg e = true) : swappedStores [tg] e env = pure none := by
  unfold noSw at h
  rw [Bool.or_eq_true] at h
  rcases h with h | h
  · have : isTup tg = false ∨ isTup e = false := by
      cases h1 : isTup tg <;> cases h2 : isTup e <;> simp_all
    rcases this with z | z
    · cases tg <;> first
        | rfl
        | cases z
    · cases tg <;> cases e <;> first
        | rfl
        | cases z
  · cases tg <;> first
      | (simp at h; done)
      | skip
    cases e <;> first
      | (simp at h; done)
      | skip
    rename_i ts k1 p1 vs k2 p2
    have hl : (swN ce.sc (swLine ts) ts).length ≠ ts.length := by simpa using h
    unfold swappedStores
    simp only []
    generalize hN : List.filterMap _ ts = names
    have hn : names = swN ce.sc (swLine ts) ts := by
      rw [← hN, ← hsc]
      rfl
    rw [← hn] at hl
    split
    · rfl
    · split
      · rfl
      · rw [if_pos (by simp only [Bool.or_eq_true, bne_iff_ne]; exact .inl hl)]
theorem asg1 {tg : Expr} {env : Env} (h : nstar tg = true) : (assignEach [tg] env).map (·.2) = [assign tg env] := by
  rw [asg_star h]; rfl
end
end Ek

namespace Ek
open PySem PySem.Spec PyProof.Rows L2
section
variable {G : List Df} {cls : Nat → Value} {k : Nat} {X : Cx} {bs : Hp × List Pl} {ex : XQ} {ce : CE} {n : Nat} {C : CallS}
theorem lcl_of {sc : Scope} {x : Str} (h : lcl sc x = true) : sc.names.lookup x = some .local := by
  unfold lcl at h
  exact beq_iff_eq.mp h
theorem nst {e : Expr} : nstar e = true → (match e with | .Starred .. => true | _ => false) = false := by
  intro h
  cases e <;> first
    | rfl
    | cases h
theorem erase2 {x y : Str} (h : x ≠ y) : [x, y].eraseDups = [x, y] := by
  have h1 : (y == x) = false := by simpa using Ne.symm h
  simp [List.eraseDups_cons, h1]
theorem erase3 {x y z : Str} (h : x ≠ y) (h2 : x ≠ z) (h3 : y ≠ z) : [x, y, z].eraseDups = [x, y, z] := by
  have a1 : (y == x) = false := by simpa using Ne.symm h
  have a2 : (z == x) = false := by simpa using Ne.symm h2
  have a3 : (z == y) = false := by simpa using Ne.symm h3
  simp [List.eraseDups_cons, a1, a2, a3]
theorem bk_fun {env : Env} (h : env.scope.kind = .function) : (env.blockKind != .function) = false := by
  unfold Env.blockKind
  rw [h]; rfl
theorem sw2 {env : Env} {x y : Str} {px py pt pt2 : Pos} {kt k2 : Nat} {a b : Expr} (hk : env.scope.kind = .function) (hx : env.kindOf x = some .local) (hy : env.kindOf y = some .local) (hl : py.line = px.line) (hxy : x ≠ y) (hf : [a, b].all (foldedForSure 8) = false) (hc : [a, b].all (constantsAlone 8) = false) (ha : nstar a = true) (hb : nstar b = true) :
    swappedStores [.Tuple [.Name x px, .Name y py] kt pt] (.Tuple [a, b] k2 pt2) env = pure (some [x, y]) := by
  unfold swappedStores
  simp only []
  have e1 : swN env.scope px.line [Expr.Name x px, Expr.Name y py] = [x, y] := by
    have hx' : env.scope.names.lookup x = some .local := hx
    have hy' : env.scope.names.lookup y = some .local := hy
    simp [swN, hx', hy', hl]
  generalize hN : List.filterMap _ [Expr.Name x px, Expr.Name y py] = names
  have hn : names = [x, y] := by rw [← hN]; exact e1
  subst hn
  rw [if_neg (by simp [bk_fun hk]), if_neg (by
    simp only [List.any_cons, List.any_nil, Bool.or_false, Bool.or_eq_true, not_or, Bool.not_eq_true]
    exact ⟨nst ha, nst hb⟩), if_neg (by rw [erase2 hxy]; simp), if_neg (by rw [hf]; decide), if_neg (by rw [hc]; decide)]
theorem sw3 {env : Env} {x y z : Str} {px py pz pt pt2 : Pos} {kt k2 : Nat} {a b c : Expr} (hk : env.scope.kind = .function) (hx : env.kindOf x = some .local) (hy : env.kindOf y = some .local) (hz : env.kindOf z = some .local) (hl : py.line = px.line) (hl2 : pz.line = px.line) (hxy : x ≠ y) (hxz : x ≠ z) (hyz : y ≠ z) (hf : [a, b, c].all (foldedForSure 8) = false) (hc : [a, b, c].all (constantsAlone 8) = false) (ha : nstar a = true) (hb : nstar b = true) (hcc : nstar c = true) :
    swappedStores [.Tuple [.Name x px, .Name y py, .Name z pz] kt pt] (.Tuple [a, b, c] k2 pt2) env = pure (some [x, y, z]) := by
  unfold swappedStores
  simp only []
  have e1 : swN env.scope px.line [Expr.Name x px, Expr.Name y py, Expr.Name z pz] = [x, y, z] := by
    have hx' : env.scope.names.lookup x = some .local := hx
    have hy' : env.scope.names.lookup y = some .local := hy
    have hz' : env.scope.names.lookup z = some .local := hz
    simp [swN, hx', hy', hz', hl, hl2]
  generalize hN : List.filterMap _ [Expr.Name x px, Expr.Name y py, Expr.Name z pz] = names
  have hn : names = [x, y, z] := by rw [← hN]; exact e1
  subst hn
  rw [if_neg (by simp [bk_fun hk]), if_neg (by
    simp only [List.any_cons, List.any_nil, Bool.or_false, Bool.or_eq_true, not_or, Bool.not_eq_true]
    exact ⟨nst ha, nst hb, nst hcc⟩), if_neg (by rw [erase3 hxy hxz hyz]; simp), if_neg (by rw [hf]; decide), if_neg (by rw [hc]; decide)]

theorem wpS_set {t : Tg} {e : Ex} : wpS C ex (.set t e) = fun D σ S => wpE C ex e σ S fun u S1 => asg C ex t u σ S1 D.nx := by funext D σ S; simp only [wpS]
theorem wpS_par2 {i j : Nat} {a b : Ex} : wpS C ex (.par2 i j a b) = fun D σ S => wpE C ex a σ S fun u S1 => wpE C ex b σ S1 fun v S2 => D.nx ((σ.set i (some u)).set j (some v)) S2 := by funext D σ S; simp only [wpS]
theorem wpS_par3 {i j l : Nat} {a b c : Ex} : wpS C ex (.par3 i j l a b c) = fun D σ S => wpE C ex a σ S fun u S1 => wpE C ex b σ S1 fun v S2 => wpE C ex c σ S2 fun w S3 => D.nx (((σ.set i (some u)).set j (some v)).set l (some w)) S3 := by funext D σ S; simp only [wpS]
theorem wpS_aug {i : Nat} {o : Op} {e : Ex} : wpS C ex (.aug i o e) = fun D σ S => ∃ x, σ[i]? = some (some x) ∧ wpE C ex e σ S fun y S1 => augU o x y S1 fun z S2 => D.nx (σ.set i (some z)) S2 := by funext D σ S; simp only [wpS]
theorem wpS_ifs {c : Ex} {a b : List Sm} : wpS C ex (.ifs c a b) = fun D σ S => wpT C ex c σ S fun k S1 => if k = true then wpB C ex a D σ S1 else wpB C ex b D σ S1 := by funext D σ S; simp only [wpS]
theorem wpS_whl {c : Ex} {b : List Sm} : wpS C ex (.whl c b) = fun D σ S => ∃ n, whU (wpT C ex c) (wpB C ex b) D n σ S := by funext D σ S; simp only [wpS]
theorem wpS_for {t : Tg} {m : Nat} {es : List Ex} {b : List Sm} : wpS C ex (.for_ t m es b) = fun D σ S => wpEs C ex es σ S fun us S1 => srcU m us S1 fun its lv li => forU (asg C ex t) (wpB C ex b) D lv li its σ S1 := by funext D σ S; simp only [wpS]
theorem wpS_fset {o : Ex} {c : Cl} {i : Nat} {e : Ex} : wpS C ex (.fset o c i e) = fun D σ S => wpE C ex e σ S fun u S1 => wpE C ex o σ S1 fun x S2 => fsetU c i x u S2 fun S3 => D.nx σ S3 := by funext D σ S; simp only [wpS]
theorem wpS_faug {o : Ex} {c : Cl} {i : Nat} {p : Op} {e : Ex} : wpS C ex (.faug o c i p e) = fun D σ S => wpE C ex o σ S fun x S1 => fldU c i x S1 fun y S2 => wpE C ex e σ S2 fun z S3 => augU p y z S3 fun w S4 => fsetU c i x w S4 fun S5 => D.nx σ S5 := by funext D σ S; simp only [wpS]
theorem wpS_ret {e : Ex} : wpS C ex (.ret e) = fun D σ S => wpE C ex e σ S D.rt := by funext D σ S; simp only [wpS]
theorem wpS_retn : wpS C ex .retn = fun D _ S => D.rt .non S := by funext D σ S; simp only [wpS]
theorem wpS_exp {e : Ex} : wpS C ex (.exp e) = fun D σ S => wpE C ex e σ S fun _ S1 => D.nx σ S1 := by funext D σ S; simp only [wpS]
theorem wpS_app {o e : Ex} : wpS C ex (.app o e) = fun D σ S => wpE C ex o σ S fun x S1 => (∃ h, x = .ref h) ∧ wpE C ex e σ S1 fun y S2 => appU x y S2 fun S3 => D.nx σ S3 := by funext D σ S; simp only [wpS]
theorem wpS_pass : wpS C ex .pass = fun D σ S => D.nx σ S := by funext D σ S; simp only [wpS]
theorem wpS_brk : wpS C ex .brk = fun D σ S => D.bk σ S := by funext D σ S; simp only [wpS]
theorem wpS_cnt : wpS C ex .cnt = fun D σ S => D.ct σ S := by funext D σ S; simp only [wpS]
theorem wpS_raise {c : Nat} : wpS C ex (.raise c) = fun _ σ S => ex c σ S := by funext D σ S; simp only [wpS]
theorem wpS_try {m : Nat} {b : List Sm} {tb : List (Nat × Option Ex)} : wpS C ex (.try_ m b tb) = fun D σ S => wpB C (fun c σ1 S1 => c < m ∧ wpH C ex (tb.lookup c) c D σ1 S1) b D σ S := by funext D σ S; simp only [wpS]
theorem wpB_nil : wpB C ex [] = fun D σ S => D.nx σ S := by funext D σ S; simp only [wpB]
theorem wpB_cons {s : Sm} {r : List Sm} : wpB C ex (s :: r) = fun D σ S => wpS C ex s { D with nx := wpB C ex r D } σ S := by funext D σ S; simp only [wpB]

theorem snd_set (g : GoodS G cls k ce X) (tk : Takes X (LW X.K bs cls ex)) {tg e : Expr} {p : Pos} {t : Tg} {c : Ex} (hs : nstar tg = true) (hw : noSw ce tg e = true) (hk : isCmp e = true → ce.sc.kind = .function) (ht : cTgt n ce 5 tg = some t) (hc : cE n ce e = some c) :
    QS X bs (.Assign [tg] e p) (wpS (wpC G k) ex (.set t c)) := by
  have gen : swapsWithSole [tg] e p.line X.env = pure false → QS X bs (.Assign [tg] e p) (wpS (wpC G k) ex (.set t c)) := fun hq => by
    rw [wpS_set]
    exact qs_asg ((snd_all n).e ce e c X bs ex hc g.toGood (takesF_of g.frm tk)) (snd_tg g tk 5 tg t ht) hq (swn_of g.sc hw) (asg1 hs)
  cases hm : isCmp e with
  | false => exact gen (sws_plain hm)
  | true =>
    have hf := hk hm
    -- a comprehension
    have hlc : ∃ elt gn scope p2, e = .ListComp elt [gn] scope p2 := by
      cases e <;> first
        | cases hm; done
        | skip
      · rename_i elt gs scope p2
        cases n with
        | zero => exact nomatch (show (none : Option Ex) = some _ from hc)
        | succ n =>
          match gs, hc with
          | [gn], hc => exact ⟨elt, gn, scope, p2, rfl⟩
      · cases n <;> (simp only [cE] at hc; cases hc)
      · cases n <;> (simp only [cE] at hc; cases hc)
    obtain ⟨elt, gn, scope, p2, rfl⟩ := hlc
    cases tg with
    | Name y py =>
      by_cases hb : X.env.scope.names.lookup y = some .local ∧ (py.line == p2.line) = true ∧ (scope.names.any fun (n, k) => n == y && (k == .local || k == .cell)) = false
      · obtain ⟨h1, h2, h3⟩ := hb
        have hsw : swapsWith (.ListComp elt [gn] scope p2) (some (.Name y py)) p.line X.env = pure true := sw_true (by rw [g.sc]; exact hf) h1 h2 h3
        simp only [cTgt] at ht
        split at ht
        · rw [Option.map_eq_some_iff] at ht
          obtain ⟨i, hi, rfl⟩ := ht
          cases n with
          | zero => exact nomatch (show (none : Option Ex) = some _ from hc)
          | succ n =>
            obtain ⟨ha, ⟨q⟩⟩ := snd_lc (snd_all n) g.toGood (takesF_of g.frm tk) hc
            obtain ⟨tg, it, ifs, as⟩ := gn
            have ha' : as = 0 := ha
            subst ha'
            rw [wpS_set, q.eq, asg_var]
            exact qs_setCompX g.calm g.nd (by rw [g.N]; exact ixOf_get hi) h1 hsw q.hi q.ok q.hv q.hg q.ht q.he g.fr (takesF_of g.frm tk) q.hs
        · cases ht
      · refine gen ?_
        show swapsWith (.ListComp elt [gn] scope p2) (some (.Name y py)) p.line X.env = pure false
        unfold swapsWith
        show (pure _ : Sem Bool) = pure false
        congr 1
        have kf : (X.env.blockKind == ScopeKind.function) = true := by
          have := bk_fun (env := X.env) (by rw [g.sc]; exact hf)
          cases h : X.env.blockKind == ScopeKind.function with
          | true => rfl
          | false => simp [bne, h] at this
        rw [show (X.env.kindOf y) = X.env.scope.names.lookup y from rfl]
        by_cases h1 : X.env.scope.names.lookup y = some .local
        · by_cases h2 : (py.line == p2.line) = true
          · have h3 : ¬ (scope.names.any fun (n, k) => n == y && (k == .local || k == .cell)) = false := fun h3 => hb ⟨h1, h2, h3⟩
            simp only [Bool.not_eq_false] at h3
            rw [h3]; simp
          · have h2' : (py.line == p2.line) = false := by simpa using h2
            have h2'' : (py.line == (Expr.ListComp elt [gn] scope p2).pos.line) = false := h2'
            rw [h2'']; simp
        · have : (X.env.scope.names.lookup y == some .local) = false := by simpa using h1
          rw [this]; simp
    | _ => exact gen rfl
theorem snd_par (g : GoodS G cls k ce X) (tk : Takes X (LW X.K bs cls ex)) {tg e : Expr} {p : Pos} {c : Sm} (h : cPar n ce tg e = some c) : QS X bs (.Assign [tg] e p) (wpS (wpC G k) ex c) := by
  unfold cPar at h
  split at h
  · rename_i x px y py kt pt a b k2 pt2
    split at h
    · rename_i hc
      obtain ⟨hk, hx, hy, hl, hxy, hf, hcs, ha, hb⟩ := hc
      simp only [Option.bind_eq_some_iff, Option.map_eq_some_iff] at h
      obtain ⟨i, hi, j, hj, a', ha', b', hb', rfl⟩ := h
      have lx := lcl_of hx
      have ly := lcl_of hy
      rw [← g.sc] at lx ly hk
      have i1 := ixOf_get hi
      have j1 := ixOf_get hj
      have hij : i ≠ j := fun e => hxy (by subst e; rw [i1] at j1; exact Option.some.inj j1)
      rw [← g.N] at i1 j1
      rw [wpS_par2]
      exact qs_par2 g.calm g.nd i1 j1 hij lx ly ((snd_all n).e ce a a' X bs ex ha' g.toGood (takesF_of g.frm tk)) ((snd_all n).e ce b b' X bs ex hb' g.toGood (takesF_of g.frm tk)) (star_cons ha) (star_cons hb) (sw2 hk lx ly hl hxy hf hcs ha hb) rfl
    · cases h
  · rename_i x px y py z pz kt pt a b c k2 pt2
    split at h
    · rename_i hc
      obtain ⟨hk, hx, hy, hz, hl, hl2, hxy, hxz, hyz, hf, hcs, ha, hb, hcc⟩ := hc
      simp only [Option.bind_eq_some_iff, Option.map_eq_some_iff] at h
      obtain ⟨i, hi, j, hj, l, hl', a', ha', b', hb', c', hc', rfl⟩ := h
      have lx := lcl_of hx
      have ly := lcl_of hy
      have lz := lcl_of hz
      rw [← g.sc] at lx ly lz hk
      have i1 := ixOf_get hi
      have j1 := ixOf_get hj
      have l1 := ixOf_get hl'
      have hij : i ≠ j := fun e => hxy (by subst e; rw [i1] at j1; exact Option.some.inj j1)
      have hil : i ≠ l := fun e => hxz (by subst e; rw [i1] at l1; exact Option.some.inj l1)
      have hjl : j ≠ l := fun e => hyz (by subst e; rw [j1] at l1; exact Option.some.inj l1)
      rw [← g.N] at i1 j1 l1
      rw [wpS_par3]
      exact qs_par3 g.calm g.nd i1 j1 l1 hij hil hjl ((snd_all n).e ce a a' X bs ex ha' g.toGood (takesF_of g.frm tk)) ((snd_all n).e ce b b' X bs ex hb' g.toGood (takesF_of g.frm tk)) ((snd_all n).e ce c c' X bs ex hc' g.toGood (takesF_of g.frm tk)) (star_cons ha) (star_cons hb) (star_cons hcc)
        fun hpa => ps_par3 g.calm g.nd i1 j1 l1 hij hil hjl lx ly lz hpa (sw3 hk lx ly lz hl hl2 hxy hxz hyz hf hcs ha hb hcc) rfl
    · cases h
  · cases h
theorem cB_cons {f : Stmt → Option Sm} {s : Stmt} {r : List Stmt} {l : List Sm} (h : cB f (s :: r) = some l) : ∃ a b, (f s = some a ∨ (f s = none ∧ a = .no)) ∧ cB f r = some b ∧ l = a :: b := by
  simp only [cB, Option.map_eq_some_iff] at h
  obtain ⟨b, h2, rfl⟩ := h
  cases e : f s with
  | none => exact ⟨.no, b, .inr ⟨rfl, rfl⟩, h2, rfl⟩
  | some a => exact ⟨a, b, .inl rfl, h2, rfl⟩
theorem qs_no {st : Stmt} : QS X bs st (wpS C ex .no) := ⟨fun pins s σ H D I ⟨φ, σu, S, Du, hs, ho, q, k⟩ => by
  simp only [wpS] at q⟩
theorem attr_base {o : Expr} {f : Str} {env : Env} (h : isCall o = false) : attributeBase o f env (eval o env) = eval o env := by
  cases o <;> first
    | rfl
    | cases h
section
variable {nm : Option Str} {x : Str}
/-- a name is stored: its slot is there -/
theorem pg_nameL {X : Cx} {i : Nat} {y : Str} {pos : Pos} (hN : X.N.Nodup) (hi : X.N[i]? = some y) (hx : Loc X.env.scope y) (hf : X.fn y = true ∨ X.env.scope.names.lookup y = some .local) : PG X (.Name y pos) (fun v σ H R => i < σ.length → gName i v σ H R) :=
  ⟨fun pins s σ H v u Q I r h => (pg_name hN hi hx hf).run pins s σ H v u Q I r (h (by rw [I.len]; exact (List.getElem?_eq_some_iff.mp hi).1))⟩
theorem snd_hk {X' : Cx} {P : L2.St → Prop} {q : Nat → Expr → Option Bool} {y : Str} {b1 : Bool} {j : Nat} (hj : X'.N[j]? = some y) (hv : Vis X'.env.scope y) (hd : (y == ("__debug__" : Str)) = false ∧ (y == ("__classdict__" : Str)) = false)
    (hb : ∀ (n : Nat) (e : Expr) (b : Bool), q n e = some b → PE X' e (LEx X'.K bs P (wpE C ex (.cbl b)))) : ∀ (n : Nat) (e : Expr) (b : Bool), cHk q y b1 n e = some b → PE X' e (LEx X'.K bs (fun σ => P σ ∧ σ[j]? = some (some (.bl b1))) (wpE C ex (.cbl b)))
  | 0, _, _, h => nomatch (show (none : Option Bool) = some _ from h)
  | n + 1, e, b, h => by
    unfold cHk at h
    split at h
    · split at h
      · rename_i e
        subst e
        cases h
        exact pe_imp (pe_var hj hv hd.1 hd.2) fun σ H Q ⟨⟨_, hs⟩, φ, σu, S, Qu, hsl, ho, q, kk⟩ => ⟨.bl b1, hs, kk _ S φ _ H Ext.refl ho (.bl b1) (by rw [wpE_cbl] at q; exact q)⟩
      · cases h
    · simp only [Option.bind_eq_some_iff, Option.map_eq_some_iff] at h
      obtain ⟨c, h1, d, h2, rfl⟩ := h
      exact lex_and (snd_hk hj hv hd hb n _ c h1) (pe_one (snd_hk hj hv hd hb n _ d h2))
    · simp only [Option.bind_eq_some_iff, Option.map_eq_some_iff] at h
      obtain ⟨c, h1, d, h2, r, h3, rfl⟩ := h
      exact lex_and (snd_hk hj hv hd hb n _ c h1) (lex_and (snd_hk hj hv hd hb n _ d h2) (pe_one (snd_hk hj hv hd hb n _ r h3)))
    · exact pe_imp (hb n _ b h) fun σ H Q ⟨hP, q⟩ => ⟨hP.1, q⟩
theorem snd_hs {X' : Cx} {n : Nat} {b : List Stmt} {v : Option Ex} {sl : Option (Nat × Addr)} (hN : X'.N.Nodup) (hNe : X'.N = ce.N) (hsc : X'.env.scope = ce.sc) (hsl : ∀ p, sl = some p → ∃ z, nm = some z ∧ X'.N[p.1]? = some z)
    (hb : ∀ (n : Nat) (e : Expr) (b : Bool), qOf ce nm x n e = some b → PE X' e (LEx X'.K bs (SlP sl) (wpE C ex (.cbl b)))) (h : cHs ce nm x n b = some v) : PSs X' b (RdH X'.K bs C ex (SlP sl) v) := by
  unfold cHs at h
  split at h
  · rw [Option.map_eq_some_iff] at h
    obtain ⟨c, h1, rfl⟩ := h
    exact pss_imp (pss_cons (ps_ret (snd_hx hb n _ c h1)) pss_nil) fun D σ H q => q
  · split at h
    · rename_i y py a pa e pe hc
      obtain ⟨hl, hy, hne, hdb, hcm, htu⟩ := hc
      simp only [Option.bind_eq_some_iff, Option.map_eq_some_iff] at h
      obtain ⟨b1, hb1, c, h2, rfl⟩ := h
      obtain ⟨j, hj⟩ := Option.isSome_iff_exists.mp hy
      have hj' : X'.N[j]? = some y := by rw [hNe]; exact ixOf_get hj
      have hlo : X'.env.scope.names.lookup y = some .local := by rw [hsc]; exact lcl_of hl
      have hk := snd_hk (b1 := b1) hj' (.inl hlo) (dbg_of hdb) hb
      refine pss_imp (pss_cons (ps_asg (hb n _ b1 hb1) (pg_nameL hN hj' (.inl hlo) (.inr hlo)) (sws_plain hcm) (swn_of (ce := ce) hsc rfl) (asg1 rfl)) (pss_cons (ps_ret (snd_hx hk n _ c h2)) pss_nil)) fun D σ H ⟨hP, φ, σu, S, Qu, hs, ho, q, kk⟩ => ?_
      refine ⟨hP, φ, σu, S, fun u S' => u = .bl b1 ∧ wpE C ex c σu S' Qu, hs, ho, by rw [wpE_cbl]; exact ⟨rfl, q⟩, fun u S' φ' v H' e' o' r' q' hlt => ?_⟩
      obtain ⟨rfl, q'⟩ := q'
      cases r'
      refine ⟨⟨fun p hp => ?_, List.getElem?_set_self hlt⟩, φ', σu.set j (some (.bl b1)), S', Qu, (hs.up e').set (.bl b1) j, o', hx_any n _ c h2 _ _ _ _ q', fun u S3 φ3 v3 H3 e3 o3 r3 q3 => kk u S3 φ3 v3 H3 (e'.trans e3) o3 r3 q3⟩
      obtain ⟨z, hz, hz2⟩ := hsl p hp
      rw [List.getElem?_set_ne fun e => hne (by rw [e, hz2] at hj'; rw [hz]; exact hj')]
      exact hP p hp
    · cases h
  · split at h
    · cases h
      exact pss_imp (pss_cons ps_continue pss_nil) fun D σ H q => q
    · cases h
  · cases h
end
/-- a clause's reading, its error's class told -/
def tsH (K : PySem.W.Frag) (bs : Hp × List Pl) (cls : Nat → Value) (ce : CE) (C : CallS) (ex : XQ) (p : Option Nat × (Str → Option (Option Ex))) : TSx := fun a cl d D σ H => ∃ c x v, cl = cls c ∧ ce.X[c]? = some x ∧ d = none ∧ p.2 x = some v ∧ RdH K bs C ex (SlP (p.1.map fun i => (i, a))) v D σ H
theorem snd_hds (g : GoodS G cls k ce X) {C : CallS} : ∀ (hds : List ExceptHandler) (hl : List (Str × (Str → Option (Option Ex)))), cHds n ce hds = some hl →
    ∃ l : List (Nat × Option Nat × (Str → Option (Option Ex))), l.length = hl.length ∧ (∀ (i : Nat) (p : Str × (Str → Option (Option Ex))), hl[i]? = some p → ∃ (j : Nat) (s : Option Nat), l[i]? = some (j, s, p.2) ∧ ce.X[j]? = some p.1 ∧ ClOk C ex s p.2) ∧
      Clauses X hds (l.map fun p => (cls p.1, p.2.1, tsH X.K bs cls ce C ex p.2))
  | [], hl, h => by cases h; exact ⟨[], rfl, fun i p e => by simp at e, .nil⟩
  | hd :: r, hl, h => by
    simp only [cHds, Option.bind_eq_some_iff, Option.map_eq_some_iff] at h
    obtain ⟨a, h1, b, h2, rfl⟩ := h
    obtain ⟨l, e1, e2, e3⟩ := snd_hds (C := C) g r b h2
    have fin : ∀ (j : Nat) (s : Option Nat), ce.X[j]? = some a.1 → ClOk C ex s a.2 → Clauses X (hd :: r) (((j, s, a.2) :: l).map fun p => (cls p.1, p.2.1, tsH X.K bs cls ce C ex p.2)) →
        ∃ l : List (Nat × Option Nat × (Str → Option (Option Ex))), l.length = (a :: b).length ∧ (∀ (i : Nat) (p : Str × (Str → Option (Option Ex))), (a :: b)[i]? = some p → ∃ (j : Nat) (s : Option Nat), l[i]? = some (j, s, p.2) ∧ ce.X[j]? = some p.1 ∧ ClOk C ex s p.2) ∧
          Clauses X (hd :: r) (l.map fun p => (cls p.1, p.2.1, tsH X.K bs cls ce C ex p.2)) := fun j s hj hk hc => by
      refine ⟨(j, s, a.2) :: l, by simp [e1], fun i p e => ?_, hc⟩
      cases i with
      | zero => simp at e; subst e; exact ⟨j, s, rfl, hj, hk⟩
      | succ i => simpa using e2 i p (by simpa using e)
    have names : ∀ {x : Str} {j : Nat}, glo ce.sc x = true → ¬ dbg x = true → ixOf ce.X x = some j → Names X x (cls j) := fun {x j} hg hdb hj => by
      obtain ⟨A, B, nid, iid, bm, _, _, gC, _, _, hcl⟩ := g.exc j x (ixOf_get hj)
      refine ⟨gl_of g.toGood hg, (dbg_of hdb).1, .inl ?_⟩
      rw [hcl]; exact gC
    unfold cHd at h1
    split at h1
    · rename_i x px b0 bb pos
      split at h1
      · rename_i hc
        obtain ⟨hg, hdb, hx⟩ := hc
        cases h1
        obtain ⟨j, hj⟩ := Option.isSome_iff_exists.mp hx
        refine fin j none (ixOf_get hj) (clok_of fun _ => rfl) (.cons (names hg hdb hj) trivial (fun a oe cl d pn _ _ => ⟨fun pins s σ H D I hw => ?_⟩) e3)
        obtain ⟨c, y, v, rfl, hy, rfl, hv, hr⟩ := hw
        exact (snd_hs (X' := X.suite a ((a, oe) :: pn)) (nm := none) (sl := none) g.nd g.N g.sc (fun _ z => nomatch z) (fun _ _ _ z => nomatch z) hv).run pins s σ H D I hr
      · cases h1
    · rename_i x px nm b0 bb pos
      split at h1
      · rename_i hc
        obtain ⟨hg, hdb, hx, hl, hN, hdn, hE⟩ := hc
        cases h1
        obtain ⟨j, hj⟩ := Option.isSome_iff_exists.mp hx
        obtain ⟨i, hi⟩ := Option.isSome_iff_exists.mp hN
        refine fin j (some i) (ixOf_get hj) (clok_of fun z => nomatch z) (.cons (names hg hdb hj) ⟨by rw [g.N]; exact ixOf_get hi, by rw [← g.sc] at hl; exact lcl_of hl⟩ (fun a oe cl d pn hz hf => ⟨fun pins s σ H D I hw => ?_⟩) e3)
        obtain ⟨c, y, v, rfl, hy, rfl, hv, hr⟩ := hw
        obtain ⟨A, hA, hE1, hE2, hE3⟩ := g.kit hE c y hy
        rw [hA] at hz
        have hc : Hc ce cls X A y := ⟨g.sc, g.N, fun z => g.blt _ (by decide +kernel) z, fun z => g.blt _ (by decide +kernel) z, fun h z hh => by
          obtain ⟨A2, _, _, _, _, _, _, gC, _, _, hcl⟩ := g.exc h z hh
          exact ⟨A2, hcl, gC⟩, hE1, hE2, hE3⟩
        exact (snd_hs (X' := X.suite a ((a, oe) :: pn)) (nm := some nm) (sl := some (i, a)) g.nd g.N g.sc (fun p hp => by
          cases hp
          exact ⟨nm, rfl, by show X.N[i]? = _; rw [g.N]; exact ixOf_get hi⟩) (fun n' e' b' hb' => snd_hb hc hz hf hi hl hdn n' e' b' hb') hv).run pins s σ H D I hr
      · cases h1
    · cases h1
theorem many_imp {K : PySem.W.Frag} {Wout : WX} {D : Ends} {C : CallS} {c : Nat} {x : Str} {σ : L2.St} {H : Hp} (hx : ce.X[c]? = some x) (he : ∀ h y, ce.X[h]? = some y → PySem.W.exmOne K (cls c) (cls h) = some (subX x y)) : ∀ (hl : List (Str × (Str → Option (Option Ex)))) (l : List (Nat × Option Nat × (Str → Option (Option Ex)))), l.length = hl.length →
    (∀ (i : Nat) (p : Str × (Str → Option (Option Ex))), hl[i]? = some p → ∃ (j : Nat) (s : Option Nat), l[i]? = some (j, s, p.2) ∧ ce.X[j]? = some p.1 ∧ ClOk C ex s p.2) →
    (∀ p, (hl.find? fun p => subX x p.1) = some p → ∃ v, p.2 x = some v ∧ ∀ (s : Option Nat) (a : Addr), ClOk C ex s p.2 → (∀ i, s = some i → i < σ.length) → RdH K bs C ex (SlP (s.map fun i => (i, a))) v (gone D s) (put σ a s) H) → ((hl.find? fun p => subX x p.1) = none → Wout (cls c) none σ H) → wClauses K Wout D (l.map fun p => (cls p.1, p.2.1, tsH K bs cls ce C ex p.2)) (cls c) none σ H
  | [], [], _, _, _, h2 => h2 rfl
  | [], _ :: _, hlen, _, _, _ => by simp at hlen
  | _ :: _, [], hlen, _, _, _ => by simp at hlen
  | p :: hl, q :: l, hlen, hi, h1, h2 => by
    obtain ⟨j, s, ej, ex', hk⟩ := hi 0 p rfl
    simp at ej
    subst ej
    refine ⟨_, he j p.1 ex', fun hb a _ hlen => ?_, fun hb => ?_⟩
    · obtain ⟨v, hv, hr⟩ := h1 p (by rw [List.find?_cons, hb])
      exact ⟨c, x, v, rfl, hx, rfl, hv, hr s a hk hlen⟩
    · refine many_imp hx he hl l (by simpa using hlen) (fun i p' e => by simpa using hi (i + 1) p' (by simpa using e)) (fun p' e => h1 p' (by rw [List.find?_cons, hb]; exact e)) fun e => h2 (by rw [List.find?_cons, hb]; exact e)
theorem good_tr (g : GoodS G cls k ce X) {pn : List (Addr × Obj)} {xe : Value → Shared → Prop} (hp : PassesOwn (model X.prog X.w) X.A X.env xe) : GoodS G cls k ce (X.tr pn xe) :=
  ⟨⟨g.calm, g.nd, g.N, g.sc, g.room, g.fns, g.mgf, g.blt, g.gl, g.vl, g.kl, g.mt, g.fr⟩, g.stk, g.frm, g.exm, g.kit, g.fn, hp, g.exc⟩
theorem EndOk.rebase {K : PySem.W.Frag} {H : Hp} {φ : List Pl} {S : Sto} {Du : EndU} {D : Ends} (o : StoOk K bs H φ S) (k : EndOk K bs H φ Du D) : EndOk K (H, φ) H φ Du D :=
  ⟨fun σu' S' φ' σ' H' e s' o' q' => k.nx σu' S' φ' σ' H' e s' (o.unbase o') q', fun u S' φ' v H' e o' r q => k.rt u S' φ' v H' e (o.unbase o') r q, fun σu' S' φ' σ' H' e s' o' q' => k.bk σu' S' φ' σ' H' e s' (o.unbase o') q', fun σu' S' φ' σ' H' e s' o' q' => k.ct σu' S' φ' σ' H' e s' (o.unbase o') q'⟩
theorem slot_put {K : PySem.W.Frag} {H : Hp} {φ : List Pl} {σu : Sl} {σ : L2.St} {a : Addr} {s : Option Nat} (h : SlotR K H φ σu σ) : SlotR K H φ (match s with | none => σu | some i => σu.set i none) (put σ a s) := by
  cases s with
  | none => exact h
  | some i =>
    refine ⟨by show (σu.set i none).length = (σ.set i _).length; rw [List.length_set, List.length_set]; exact h.1, fun j u e => ?_⟩
    by_cases w : j = i
    · subst w
      by_cases w2 : j < σu.length
      · rw [List.getElem?_set_self w2] at e; cases e
      · rw [List.getElem?_eq_none (by rw [List.length_set]; omega)] at e; cases e
    · rw [List.getElem?_set_ne (Ne.symm w)] at e
      obtain ⟨v, e1, e2⟩ := h.2 j u e
      exact ⟨v, by show (σ.set i _)[j]? = _; rw [List.getElem?_set_ne (Ne.symm w)]; exact e1, e2⟩
theorem snd_try (g : GoodS G cls k ce X) (tk : Takes X (LW X.K bs cls ex)) {body : List Stmt} {h : ExceptHandler} {hs : List ExceptHandler} {p : Pos} {b : List Sm} {hl : List (Str × (Str → Option (Option Ex)))} {tb : List (Nat × Option Ex)} (hhl : cHds n ce (h :: hs) = some hl) (htb : tabH hl 0 ce.X = some tb)
    (hb : ∀ (X' : Cx) (bs' : Hp × List Pl) (ex' : XQ), X'.K = X.K → GoodS G cls k ce X' → Takes X' (LW X.K bs' cls ex') → PSs X' body (LS X.K bs' (wpB (wpC G k) ex' b))) : QS X bs (.Try body (h :: hs) [] [] p) (wpS (wpC G k) ex (.try_ ce.X.length b tb)) := by
  obtain ⟨l, e1, e2, e3⟩ := snd_hds (bs := bs) (ex := ex) (C := wpC G k) g (h :: hs) hl hhl
  refine ps_imp (ps_clauses (tb := fun W D σ H => ∃ (bs' : Hp × List Pl) (ex' : XQ), (∀ cl d σ' H', LW X.K bs' cls ex' cl d σ' H' → W cl d σ' H') ∧ LS X.K bs' (wpB (wpC G k) ex' b) D σ H) g.stk g.frm g.nd tk (fun W pn xe tkW hp => ⟨fun pins s σ H D I ⟨bs', ex', imp, hls⟩ => ?_⟩) e3) fun D σ H ⟨φ, σu, S, Du, hsl, ho, q, kk⟩ => ?_
  · exact (hb (X.tr pn xe) bs' ex' rfl (good_tr g hp) (Takes.imp tkW imp)).run pins s σ H D I hls
  · rw [wpS_try] at q
    refine ⟨(H, φ), _, ?_, ⟨φ, σu, S, Du, hsl, ho.rebase, q, kk.rebase ho⟩⟩
    rintro cl d σ' H' ⟨c, σ1, S1, φ1, rfl, rfl, hs1, o1, hlt, hm⟩
    obtain ⟨x, hx⟩ : ∃ x, ce.X[c]? = some x := ⟨_, List.getElem?_eq_getElem hlt⟩
    have lk := tab_look (hl := hl) ce.X 0 c x tb htb hx
    rw [Nat.zero_add] at lk
    have kk1 := kk.up o1.ext
    have o2 := ho.unbase o1
    refine many_imp (ce := ce) hx (fun h' y hy => g.exm c h' x y hx hy) hl l e1 e2 (fun p' e => ?_) (fun e => ?_)
    · obtain ⟨v, hv, hlk⟩ := lk.1 p' e
      rw [hlk] at hm
      refine ⟨v, hv, fun s a hk hlen => ?_⟩
      cases v with
      | none =>
        have := hk.cnt x hv
        subst this
        exact kk1.ct σ1 S1 φ1 σ' H' Ext.refl hs1 o2 hm
      | some e' =>
        refine ⟨fun q' hq' => ?_, φ1, _, S1, Du.rt, slot_put (a := a) (s := s) hs1, o2, hk.any x e' hv _ _ _ _ hm, fun u S' φ' v' H2 ee oo rr qq => ?_⟩
        · cases s with
          | none => cases hq'
          | some i =>
            cases hq'
            exact List.getElem?_set_self (hlen i rfl)
        · cases s <;> exact kk1.rt u S' φ' v' H2 ee oo rr qq
    · rw [lk.2 e] at hm
      exact ⟨c, σ1, S1, φ1, rfl, rfl, hs1, o2, hm⟩
theorem snd_s : ∀ (m : Nat) (X : Cx) (bs : Hp × List Pl) (ex : XQ) (_ : GoodS G cls k ce X) (_ : Takes X (LW X.K bs cls ex)) (st : Stmt) (c : Sm), cS n ce m st = some c → QS X bs st (wpS (wpC G k) ex c)
  | 0, _, _, _, _, _, _, _, h => nomatch (show (none : Option Sm) = some _ from h)
  | m + 1, X, bs, ex, g, tk, st, c, h => by
    have manyX : ∀ (X : Cx) (bs : Hp × List Pl) (ex : XQ) (_ : GoodS G cls k ce X) (_ : Takes X (LW X.K bs cls ex)) {ss : List Stmt} {l : List Sm}, cB (cS n ce m) ss = some l → QSs X bs ss (wpB (wpC G k) ex l) := by
      intro X bs ex g tk ss
      induction ss with
      | nil => intro l h; cases h; rw [wpB_nil]; exact qss_nil
      | cons e r ih =>
        intro l h
        obtain ⟨a, b, h1, h2, rfl⟩ := cB_cons h
        rw [wpB_cons]
        refine qss_cons ?_ (ih h2)
        rcases h1 with h1 | ⟨_, rfl⟩
        · exact snd_s m X bs ex g tk e a h1
        · exact qs_no
    have many : ∀ {ss : List Stmt} {l : List Sm}, cB (cS n ce m) ss = some l → QSs X bs ss (wpB (wpC G k) ex l) := fun h => manyX X bs ex g tk h
    have E := fun {e : Expr} {c : Ex} (h : cE n ce e = some c) => (snd_all n).e ce e c X bs ex h g.toGood (takesF_of g.frm tk)
    have T := fun {e : Expr} {c : Ex} (h : cE n ce e = some c) => (snd_all n).t ce e c X bs ex h g.toGood (takesF_of g.frm tk)
    cases st with
    | Return v p =>
      cases v with
      | none => simp only [cS] at h; cases h; rw [wpS_retn]; exact qs_retn
      | some e =>
        simp only [cS, Option.map_eq_some_iff] at h
        obtain ⟨e', he, rfl⟩ := h
        rw [wpS_ret]; exact qs_ret (E he)
    | Expr e p =>
      have gen : isCmp e = false → (cE n ce e).map Sm.exp = some c → QS X bs (.Expr e p) (wpS (wpC G k) ex c) := fun hc h => by
        rw [Option.map_eq_some_iff] at h
        obtain ⟨e', he, rfl⟩ := h
        rw [wpS_exp]; exact qs_exp (E he) (swe_plain hc)
      have gen2 : (if isCmp e = true then none else (cE n ce e).map Sm.exp) = some c → QS X bs (.Expr e p) (wpS (wpC G k) ex c) := fun h => by
        split at h
        · cases h
        · rename_i hc
          exact gen (by simpa using hc) h
      cases e with
      | Constant v kk p2 =>
        cases v <;> first
          | exact gen2 (by simpa only [cS] using h)
          | (simp only [cS] at h; cases h; rw [wpS_pass]; exact qs_doc)
      | Call f es kws cpos =>
        cases f with
        | Attribute o at_ apos =>
          simp only [cS] at h
          split at h
          · split at h
            · rename_i hc
              obtain ⟨rfl, hcall, hline, hst⟩ := hc
              simp only [Option.bind_eq_some_iff, Option.map_eq_some_iff] at h
              obtain ⟨o', ho, a', ha, rfl⟩ := h
              rw [wpS_app]
              exact qs_app (E ho) (E ha) (attr_base hcall) (by rw [star_cons hst]; rfl) hline (star_cons hst)
            · exact gen rfl h
          · exact gen rfl h
        | _ => exact gen2 (by simpa only [cS] using h)
      | _ => exact gen2 (by simpa only [cS] using h)
    | Assign ts e p =>
      match ts, h with
      | [tg], h =>
        simp only [cS] at h
        split at h
        · rename_i c' hp
          cases h
          cases tg <;> try (simp only [cAtr] at hp; cases hp; done)
          rename_i o f p2
          cases o <;> try (simp only [cAtr] at hp; cases hp; done)
          rename_i y yp
          simp only [cAtr, Option.bind_eq_some_iff, Option.map_eq_some_iff] at hp
          obtain ⟨c0, hv, i, hi, o', ho, e', he, rfl⟩ := hp
          obtain ⟨CA, kc⟩ := g.vl y c0 hv
          rw [wpS_fset]
          exact qs_fset kc (ixOf_get hi) (E ho) (E he) (by cases e <;> rfl)
        · split at h
          · rename_i c' hp
            cases h
            exact snd_par g tk hp
          · split at h
            · rename_i hc
              simp only [Option.bind_eq_some_iff, Option.map_eq_some_iff] at h
              obtain ⟨t, ht, e', he, rfl⟩ := h
              exact snd_set g tk hc.1 hc.2.1 hc.2.2 ht he
            · cases h
    | AugAssign t o e p =>
      cases t <;> try (simp only [cS] at h; cases h; done)
      · rename_i b f p2
        cases b <;> try (simp only [cS] at h; cases h; done)
        rename_i y yp
        simp only [cS, Option.bind_eq_some_iff, Option.map_eq_some_iff] at h
        obtain ⟨c0, hv, i, hi, p', hp, o', ho, e', he, rfl⟩ := h
        obtain ⟨CA, kc⟩ := g.vl y c0 hv
        rw [wpS_faug]
        cases o <;> simp only [cAug] at hp <;> cases hp
        · exact qs_faug kc (ixOf_get hi) (E ho) (E he) in_add lnk_fadd
        · exact qs_faug kc (ixOf_get hi) (E ho) (E he) in_sub lnk_fsub
      rename_i x px
      simp only [cS] at h
      split at h
      · rename_i hl
        simp only [Option.bind_eq_some_iff, Option.map_eq_some_iff] at h
        obtain ⟨i, hi, o', ho, e', he, rfl⟩ := h
        rw [wpS_aug]
        have i1 : X.N[i]? = some x := by rw [g.N]; exact ixOf_get hi
        have lx : Loc X.env.scope x := by rw [g.sc]; exact loc_of hl
        cases o <;> simp only [cAug] at ho <;> cases ho
        · exact qs_aug g.nd i1 lx (E he) ip_add lnk_iadd (.inl (g.fn x))
        · exact qs_aug g.nd i1 lx (E he) ip_sub lnk_isub (.inl (g.fn x))
      · cases h
    | If t a b p =>
      simp only [cS, Option.bind_eq_some_iff, Option.map_eq_some_iff] at h
      obtain ⟨t', ht, a', ha, b', hb, rfl⟩ := h
      rw [wpS_ifs]; exact qs_if (T ht) (many ha) (many hb)
    | While t b els p =>
      cases els with
      | cons _ _ => simp only [cS] at h; cases h
      | nil =>
        simp only [cS, Option.bind_eq_some_iff, Option.map_eq_some_iff] at h
        obtain ⟨t', ht, b', hb, rfl⟩ := h
        rw [wpS_whl]; exact qs_while g.pass (T ht) (many hb)
    | For tg it b els p =>
      cases els with
      | cons _ _ => simp only [cS] at h; cases h
      | nil =>
        simp only [cS, Option.bind_eq_some_iff, Option.map_eq_some_iff] at h
        obtain ⟨t, ht, ⟨mm, l⟩, hs, b', hb, rfl⟩ := h
        obtain ⟨h1, h2⟩ := snd_src (tg := tg) (snd_all n) g.toGood (takesF_of g.frm tk) hs
        rw [wpS_for]
        exact qs_for g.pass g.calm h1 (snd_tg g tk 5 tg t ht) (many hb) h2
    | Pass p => simp only [cS] at h; cases h; rw [wpS_pass]; exact qs_pass
    | Break p => simp only [cS] at h; cases h; rw [wpS_brk]; exact qs_brk
    | Continue p => simp only [cS] at h; cases h; rw [wpS_cnt]; exact qs_cnt
    | Raise e c2 p =>
      cases c2 with
      | some _ => simp only [cS] at h; cases h
      | none =>
        cases e with
        | none => simp only [cS] at h; cases h
        | some e =>
          cases e <;> try (simp only [cS] at h; cases h; done)
          rename_i f es kws pp
          cases f <;> try (simp only [cS] at h; cases h; done)
          rename_i x px
          match es, kws, h with
          | [.Constant (.str w) kk pc], [], h =>
            simp only [cS] at h
            split at h
            · rename_i hc
              rw [Option.map_eq_some_iff] at h
              obtain ⟨j, hj, rfl⟩ := h
              obtain ⟨A, B, nid, iid, bm, Fb, q, gC, kC, r, hcl⟩ := g.exc j _ (ixOf_get hj)
              rw [wpS_raise]
              exact qs_raise g.calm tk Fb q gC kC r (gl_of g.toGood hc.1) (dbg_of hc.2).1 hcl
            · cases h
    | Try body hds els fin p =>
      match hds, els, fin, h with
      | h0 :: hs, [], [], h =>
        simp only [cS, Option.bind_eq_some_iff, Option.map_eq_some_iff] at h
        obtain ⟨b', hb, hl, hhl, tb, htb, rfl⟩ := h
        exact snd_try g tk hhl htb fun X' bs' ex' eK g' tk' => by
          rw [← eK] at tk' ⊢
          exact manyX X' bs' ex' g' tk' hb
    | _ => simp only [cS] at h; cases h
theorem snd_b (g : GoodS G cls k ce X) (tk : Takes X (LW X.K bs cls ex)) {m : Nat} : ∀ {ss : List Stmt} {l : List Sm}, cB (cS n ce m) ss = some l → QSs X bs ss (wpB (wpC G k) ex l)
  | [], _, h => by cases h; rw [wpB_nil]; exact qss_nil
  | s :: r, _, h => by
    obtain ⟨a, b, h1, h2, rfl⟩ := cB_cons h
    rw [wpB_cons]
    refine qss_cons ?_ (snd_b g tk h2)
    rcases h1 with h1 | ⟨_, rfl⟩
    · exact snd_s m X bs ex g tk s a h1
    · exact qs_no
end
end Ek

namespace Ek
open PySem PySem.Spec PyProof.Rows L2

section
variable {K : PySem.W.Frag} {H H' : Hp} {φ φ' : List Pl} {S S' : Sto}
mutual
theorem bnd_of : ∀ (u : U) (v : V), Rep K H φ u v → u.bnd φ.length = true
  | .non, _, _ => rfl
  | .bl _, _, _ => rfl
  | .int _, _, _ => rfl
  | .str _, _, _ => rfl
  | .fn _, _, _ => rfl
  | .tup us, _, h => by
    cases h with
    | tup p q => simpa [U.bnd] using bnds_of us _ q
  | .fz us, _, h => by
    cases h with
    | fz p q => simpa [U.bnd] using bnds_of us _ q
  | .ref h, _, r => by
    cases r with
    | ref p =>
      have : h < φ.length := by
        rcases Nat.lt_or_ge h φ.length with q | q
        · exact q
        · rw [List.getElem?_eq_none q] at p; cases p
      simpa [U.bnd] using this
  | .obj c h, _, r => by
    cases r with
    | obj p =>
      have : h < φ.length := by
        rcases Nat.lt_or_ge h φ.length with q | q
        · exact q
        · rw [List.getElem?_eq_none q] at p; cases p
      simpa [U.bnd] using this
theorem bnds_of : ∀ (us : List U) (vs : List V), Reps K H φ us vs → U.bnds φ.length us = true
  | [], _, _ => rfl
  | u :: us, _, h => by
    cases h with
    | cons p q => rw [U.bnds, bnd_of u _ p, bnds_of us _ q]; rfl
end
mutual
theorem bnd_mono {m n : Nat} (h : m ≤ n) : ∀ u : U, u.bnd m = true → u.bnd n = true
  | .non, _ => rfl
  | .bl _, _ => rfl
  | .int _, _ => rfl
  | .str _, _ => rfl
  | .fn _, _ => rfl
  | .tup us, q => by simpa [U.bnd] using bnds_mono h us (by simpa [U.bnd] using q)
  | .fz us, q => by simpa [U.bnd] using bnds_mono h us (by simpa [U.bnd] using q)
  | .ref k, q => by
    have : k < m := by simpa [U.bnd] using q
    simpa [U.bnd] using Nat.lt_of_lt_of_le this h
  | .obj _ k, q => by
    have : k < m := by simpa [U.bnd] using q
    simpa [U.bnd] using Nat.lt_of_lt_of_le this h
theorem bnds_mono {m n : Nat} (h : m ≤ n) : ∀ us : List U, U.bnds m us = true → U.bnds n us = true
  | [], _ => rfl
  | u :: us, q => by
    rw [U.bnds, Bool.and_eq_true] at q
    rw [U.bnds, bnd_mono h u q.1, bnds_mono h us q.2]; rfl
end
theorem forget (o : StoOk K (H, φ) H φ S) (o' : StoOk K (H, φ) H' φ' S') {n : Nat} (h1 : S.length ≤ n) (hb : ∀ i ob, i < n → S'[i]? = some ob → S[i]? = some ob ∨ ob.bnd n = true) : StoOk K (H, φ) H' (φ'.take n) (S'.take n) := by
  have hl : φ.length ≤ n := by rw [o.len]; exact h1
  refine ⟨by rw [List.length_take, List.length_take, o'.len], o'.nd.sublist ((List.take_sublist _ _).map _), fun h a ob q1 q2 => ?_, ⟨⟨?_, o'.ext.tup, o'.ext.frz⟩, fun a ob e m => ?_, fun a m q => o'.ext.new a (((List.take_sublist n φ').map Prod.fst).subset m) q⟩⟩
  · have hn : h < n := by
      rcases Nat.lt_or_ge h n with z | z
      · exact z
      · rw [List.getElem?_eq_none (by rw [List.length_take]; omega)] at q2; cases q2
    rw [List.getElem?_take_of_lt hn] at q1 q2
    have z := o'.ob h a ob q1 q2
    have hbd : ob.bnd n = true := by
      rcases hb h ob hn q2 with w | w
      · obtain ⟨a0, _, r0⟩ := o.at_ w
        cases ob with
        | lst us =>
          obtain ⟨vs, rr⟩ := ob_reps r0
          exact bnds_mono hl us (bnds_of us vs rr)
      · exact w
    cases ob with
    | lst us =>
      obtain ⟨a, c⟩ := a
      cases c with
      | none =>
        obtain ⟨vs, e1, rr⟩ := z
        exact ⟨vs, e1, Reps.cut us vs hbd rr⟩
      | some c =>
        obtain ⟨C, dx, vs, e0, e1, e2, e3, rr⟩ := z
        exact ⟨C, dx, vs, e0, e1, e2, e3, Reps.cut us vs hbd rr⟩
  · obtain ⟨r, hr⟩ := o'.ext.pre
    refine ⟨r.take (n - φ.length), ?_⟩
    rw [← hr, List.take_append, List.take_of_length_le hl]
  · by_cases w : a ∈ Ad φ'
    · have na : a ∉ Ad φ := fun z => m (by
        obtain ⟨r, hr⟩ := o'.ext.pre
        rw [← hr, List.take_append, Ad, List.map_append]
        exact List.mem_append_left _ (by rw [List.take_of_length_le hl]; exact z))
      have := o'.ext.new a w na
      rw [show (H, φ).1 = H from rfl] at *
      rw [this] at e; cases e
    · exact o'.ext.oth a ob e w
theorem fin_to {Qu : UQ} {Q : VK} {u : U} {v : V} (o : StoOk K (H, φ) H φ S) (f : Fw K (H, φ) H φ Qu Q) (o' : StoOk K (H, φ) H' φ' S') (r : Rep K H' φ' u v) (h : fin S Qu u S') : Q v H' := by
  rcases h with h | ⟨n, h1, h2, h3, h4, h5⟩
  · exact f u S' φ' v H' o'.ext o' r h
  · have o2 := forget o o' h1 h4
    exact f u _ _ v H' o2.ext o2 (Rep.cut u v h3 r) h5
theorem slot_start {us : List U} {vs : List V} {N : List Str} (r : Reps K H φ us vs) : SlotR K H φ (us.map some ++ List.replicate (N.length - us.length) none) (L2.start N vs) := by
  unfold L2.start
  refine ⟨by simp [r.length], fun i u e => ?_⟩
  rcases Nat.lt_or_ge i us.length with h | h
  · rw [List.getElem?_append_left (by simpa using h), List.getElem?_map] at e
    obtain ⟨w, hw, e2⟩ := Option.map_eq_some_iff.mp e
    cases e2
    obtain ⟨v, hv, rv⟩ := r.get hw
    refine ⟨v, ?_, rv⟩
    rw [List.getElem?_append_left (by rw [List.length_map, ← r.length]; exact h), List.getElem?_map, hv]
    rfl
  · rw [List.getElem?_append_right (by simpa using h), List.getElem?_replicate] at e
    split at e <;> cases e
end

/-- a def of the text and the small language's def -/
structure Dc (F : List Str) (gl : List (Str × GV)) (xs : List Str) (kl : List (Str × Cl)) (M : List (Str × Str)) (d : Df) (st : Stmt) : Prop where
  sc : FnScope d.N d.ps (defScope st)
  body : cB (cS 40 ⟨d.N, defScope st, F, gl, xs, d.vc, kl, M⟩ 40) (defBody st) = some d.body
/-- a def as it stands behind the top -/
structure F1 (K : PySem.W.Frag) (mg : Str → Option Value) (d : Df) (st : Stmt) (a : Addr) (fd : FuncData) : Prop where
  fn : Fun K d.name d.name st a fd
  mgd : mg d.name = some (.ref a)
  bd : Binds K fd d.ps []
  ns : FnAt K d.name a
/-- a method as it stands behind the top -/
structure M1 (K : PySem.W.Frag) (cn m : Str) (d : Df) (st : Stmt) (CA a : Addr) (fd : FuncData) : Prop where
  at_ : FnAt K cn CA
  fn : Fun K d.sn d.name st a fd
  bd : Binds K fd d.ps []
  is_ : (m ≠ "__init__" ∧ d.ini = false ∧ Meth K CA m a) ∨ (m = "__init__" ∧ d.ini = true ∧ Mk K CA a)
/-- all that the top has left -/
structure Top (K : PySem.W.Frag) (mg : Str → Option Value) (G : List Df) (sts : List Stmt) (gl : List (Str × GV)) (xs : List Str) (cls : Nat → Value) (F : List Str) (kl : List (Str × Cl)) (M : List (Str × Str)) : Prop where
  len : sts.length = G.length
  dc : ∀ (g : Nat) (d : Df) (st : Stmt), G[g]? = some d → sts[g]? = some st → Dc F gl xs kl M d st
  fs : ∀ (g : Nat) (x : Str), F[g]? = some x → ∃ d st a fd, G[g]? = some d ∧ sts[g]? = some st ∧ d.name = x ∧ d.ini = false ∧ F1 K mg d st a fd
  ms : ∀ (j : Nat) (cn m : Str), M[j]? = some (cn, m) → ∃ d st CA a fd, G[F.length + j]? = some d ∧ sts[F.length + j]? = some st ∧ M1 K cn m d st CA a fd
  kls : ∀ (x : Str) (c : Cl), kl.lookup x = some c → ∃ CA, CC K mg c CA
  vls : ∀ (g : Nat) (d : Df) (y : Str) (c : Cl), G[g]? = some d → d.vc.lookup y = some c → ∃ CA, CC K mg c CA
  nsm : ∀ (x : Str) (a : Addr), FnAt K x a → mg x = some (.ref a)
  blt : ∀ x ∈ bltNames, x ∉ F → mg x = none
  gl : ∀ (x : Str) (g : GV), gl.lookup x = some g → ∃ u, mg x = some u ∧ g.rel K u
  exc : ∀ (c : Nat) (x : Str), xs[c]? = some x → ∃ A B newId initId bmB, ExcBaseFacts B newId initId bmB ∧ PySem.W.excIn K A bmB newId = true ∧ mg x = some (.ref A) ∧ PySem.W.keepIn K (.ref A) = true ∧
    (PySem.W.subIn K (.ref A) (.type "BaseException") = some true ∧ PySem.W.typeIn K (.ref A) = some (.type "type")) ∧ cls c = .ref A
  exm : ∀ (c h : Nat) (x y : Str), xs[c]? = some x → xs[h]? = some y → PySem.W.exmOne K (cls c) (cls h) = some (subX x y)
  kit : xs.contains ("EchelonError" : Str) = true → ∀ (c : Nat) (x : Str), xs[c]? = some x → ∃ D, cls c = .ref D ∧ ExcC K D ∧ (∀ (h : Nat) (y : Str), xs[h]? = some y → PySem.W.kitOne K (.ref D) (cls h) = some (subX x y)) ∧ PySem.W.kitOne K (.ref D) (.type "ValueError") = some true
section
variable {P : Program} {w : World} {K : PySem.W.Frag} {mg : Str → Option Value} {base : Heap} {G : List Df} {sts : List Stmt} {gl : List (Str × GV)} {xs : List Str} {cls : Nat → Value} {F : List Str} {kl : List (Str × Cl)} {M : List (Str × Str)}
theorem spC_len {C : CallS} {g : Nat} {ps : List Str} (h : ∀ us S Q E, C g us S Q E → us.length = ps.length) : ∀ vs H Q E, spC K cls C g vs H Q E → vs.length = ps.length := fun vs H Q E ⟨φ, us, S, Qu, Eu, r, o, q, _⟩ => by
  rw [← r.length]; exact h us S Qu Eu q
/-- at which level a def keeps its promise -/
def lvl (d : Df) (k : Nat) : Nat := if d.ini = true then k - 1 else k
/-- a body whose callees keep theirs -/
theorem body_fn (T : Top K mg G sts gl xs cls F kl M) {j : Nat} (ih : ∀ (g : Nat) (d : Df) (st : Stmt) (a : Addr) (fd : FuncData) (nm : Str), G[g]? = some d → sts[g]? = some st → Fun K nm d.name st a fd → FnOk P w K mg base (L2.CX P w) (lvl d j) a fd d.ps (spC K cls (wpC G j) g))
    {g : Nat} {d : Df} {st : Stmt} {a : Addr} {fd : FuncData} {nm : Str} (hd : G[g]? = some d) (hst : sts[g]? = some st) (f : Fun K nm d.name st a fd) {W : CallS}
    (hW : ∀ us S Q E, W g us S Q E → us.length = d.ps.length ∧ wpB (wpC G j) (fun c _ S' => E c S') d.body { nx := fun _ S' => fin S Q .non S', rt := fin S Q } (us.map some ++ List.replicate (d.N.length - us.length) none) S) :
    FnOk P w K mg base (L2.CX P w) (j + 1) a fd d.ps (spC K cls W g) := by
  have D := T.dc g d st hd hst
  refine f.okX D.sc (spC_len fun us S Q E h => (hW us S Q E h).1) fun cdv A outer s H vs Q E hr h => ?_
  obtain ⟨φ, us, S, Qu, Eu, r, o, q, fw, fe⟩ := h
  obtain ⟨hl, q⟩ := hW _ _ _ _ q
  generalize hX : cxOf (L2.CX P w) P w K mg base d.N d.name (defScope st) a cdv A outer s H E = X
  have tk0 : Takes X (fun cls d _ H => E cls d H) := by subst hX; exact takes_of rfl rfl rfl rfl
  have hK : X.K = K := by subst hX; rfl
  have tk : Takes X (LW X.K (H, φ) cls fun c _ S' => Eu c S') := by
    rw [hK]
    exact Takes.imp tk0 fun cl dd σ H' ⟨c, σu, S', φ', e1, e2, _, o', q'⟩ => by
      subst e1; subst e2
      exact fe c S' φ' H' o' q'
  have good : GoodS G cls j ⟨d.N, defScope st, F, gl, xs, d.vc, kl, M⟩ X := by
    subst hX
    refine ⟨⟨rfl, D.sc.nd, rfl, rfl, hr, fun g' x hx => ?_, T.nsm, T.blt, T.gl, fun y c h => T.vls g d y c hd h, T.kls, fun i cn m hm => ?_, ⟨_, _, _, rfl, rfl, rfl⟩⟩, rfl, rfl, T.exm, T.kit, fun _ => rfl, passes_of rfl, fun c x hx => ?_⟩
    · obtain ⟨d2, st2, a2, fd2, hd2, hs2, rfl, hi2, f2⟩ := T.fs g' x hx
      have z := ih g' d2 st2 a2 fd2 _ hd2 hs2 f2.fn
      rw [show lvl d2 j = j by unfold lvl; rw [hi2]; rfl] at z
      exact ⟨a2, fd2, d2.ps, f2.mgd, f2.fn.kp, f2.bd, z, f2.ns⟩
    · obtain ⟨d2, st2, CA, a2, fd2, hd2, hs2, f2⟩ := T.ms i cn m hm
      have z := ih _ d2 st2 a2 fd2 _ hd2 hs2 f2.fn
      refine ⟨CA, a2, fd2, d2.ps, f2.at_, f2.bd, ?_⟩
      rcases f2.is_ with ⟨h1, h2, h3⟩ | ⟨h1, h2, h3⟩
      · rw [show lvl d2 j = j by unfold lvl; rw [h2]; rfl] at z
        exact .inl ⟨h1, h3, z⟩
      · refine .inr ⟨h1, h3, fun i' e => ?_⟩
        rw [show lvl d2 j = i' by unfold lvl; rw [h2, if_pos rfl]; omega] at z
        exact z
    · obtain ⟨A2, B, nid, iid, bm, h1, h2, h3, h4, ⟨h5, h6⟩, h7⟩ := T.exc c x hx
      exact ⟨A2, B, nid, iid, bm, h1, h2, h3, h4, raises_own h5 h6, h7⟩
  refine ⟨_, snd_b good tk D.body, ?_⟩
  rw [hK]
  refine ⟨φ, _, S, _, slot_start r, o, q, ⟨fun σu' S' φ' σ' H' e s' o' q' => ?_, fun u S' φ' v H' e o' r' q' => fin_to o fw o' r' q', fun _ _ _ _ _ _ _ _ z => z.elim, fun _ _ _ _ _ _ _ _ z => z.elim⟩⟩
  exact fin_to o fw o' .non q'
theorem no_fn {a : Addr} {fd : FuncData} {ps : List Str} {sp : Sp} (h : ∀ vs H Q E, ¬ sp vs H Q E) : FnOk P w K mg base (L2.CX P w) 0 a fd ps sp :=
  ⟨fun vs H Q E q => (h vs H Q E q).elim, fun A outer s H args us vs Q E hr e0 hb r q => (h vs H Q E q).elim⟩
theorem all_fns (T : Top K mg G sts gl xs cls F kl M) : ∀ (k g : Nat) (d : Df) (st : Stmt) (a : Addr) (fd : FuncData) (nm : Str), G[g]? = some d → sts[g]? = some st → Fun K nm d.name st a fd → FnOk P w K mg base (L2.CX P w) (lvl d k) a fd d.ps (spC K cls (wpC G k) g) := by
  intro k
  induction k using Nat.strongRecOn with
  | ind k ih =>
    intro g d st a fd nm hd hst f
    match k, ih with
    | 0, _ =>
      rw [show lvl d 0 = 0 by unfold lvl; split <;> rfl]
      exact no_fn fun vs H Q E ⟨φ, us, S, Qu, Eu, r, o, q, _⟩ => q.elim
    | 1, ih =>
      cases hi : d.ini with
      | true =>
        rw [show lvl d 1 = 0 by unfold lvl; rw [hi]; rfl]
        refine no_fn fun vs H Q E ⟨φ, us, S, Qu, Eu, r, o, q, _⟩ => ?_
        obtain ⟨d', e, _, h2, _⟩ := q
        rw [hd] at e
        cases e
        rw [hi] at h2; cases h2
      | false =>
        rw [show lvl d 1 = 0 + 1 by unfold lvl; rw [hi]; rfl]
        refine body_fn T (j := 0) (fun g d st a fd nm h1 h2 h3 => ih 0 (by omega) g d st a fd nm h1 h2 h3) hd hst f fun us S Q E ⟨d', e, h1, _, h3⟩ => ?_
        rw [hd] at e
        cases e
        exact ⟨h1, h3⟩
    | k + 2, ih =>
      cases hi : d.ini with
      | true =>
        rw [show lvl d (k + 2) = k + 1 by unfold lvl; rw [hi]; rfl]
        refine body_fn T (j := k) (fun g d st a fd nm h1 h2 h3 => ih k (by omega) g d st a fd nm h1 h2 h3) hd hst f fun us S Q E ⟨d', e, h1, h3⟩ => ?_
        rw [hd] at e
        cases e
        rw [hi, if_pos rfl] at h3
        exact ⟨h1, h3⟩
      | false =>
        rw [show lvl d (k + 2) = k + 1 + 1 by unfold lvl; rw [hi]; rfl]
        refine body_fn T (j := k + 1) (fun g d st a fd nm h1 h2 h3 => ih (k + 1) (by omega) g d st a fd nm h1 h2 h3) hd hst f fun us S Q E ⟨d', e, h1, h3⟩ => ?_
        rw [hd] at e
        cases e
        rw [hi, if_neg Bool.false_ne_true] at h3
        exact ⟨h1, h3⟩
theorem sql_fz {H : Hp} {a : Addr} {vs : List V} (hO : Only H) (h : SqL K H a vs) : Fz K H a vs := by
  rcases h with (h | h) | h
  · rcases hO a with z | ⟨o, ys, z⟩
    · rw [z] at h; cases h
    · rw [z] at h; cases h
  · exact .inl h
  · exact .inr h
theorem reps_ints {H : Hp} {φ : List Pl} : ∀ ns : List Int, Reps K H φ (ns.map U.int) (ns.map V.int)
  | [] => .nil
  | i :: ns => .cons (.int i) (reps_ints ns)
/-- the law's promise, from what the small language says -/
theorem law_sp {k L : Nat} {H : Hp} {a : Addr} {ns : List Int} (hO : Only H) (hS : SqL K H a (ns.map V.int)) (h : wpC G k L [.fz (ns.map U.int)] [] (fun u _ => u = .bl true) (fun _ _ => False)) :
    spC K cls (wpC G k) L [.ref a] H (fun v _ => v = .bl true) fun _ _ _ => False :=
  ⟨[], _, [], _, _, .cons (.fz (sql_fz hO hS) (reps_ints ns)) .nil, ⟨rfl, List.nodup_nil, fun h a o e => by simp at e, Ext.refl⟩, h, fun u S' φ' v H' _ _ r q => by
    subst q
    cases r
    rfl, fun _ _ _ _ _ z => z.elim⟩
end
end Ek
namespace Ek
open PySem PySem.Spec PyProof.Rows L2
theorem exm_ref {K : PySem.W.Frag} {a c : Addr} {b : Bool} (h1 : PySem.W.subIn K (.ref c) (.type "BaseException") = some true) (h2 : PySem.W.isClsIn K c = true) (h3 : PySem.W.typeIn K (.ref c) = some (.type "type")) (h4 : PySem.W.subIn K (.ref a) (.ref c) = some b) : PySem.W.exmOne K (.ref a) (.ref c) = some b := by
  unfold PySem.W.exmOne PySem.W.kitCls
  unfold PySem.W.isClsIn at h2
  simp [h1, h2, h3, h4]
theorem kit_ref {K : PySem.W.Frag} {a c : Addr} {b : Bool} (h0 : PySem.W.subIn K (.ref a) (.ref a) = some true) (h2 : PySem.W.isClsIn K c = true) (h3 : PySem.W.typeIn K (.ref c) = some (.type "type")) (h4 : PySem.W.subIn K (.ref a) (.ref c) = some b) : PySem.W.kitOne K (.ref a) (.ref c) = some b := by
  unfold PySem.W.kitOne
  split
  · rename_i e
    have : a = c := by
      have := eq_of_beq e
      cases this; rfl
    subst this
    rw [← h4, h0]
  · unfold PySem.W.kitCls
    unfold PySem.W.isClsIn at h2
    simp [h2, h3, h4]
theorem kit_ve {K : PySem.W.Frag} {a : Addr} (h : PySem.W.subIn K (.ref a) (.type "ValueError") = some true) : PySem.W.kitOne K (.ref a) (.type "ValueError") = some true := by
  unfold PySem.W.kitOne
  rw [if_neg (by intro e; have := eq_of_beq e; cases this)]
  show (if PySem.W.kitMeta "ValueError" = true then PySem.W.subIn K (.ref a) (.type "ValueError") else none) = some true
  rw [if_pos (by decide +kernel)]
  exact h
def clsOf (l : List Addr) (c : Nat) : Value := match l[c]? with
  | some a => .ref a
  | none => .none
theorem cx_none {P : Program} {w : World} {H : Hp} {s s' : Shared} {e : Value} (h : L2.CX P w [] H s (fun _ _ _ => False) e s') : False := by
  obtain ⟨_, _, _, _, _, _, _, _, _, _, _, _, z⟩ := h
  exact z.elim
/-- a call, entered -/
theorem enter {G : List Df} {k f : Nat} {d : Df} {us : List U} {S : Sto} {Q : UQ} {E : Nat → Sto → Prop} (hd : G[f]? = some d) (hl : us.length = d.ps.length)
    (h : wpB (wpC G k) (fun c _ S' => E c S') d.body { nx := fun _ S' => fin S Q .non S', rt := fin S Q } (us.map some ++ List.replicate (d.N.length - us.length) none) S) (hi : d.ini = false := by rfl) : wpC G (k + 1) f us S Q E := by
  cases k with
  | zero => exact ⟨d, hd, hl, hi, h⟩
  | succ k => exact ⟨d, hd, hl, by rw [hi, if_neg Bool.false_ne_true]; exact h⟩
theorem fin_id {S : Sto} {Q : UQ} {u : U} {S' : Sto} (h : Q u S') : fin S Q u S' := .inl h
end Ek

namespace Ek
open PySem PySem.Spec PyProof.Rows L2
theorem B_cons {C : CallS} {ex : XQ} {s : Sm} {r : List Sm} {D : EndU} {σ : Sl} {S : Sto} (h : wpS C ex s { D with nx := wpB C ex r D } σ S) : wpB C ex (s :: r) D σ S := by rw [wpB_cons]; exact h
section
variable {u0 u1 u2 u3 u4 u5 u6 u7 u8 u9 : U} {r : List U}
theorem at0 : atU (u0 :: r) 0 = some u0 := rfl
theorem at1 : atU (u0 :: u1 :: r) 1 = some u1 := rfl
theorem at2 : atU (u0 :: u1 :: u2 :: r) 2 = some u2 := rfl
theorem at3 : atU (u0 :: u1 :: u2 :: u3 :: r) 3 = some u3 := rfl
theorem at4 : atU (u0 :: u1 :: u2 :: u3 :: u4 :: r) 4 = some u4 := rfl
theorem at5 : atU (u0 :: u1 :: u2 :: u3 :: u4 :: u5 :: r) 5 = some u5 := rfl
theorem at6 : atU (u0 :: u1 :: u2 :: u3 :: u4 :: u5 :: u6 :: r) 6 = some u6 := rfl
theorem at7 : atU (u0 :: u1 :: u2 :: u3 :: u4 :: u5 :: u6 :: u7 :: r) 7 = some u7 := rfl
theorem at8 : atU (u0 :: u1 :: u2 :: u3 :: u4 :: u5 :: u6 :: u7 :: u8 :: r) 8 = some u8 := rfl
theorem at9 : atU (u0 :: u1 :: u2 :: u3 :: u4 :: u5 :: u6 :: u7 :: u8 :: u9 :: r) 9 = some u9 := rfl
theorem ix0 {n : Nat} : L2.ixN (n + 1) 0 = some 0 := by unfold L2.ixN; rw [if_pos (by omega), if_pos (by omega)]; rfl
theorem ix1 {n : Nat} : L2.ixN (n + 1 + 1) 1 = some 1 := by unfold L2.ixN; rw [if_pos (by omega), if_pos (by omega)]; rfl
theorem ix2 {n : Nat} : L2.ixN (n + 1 + 1 + 1) 2 = some 2 := by unfold L2.ixN; rw [if_pos (by omega), if_pos (by omega)]; rfl
theorem ix3 {n : Nat} : L2.ixN (n + 1 + 1 + 1 + 1) 3 = some 3 := by unfold L2.ixN; rw [if_pos (by omega), if_pos (by omega)]; rfl
theorem ix4 : L2.ixN 4 2 = some 2 := rfl
theorem ix5 : L2.ixN 4 3 = some 3 := rfl
theorem ix6 : L2.ixN 4 1 = some 1 := rfl
end
/-- the script's numbers -/
def An (ns : List Int) : Ob := .lst (ns.map U.int)
/-- the cell that the draws live in -/
def Cb (ns : List Int) (B : Ob) : Prop := ∃ (p : Nat) (m c : Int), B = .lst [.ref 1, .int p, .int m, .int c] ∧ p ≤ ns.length
theorem Cb.bnd {ns : List Int} {B : Ob} (h : Cb ns B) {n : Nat} (hn : 1 < n) : B.bnd n = true := by
  obtain ⟨p, m, c, rfl, _⟩ := h
  simp [Ob.bnd, Ob.items, U.bnds, U.bnd, hn]
/-- lists made in a call are forgotten; the cell has changed -/
theorem fin_cell {ns : List Int} {A A' B B' : Ob} {R T : Sto} {Q : UQ} {u : U} (hB : Cb ns B') (hu : u.bnd (R.length + 3) = true) (h : Q u (A :: A' :: B' :: R)) : fin (A :: A' :: B :: R) Q u (A :: A' :: B' :: (R ++ T)) := by
  refine .inr ⟨R.length + 3, by simp, by simp, hu, fun i o hi e => ?_, ?_⟩
  · match i, e with
    | 0, e => exact .inl e
    | 1, e => exact .inl e
    | 2, e =>
      right
      simp at e
      subst e
      exact hB.bnd (by omega)
    | i + 3, e =>
      left
      simp only [List.getElem?_cons_succ] at e ⊢
      rw [List.getElem?_append_left (by omega)] at e
      exact e
  · have : (A :: A' :: B' :: (R ++ T)).take (R.length + 3) = A :: A' :: B' :: R := by simp
    rw [this]; exact h
/-- the same for any store that stays -/
theorem fin_keep {S T : Sto} {Q : UQ} {u : U} (hu : u.bnd S.length = true) (h : Q u S) : fin S Q u (S ++ T) := by
  refine .inr ⟨S.length, Nat.le_refl _, by simp, hu, fun i o hi e => ?_, by simpa using h⟩
  rw [List.getElem?_append_left hi] at e
  exact .inl e
theorem mulS {i j : Int} (h : (-(2 ^ 64) < i ∧ i < 2 ^ 64) ∨ (-(2 ^ 64) < j ∧ j < 2 ^ 64)) : IntMulOk i j := L2.CMul.ok h
theorem mulB {i j : Int} {a b : Nat} (ha : i.natAbs < 2 ^ a) (hb : j.natAbs < 2 ^ b) (h0 : 0 < a := by decide) (h1 : 0 < b := by decide) (h : a + b ≤ 1000000 := by decide) : IntMulOk i j := (L2.wide_mul ha hb h0 h1 h).ok
theorem atI_map {ns : List Int} {p : Nat} (h : p < ns.length) : atU (ns.map U.int) (p : Int) = some (.int ns[p]) := by
  unfold atU
  rw [if_pos (by omega)]
  simp [h]
theorem at_last {ns : List Int} (h : ns ≠ []) : ∃ i, atU (ns.map U.int) (-1) = some (.int i) := by
  have hl : 0 < ns.length := List.length_pos_iff.mpr h
  unfold atU
  rw [if_neg (by omega), if_pos (by simp; omega)]
  have e : ((-1 : Int) + ((ns.map U.int).length : Int)).toNat = ns.length - 1 := by simp; omega
  rw [e, List.getElem?_map, List.getElem?_eq_getElem (by omega)]
  exact ⟨_, rfl⟩
theorem fmod_lt {a b : Int} (h : 0 < b) : Int.fmod a b < b := Int.fmod_lt_of_pos a h
theorem fmod_nn {a b : Int} (h : 0 < b) : 0 ≤ Int.fmod a b := Int.fmod_nonneg_of_pos a h
section
variable {b b2 : Bool} {i j : Int} {x y : Str} {us vs : List U} {h g : Nat} {u v w : U} {S : Sto} {n : Bool}
theorem addU_ii {Q : UQ} : addU (.int i) (.int j) S Q = (Q (.int (i + j)) S) := rfl
theorem addU_ss {Q : UQ} : addU (.str x) (.str y) S Q = (x.length + y.length ≤ big ∧ Q (.str (x ++ y)) S) := rfl
theorem addU_tt {Q : UQ} : addU (.tup us) (.tup vs) S Q = (us.length + vs.length ≤ big ∧ Q (.tup (us ++ vs)) S) := rfl
theorem addU_rr {Q : UQ} : addU (.ref h) (.ref g) S Q = (∃ us vs, S[h]? = some (.lst us) ∧ S[g]? = some (.lst vs) ∧ us.length + vs.length ≤ big ∧ Q (.ref S.length) (S ++ [.lst (us ++ vs)])) := rfl
theorem mulU_ii {Q : UQ} : mulU (.int i) (.int j) S Q = (IntMulOk i j ∧ Q (.int (i * j)) S) := rfl
theorem mulU_ri {Q : UQ} : mulU (.ref h) (.int i) S Q = (∃ us, S[h]? = some (.lst us) ∧ -(2 ^ 62) ≤ i ∧ i < 2 ^ 62 ∧ us.length * i.toNat ≤ big ∧ Q (.ref S.length) (S ++ [.lst (List.replicate i.toNat us).flatten])) := rfl
theorem ari_ii {Q : UQ} {C : Int → Int → Prop} {f : Int → Int → Int} : ari C f (.int i) (.int j) S Q = (C i j ∧ Q (.int (f i j)) S) := rfl
theorem negU_i {Q : UQ} : negU (.int i) S Q = (Q (.int (-i)) S) := rfl
theorem cmI_ii {Q : BQ} {p : Int → Int → Bool} : cmI p (.int i) (.int j) S Q = (Q (p i j) S) := rfl
theorem eqU_ii {Q : BQ} : eqU n (.int i) (.int j) S Q = (Q (xor n (decide (i = j))) S) := rfl
theorem eqU_ss {Q : BQ} : eqU n (.str x) (.str y) S Q = (Q (xor n (decide (x = y))) S) := rfl
theorem eqU_rr {Q : BQ} : eqU n (.ref h) (.ref g) S Q = (∃ o p, S[h]? = some o ∧ S[g]? = some p ∧ ((U.dats 60 o.items = true ∧ U.dats 60 p.items = true ∧ Q (xor n (U.eqvs o.items p.items)) S) ∨ ∃ us vs, nestU S o.items = some us ∧ nestU S p.items = some vs ∧ datss us = true ∧ datss vs = true ∧ Q (xor n (eqvss us vs)) S)) := rfl
theorem mulU_ti {Q : UQ} : mulU (.tup us) (.int i) S Q = (us ≠ [] ∧ -(2 ^ 62) ≤ i ∧ i ≤ 1000 ∧ us.length ≤ 1000 ∧ Q (.tup (List.replicate i.toNat us).flatten) S) := rfl
theorem biU_int1b {Q : UQ} : biU .int1 [.bl b] S Q = (Q (.int (if b then 1 else 0)) S) := rfl
theorem eqU_non {Q : BQ} : eqU n .non u S Q = (U.dat 60 .non = true ∧ U.dat 60 u = true ∧ Q (xor n (U.eqv .non u)) S) := by cases u <;> rfl
theorem eqU_bl {Q : BQ} : eqU n (.bl b) u S Q = (U.dat 60 (.bl b) = true ∧ U.dat 60 u = true ∧ Q (xor n (U.eqv (.bl b) u)) S) := by cases u <;> rfl
theorem eqU_tup {Q : BQ} : eqU n (.tup us) u S Q = (U.dat 60 (.tup us) = true ∧ U.dat 60 u = true ∧ Q (xor n (U.eqv (.tup us) u)) S) := by cases u <;> rfl
theorem eqU_int_non {Q : BQ} : eqU n (.int i) .non S Q = (U.dat 60 (.int i) = true ∧ U.dat 60 .non = true ∧ Q (xor n (U.eqv (.int i) .non)) S) := rfl
theorem eqU_int_bl {Q : BQ} : eqU n (.int i) (.bl b) S Q = (U.dat 60 (.int i) = true ∧ U.dat 60 (.bl b) = true ∧ Q (xor n (U.eqv (.int i) (.bl b))) S) := rfl
theorem eqU_int_tup {Q : BQ} : eqU n (.int i) (.tup us) S Q = (U.dat 60 (.int i) = true ∧ U.dat 60 (.tup us) = true ∧ Q (xor n (U.eqv (.int i) (.tup us))) S) := rfl
theorem eqU_int_str {Q : BQ} : eqU n (.int i) (.str x) S Q = (U.dat 60 (.int i) = true ∧ U.dat 60 (.str x) = true ∧ Q (xor n (U.eqv (.int i) (.str x))) S) := rfl
theorem eqU_str_non {Q : BQ} : eqU n (.str x) .non S Q = (U.dat 60 (.str x) = true ∧ U.dat 60 .non = true ∧ Q (xor n (U.eqv (.str x) .non)) S) := rfl
theorem eqU_str_bl {Q : BQ} : eqU n (.str x) (.bl b) S Q = (U.dat 60 (.str x) = true ∧ U.dat 60 (.bl b) = true ∧ Q (xor n (U.eqv (.str x) (.bl b))) S) := rfl
theorem eqU_str_tup {Q : BQ} : eqU n (.str x) (.tup us) S Q = (U.dat 60 (.str x) = true ∧ U.dat 60 (.tup us) = true ∧ Q (xor n (U.eqv (.str x) (.tup us))) S) := rfl
theorem eqU_str_int {Q : BQ} : eqU n (.str x) (.int i) S Q = (U.dat 60 (.str x) = true ∧ U.dat 60 (.int i) = true ∧ Q (xor n (U.eqv (.str x) (.int i))) S) := rfl
theorem truU_non {Q : BQ} : truU .non S Q = (Q false S) := rfl
theorem truU_bl {Q : BQ} : truU (.bl b) S Q = (Q b S) := rfl
theorem truU_int {Q : BQ} : truU (.int i) S Q = (Q (i != 0) S) := rfl
theorem truU_str {Q : BQ} : truU (.str x) S Q = (x.length ≤ big ∧ Q ((x.length : Int) != 0) S) := rfl
theorem truU_tup {Q : BQ} : truU (.tup us) S Q = (Q (!us.isEmpty) S) := rfl
theorem truU_ref {Q : BQ} : truU (.ref h) S Q = (∃ o, S[h]? = some o ∧ Q (!o.items.isEmpty) S) := rfl
theorem truU_fz {Q : BQ} : truU (.fz us) S Q = (Q (!us.isEmpty) S) := rfl
theorem isN_non  : isN .non = (true) := rfl
theorem isN_bl  : isN (.bl b) = (false) := rfl
theorem isN_int  : isN (.int i) = (false) := rfl
theorem isN_str  : isN (.str x) = (false) := rfl
theorem isN_tup  : isN (.tup us) = (false) := rfl
theorem isN_ref  : isN (.ref h) = (false) := rfl
theorem isN_fz  : isN (.fz us) = (false) := rfl
theorem isP_non  : isP .non = (true) := rfl
theorem isP_bl  : isP (.bl b) = (false) := rfl
theorem isP_int  : isP (.int i) = (true) := rfl
theorem isP_str  : isP (.str x) = (false) := rfl
theorem isP_tup  : isP (.tup us) = (false) := rfl
theorem isP_ref  : isP (.ref h) = (false) := rfl
theorem ixU_ti {Q : UQ} : ixU (.tup us) (.int i) S Q = (∃ u, atU us i = some u ∧ Q u S) := rfl
theorem ixU_fi {Q : UQ} : ixU (.fz us) (.int i) S Q = (∃ u, atU us i = some u ∧ Q u S) := rfl
theorem ixU_ri {Q : UQ} : ixU (.ref h) (.int i) S Q = (∃ o u, S[h]? = some o ∧ atU o.items i = some u ∧ Q u S) := rfl
theorem slU_t {Q : UQ} : slU (.tup us) u v S Q = (∃ a b, cutB us.length 0 u = some a ∧ cutB us.length us.length v = some b ∧ Q (.tup ((us.drop a).take (b - a))) S) := rfl
theorem slU_f {Q : UQ} : slU (.fz us) u v S Q = (∃ a b, cutB us.length 0 u = some a ∧ cutB us.length us.length v = some b ∧ Q (.ref S.length) (S ++ [.lst ((us.drop a).take (b - a))])) := rfl
theorem slU_r {Q : UQ} : slU (.ref h) u v S Q = (∃ o a b, S[h]? = some o ∧ cutB o.items.length 0 u = some a ∧ cutB o.items.length o.items.length v = some b ∧ Q (.ref S.length) (S ++ [.lst ((o.items.drop a).take (b - a))])) := rfl
theorem revU_t {Q : UQ} : revU (.tup us) S Q = (Q (.tup us.reverse) S) := rfl
theorem revU_r {Q : UQ} : revU (.ref h) S Q = (∃ o, S[h]? = some o ∧ Q (.ref S.length) (S ++ [.lst o.items.reverse])) := rfl
theorem isT_int_non  : isT .int .non S = (some false) := rfl
theorem isT_int_bl  : isT .int (.bl b) S = (some true) := rfl
theorem isT_int_int  : isT .int (.int i) S = (some true) := rfl
theorem isT_int_str  : isT .int (.str x) S = (some false) := rfl
theorem isT_int_tup  : isT .int (.tup us) S = (some false) := rfl
theorem isT_int_ref  : isT .int (.ref h) S = (some false) := rfl
theorem isT_bool_non  : isT .bool .non S = (some false) := rfl
theorem isT_bool_bl  : isT .bool (.bl b) S = (some true) := rfl
theorem isT_bool_int  : isT .bool (.int i) S = (some false) := rfl
theorem isT_bool_str  : isT .bool (.str x) S = (some false) := rfl
theorem isT_bool_tup  : isT .bool (.tup us) S = (some false) := rfl
theorem isT_bool_ref  : isT .bool (.ref h) S = (some false) := rfl
theorem isT_str_non  : isT .str .non S = (some false) := rfl
theorem isT_str_bl  : isT .str (.bl b) S = (some false) := rfl
theorem isT_str_int  : isT .str (.int i) S = (some false) := rfl
theorem isT_str_str  : isT .str (.str x) S = (some true) := rfl
theorem isT_str_tup  : isT .str (.tup us) S = (some false) := rfl
theorem isT_str_ref  : isT .str (.ref h) S = (some false) := rfl
theorem isT_tuple_non  : isT .tuple .non S = (some false) := rfl
theorem isT_tuple_bl  : isT .tuple (.bl b) S = (some false) := rfl
theorem isT_tuple_int  : isT .tuple (.int i) S = (some false) := rfl
theorem isT_tuple_str  : isT .tuple (.str x) S = (some false) := rfl
theorem isT_tuple_tup  : isT .tuple (.tup us) S = (some true) := rfl
theorem isT_tuple_ref  : isT .tuple (.ref h) S = (some false) := rfl
theorem isT_list_non  : isT .list .non S = (some false) := rfl
theorem isT_list_bl  : isT .list (.bl b) S = (some false) := rfl
theorem isT_list_int  : isT .list (.int i) S = (some false) := rfl
theorem isT_list_str  : isT .list (.str x) S = (some false) := rfl
theorem isT_list_tup  : isT .list (.tup us) S = (some false) := rfl
theorem isT_list_ref  : isT .list (.ref h) S = (some true) := rfl
theorem lenU_t  : lenU (.tup us) S = (some us.length) := rfl
theorem lenU_f  : lenU (.fz us) S = (some us.length) := rfl
theorem lenU_r  : lenU (.ref h) S = (S[h]?.map (·.items.length)) := rfl
theorem lenU_s  : lenU (.str x) S = (if x.length ≤ big then some x.length else none) := rfl
theorem itemsU_t  : itemsU (.tup us) S = (some us) := rfl
theorem itemsU_f  : itemsU (.fz us) S = (some us) := rfl
theorem itemsU_r  : itemsU (.ref h) S = (S[h]?.map (·.items)) := rfl
theorem biU_abs {Q : UQ} : biU .abs [.int i] S Q = (Q (.int (if i < 0 then -i else i)) S) := rfl
theorem biU_len {Q : UQ} : biU .len [u] S Q = (∃ n, lenU u S = some n ∧ Q (.int n) S) := rfl
theorem biU_min2 {Q : UQ} : biU .min2 [.int i, .int j] S Q = (Q (.int (if j < i then j else i)) S) := rfl
theorem biU_max2 {Q : UQ} : biU .max2 [.int i, .int j] S Q = (Q (.int (if j > i then j else i)) S) := rfl
theorem biU_int1 {Q : UQ} : biU .int1 [.int i] S Q = (Q (.int i) S) := rfl
theorem biU_tup1 {Q : UQ} : biU .tup1 [u] S Q = (∃ us, itemsU u S = some us ∧ Q (.tup us) S) := rfl
theorem biU_lrange {Q : UQ} : biU .lrange [.int i] S Q = (-(2 ^ 61) ≤ i ∧ i ≤ 1000000 ∧ Q (.ref S.length) (S ++ [.lst ((List.range i.toNat).map fun i => U.int ((i : Nat) : Int))])) := rfl
theorem biU_max1 {Q : UQ} : biU .max1 [.ref h] S Q = (∃ o ns, S[h]? = some o ∧ intsU o.items = some ns ∧ 0 < ns.length ∧ ∀ m, m ∈ ns → (∀ y, y ∈ ns → y ≤ m) → Q (.int m) S) := rfl
theorem biU_sort1 {Q : UQ} : biU .sort1 [u] S Q = (∃ us ns, itemsU u S = some us ∧ intsU us = some ns ∧ ns.length < 64 ∧ ∀ ns' : List Int, ns'.Perm ns → ns'.Pairwise (· ≤ ·) → Q (.ref S.length) (S ++ [.lst (ns'.map U.int)])) := rfl
theorem biU_min1 {Q : UQ} : biU .min1 [.ref h] S Q = (∃ o ns, S[h]? = some o ∧ intsU o.items = some ns ∧ 0 < ns.length ∧ ∀ m, m ∈ ns → (∀ y, y ∈ ns → m ≤ y) → Q (.int m) S) := rfl
theorem idxU_ri {Q : UQ} : idxU (.ref h) (.int i) S Q = (∃ o ns j, S[h]? = some o ∧ intsU o.items = some ns ∧ ns[j]? = some i ∧ (∀ m, m < j → ns[m]? ≠ some i) ∧ Q (.int ((j : Nat) : Int)) S) := rfl
theorem biU_lst1 {Q : UQ} : biU .lst1 [u] S Q = (∃ us, itemsU u S = some us ∧ Q (.ref S.length) (S ++ [.lst us])) := rfl
theorem biU_all {Q : UQ} : biU .all [.ref h] S Q = (∃ o bs, S[h]? = some o ∧ blsU o.items = some bs ∧ Q (.bl (bs.all id)) S) := rfl
theorem biU_any {Q : UQ} : biU .any [.ref h] S Q = (∃ o bs, S[h]? = some o ∧ blsU o.items = some bs ∧ Q (.bl (bs.any id)) S) := rfl
theorem biU_anyT {Q : UQ} : biU .any [.tup us] S Q = (∃ ns, intsU us = some ns ∧ Q (.bl (ns.any fun i => !decide (i = 0))) S) := rfl
theorem biU_sum {Q : UQ} : biU .sum [.ref h] S Q = (∃ o ns, S[h]? = some o ∧ intsU o.items = some ns ∧ Q (.int ns.sum) S) := rfl
theorem memU_t {Q : BQ} : memU n u (.tup us) S Q = (((flatU u = true ∧ us.all flatU = true) ∨ (u.dat 60 = true ∧ U.dats 60 us = true)) ∧ Q (xor n (us.any fun y => U.eqv y u)) S) := by cases u <;> rfl
theorem memU_r {Q : BQ} : memU n u (.ref h) S Q = (∃ o, S[h]? = some o ∧ ((flatU u = true ∧ o.items.all flatU = true) ∨ (u.dat 60 = true ∧ U.dats 60 o.items = true)) ∧ Q (xor n (o.items.any fun y => U.eqv y u)) S) := by cases u <;> rfl
theorem memU_s {Q : BQ} : memU n (.str x) (.str y) S Q = (∃ c, x = ⟨#[c]⟩ ∧ Q (xor n (decide (c ∈ y.cps.toList))) S) := rfl
theorem cmU_mem : cmU .mem = memU false := rfl
theorem cmU_nomem : cmU .nomem = memU true := rfl
theorem biU_bits {Q : UQ} : biU .bits [.int i] S Q = (Q (.int (PySem.Builtin.Int.intBits i : Nat)) S) := rfl
theorem biU_isi {Q : UQ} {t : Ty} : biU (.isi t) [u] S Q = (∃ b, isT t u S = some b ∧ Q (.bl b) S) := rfl
theorem srcU_t {R : List U → Option Nat → List U → Prop} {k : Int} : srcU 0 [.tup us] S R = (R us none []) := rfl
theorem srcU_f {R : List U → Option Nat → List U → Prop} {k : Int} : srcU 0 [.fz us] S R = (R us none []) := rfl
theorem srcU_r {R : List U → Option Nat → List U → Prop} {k : Int} : srcU 0 [.ref h] S R = (∃ o, S[h]? = some o ∧ R o.items (some h) o.items) := rfl
theorem srcU_1 {R : List U → Option Nat → List U → Prop} {k : Int} : srcU 1 [.int j] S R = (near j ∧ R (rangeU 0 1 j.toNat) none []) := rfl
theorem srcU_2 {R : List U → Option Nat → List U → Prop} {k : Int} : srcU 1 [.int i, .int j] S R = (near i ∧ near j ∧ R (rangeU i 1 (j - i).toNat) none []) := rfl
theorem srcU_3 {R : List U → Option Nat → List U → Prop} {k : Int} : srcU 1 [.int i, .int j, .int k] S R = (k = -1 ∧ near i ∧ near j ∧ R (rangeU i (-1) (i - j).toNat) none []) := rfl
theorem srcU_et {R : List U → Option Nat → List U → Prop} {k : Int} : srcU 2 [.tup us] S R = (R (enumU 0 us) none []) := rfl
theorem srcU_er {R : List U → Option Nat → List U → Prop} {k : Int} : srcU 2 [.ref h] S R = (∃ o, S[h]? = some o ∧ R (enumU 0 o.items) (some h) o.items) := rfl
theorem setU_ri {R : Sto → Prop} : setU (.ref h) (.int i) v S R = (∃ us j, S[h]? = some (.lst us) ∧ L2.ixN us.length i = some j ∧ R (S.set h (.lst (us.set j v)))) := rfl
theorem appU_r {R : Sto → Prop} : appU (.ref h) v S R = (∃ us, S[h]? = some (.lst us) ∧ us.length < big ∧ R (S.set h (.lst (us ++ [v])))) := rfl
theorem augU_a {Q : UQ} : augU .add (.int i) (.int j) S Q = (Q (.int (i + j)) S) := rfl
theorem augU_s {Q : UQ} : augU .sub (.int i) (.int j) S Q = (Q (.int (i - j)) S) := rfl
theorem bindU_one {k : Nat} {σ : Sl} {T : Sl → Prop} : bindU [k] false u σ T = (T (σ.set k (some u))) := rfl
theorem bindU_tup {ts : List Nat} {σ : Sl} {T : Sl → Prop} : bindU ts true u σ T = (∃ us, u = .tup us ∧ us.length = ts.length ∧ T ((ts.zip us).foldl (fun s p => s.set p.1 (some p.2)) σ)) := rfl
theorem fldU_o {c c' : Cl} {k : Nat} {Q : UQ} : fldU c k (.obj c' h) S Q = (c' = c ∧ ∃ us u, S[h]? = some (.lst us) ∧ us[k]? = some u ∧ Q u S) := rfl
theorem fsetU_o {c c' : Cl} {k : Nat} {R : Sto → Prop} : fsetU c k (.obj c' h) v S R = (c' = c ∧ k < c.fs.length ∧ ∃ us, S[h]? = some (.lst us) ∧ k ≤ us.length ∧ R (S.set h (.lst (us.take k ++ v :: us.drop (k + 1))))) := rfl
theorem isN_obj {c : Cl} : isN (.obj c h) = false := rfl
theorem opU_add  : opU .add = (addU) := rfl
theorem opU_mul  : opU .mul = (mulU) := rfl
theorem opU_sub  : opU .sub = (ari (fun _ _ => True) (· - ·)) := rfl
theorem opU_fdiv  : opU .fdiv = (ari (fun _ j => j ≠ 0 ∧ j.natAbs.log2 < 9000) Int.fdiv) := rfl
theorem opU_mod  : opU .mod = (ari (fun _ j => j ≠ 0) Int.fmod) := rfl
theorem opU_pow  : opU .pow = (ari L2.CPow fun i j => i ^ j.toNat) := rfl
theorem opU_shl  : opU .shl = (ari L2.CPow fun i j => i * 2 ^ j.toNat) := rfl
theorem cmU_lt  : cmU .lt = (cmI fun i j => decide (i < j)) := rfl
theorem cmU_le  : cmU .le = (cmI fun i j => decide (i ≤ j)) := rfl
theorem cmU_gt  : cmU .gt = (cmI fun i j => decide (j < i)) := rfl
theorem cmU_ge  : cmU .ge = (cmI fun i j => decide (j ≤ i)) := rfl
theorem cmU_eq  : cmU .eq = (eqU false) := rfl
theorem cmU_ne  : cmU .ne = (eqU true) := rfl
theorem cmU_isn  : cmU .isn = isU false := rfl
theorem cmU_notn  : cmU .notn = isU true := rfl
end

theorem for_rule {A : U → Sl → Sto → (Sl → Sto → Prop) → Prop} {B : EndU → Sl → Sto → Prop} {D : EndU} {lv : Option Nat} {li : List U} (I : List U → Sl → Sto → Prop) (hl : ∀ xs σ S, I xs σ S → live lv S li) (hn : ∀ σ S, I [] σ S → D.nx σ S)
    (hs : ∀ x xs σ S (K : Sl → Sto → Prop), I (x :: xs) σ S → (∀ σ' S', I xs σ' S' → K σ' S') → A x σ S fun σ1 S1 => B { D with nx := K, ct := K, bk := D.nx } σ1 S1) : ∀ xs σ S, I xs σ S → forU A B D lv li xs σ S
  | [], σ, S, h => by rw [forU]; exact ⟨hl _ _ _ h, hn _ _ h⟩
  | x :: xs, σ, S, h => by
    rw [forU]
    exact ⟨hl _ _ _ h, hs x xs σ S _ h fun σ' S' h' => for_rule I hl hn hs xs σ' S' h'⟩
theorem range_rule {A : U → Sl → Sto → (Sl → Sto → Prop) → Prop} {B : EndU → Sl → Sto → Prop} {D : EndU} (I : Nat → Sl → Sto → Prop) {lo c : Int}
    : ∀ (n m : Nat) (σ : Sl) (S : Sto), (∀ σ S, I (m + n) σ S → D.nx σ S) →
    (∀ j σ S (K : Sl → Sto → Prop), j < m + n → I j σ S → (∀ σ' S', I (j + 1) σ' S' → K σ' S') → A (.int (lo + c * j)) σ S fun σ1 S1 => B { D with nx := K, ct := K, bk := D.nx } σ1 S1) → I m σ S → forU A B D none [] (rangeU (lo + c * m) c n) σ S
  | 0, m, σ, S, hn, hs, h => by rw [rangeU, forU]; exact ⟨trivial, hn _ _ h⟩
  | n + 1, m, σ, S, hn, hs, h => by
    rw [rangeU, forU]
    refine ⟨trivial, hs m σ S _ (by omega) h fun σ' S' h' => ?_⟩
    have e : lo + c * m + c = lo + c * (m + 1 : Nat) := by rw [Int.natCast_add, Int.mul_add]; omega
    rw [e]
    exact range_rule I n (m + 1) σ' S' (by rw [show m + 1 + n = m + (n + 1) by omega]; exact hn) (by rw [show m + 1 + n = m + (n + 1) by omega]; exact hs) h'
/-- range(n) -/
theorem range_up {A : U → Sl → Sto → (Sl → Sto → Prop) → Prop} {B : EndU → Sl → Sto → Prop} {D : EndU} {n : Nat} {σ : Sl} {S : Sto} (I : Nat → Sl → Sto → Prop) (h : I 0 σ S) (hn : ∀ σ S, I n σ S → D.nx σ S)
    (hs : ∀ (j : Nat) σ S (K : Sl → Sto → Prop), j < n → I j σ S → (∀ σ' S', I (j + 1) σ' S' → K σ' S') → A (.int j) σ S fun σ1 S1 => B { D with nx := K, ct := K, bk := D.nx } σ1 S1) : forU A B D none [] (rangeU 0 1 n) σ S := by
  have := range_rule (A := A) (B := B) (D := D) I (lo := 0) (c := 1) n 0 σ S (by simpa using hn) (by simpa using hs) h
  simpa using this
theorem wh_rule {T : Sl → Sto → BQ → Prop} {B : EndU → Sl → Sto → Prop} {D : EndU} (I : Nat → Sl → Sto → Prop)
    (hs : ∀ n σ S (K : Sl → Sto → Prop), I n σ S → (∀ m σ' S', m < n → I m σ' S' → K σ' S') → T σ S fun k S1 => if k = true then B { D with nx := K, ct := K, bk := D.nx } σ S1 else D.nx σ S1) {n : Nat} {σ : Sl} {S : Sto} (h : I n σ S) : ∃ f, whU T B D f σ S := by
  have key : ∀ N n σ S, n < N → I n σ S → whU T B D N σ S := by
    intro N
    induction N with
    | zero => intro n σ S h; omega
    | succ N ih =>
      intro n σ S hn hi
      rw [whU]
      exact hs n σ S _ hi fun m σ' S' hm hi' => ih m σ' S' (by omega) hi'
  exact ⟨n + 1, key (n + 1) n σ S (by omega) h⟩
theorem comp_rule {B : U → Sl → (Sl → Prop) → Prop} {E : Sl → Sto → UQ → Prop} {σ : Sl} {lv : Option Nat} {li : List U} {Q : UQ} (I : List U → List U → Sto → Prop) (hl : ∀ xs acc S, I xs acc S → live lv S li ∧ acc.length + xs.length ≤ big) (hn : ∀ acc S, I [] acc S → Q (.ref S.length) (S ++ [.lst acc]))
    (hs : ∀ x xs acc S (K : UQ), I (x :: xs) acc S → (∀ y S', I xs (acc ++ [y]) S' → K y S') → B x σ fun σ2 => E σ2 S K) : ∀ xs acc S, I xs acc S → compU B (fun _ S Q => Q true S) E σ lv li Q xs acc S
  | [], acc, S, h => by rw [compU]; exact ⟨(hl _ _ _ h).1, hn _ _ h⟩
  | x :: xs, acc, S, h => by
    rw [compU]
    have := hl _ _ _ h
    refine ⟨this.1, by have := this.2; simp at this; omega, ?_⟩
    simp only [if_true, ite_true]
    exact hs x xs acc S _ h fun y S' h' => comp_rule I hl hn hs xs (acc ++ [y]) S' h'
/-- a comprehension whose elements leave the lists alone -/
theorem comp_map {B : U → Sl → (Sl → Prop) → Prop} {E : Sl → Sto → UQ → Prop} {σ : Sl} {lv : Option Nat} {li : List U} {Q : UQ} {xs : List U} {S : Sto} (f : U → U) (hl : live lv S li) (hb : xs.length ≤ big)
    (hs : ∀ x ∈ xs, ∀ K : UQ, K (f x) S → B x σ fun σ2 => E σ2 S K) (h : Q (.ref S.length) (S ++ [.lst (xs.map f)])) : compU B (fun _ S Q => Q true S) E σ lv li Q xs [] S := by
  refine comp_rule (fun ys acc S' => S' = S ∧ acc ++ ys.map f = xs.map f ∧ (∀ y ∈ ys, y ∈ xs)) ?_ ?_ ?_ xs [] S ⟨rfl, rfl, fun y h => h⟩
  · rintro ys acc S' ⟨rfl, e, _⟩
    refine ⟨hl, ?_⟩
    have := congrArg List.length e
    simp at this
    omega
  · rintro acc S' ⟨rfl, e, _⟩
    simp at e
    rw [e]; exact h
  · rintro y ys acc S' K ⟨rfl, e, m⟩ hk
    exact hs y (m y (by simp)) K (hk _ _ ⟨rfl, by simpa using e, fun z hz => m z (by simp [hz])⟩)

theorem ente {G : List Df} {k f : Nat} {d : Df} {us : List U} {S : Sto} {Q : UQ} {E : Nat → Sto → Prop} (n : Nat) (hd : G[f]? = some d) (hl : us.length = d.ps.length) (hn : d.N.length - us.length = n)
    (h : wpB (wpC G k) (fun c _ S' => E c S') d.body { nx := fun _ S' => fin S Q .non S', rt := fin S Q } (us.map some ++ List.replicate n none) S) (hi : d.ini = false := by rfl) : wpC G (k + 1) f us S Q E := enter hd hl (by rw [hn]; exact h) hi
theorem ite_rule {c : Prop} [Decidable c] {a b : Prop} (h1 : c → a) (h2 : ¬ c → b) : if c then a else b := by
  by_cases h : c
  · rw [if_pos h]; exact h1 h
  · rw [if_neg h]; exact h2 h
theorem B_seq {C : CallS} {ex : XQ} {s : Sm} {r : List Sm} {D : EndU} {σ : Sl} {S : Sto} (P : Sl → Sto → Prop) (h1 : ∀ N : Sl → Sto → Prop, (∀ σ S, P σ S → N σ S) → wpS C ex s { D with nx := N } σ S) (h2 : ∀ σ S, P σ S → wpB C ex r D σ S) : wpB C ex (s :: r) D σ S := by
  rw [wpB_cons]; exact h1 _ h2
theorem cp10_3 : L2.CPow 10 3 = True := by simp [L2.CPow]
theorem cp10_4 : L2.CPow 10 4 = True := by simp [L2.CPow]
theorem cp10_5 : L2.CPow 10 5 = True := by simp [L2.CPow]
theorem cp10_6 : L2.CPow 10 6 = True := by simp [L2.CPow]
theorem cp10_9 : L2.CPow 10 9 = True := by simp [L2.CPow]
theorem cp10_12 : L2.CPow 10 12 = True := by simp [L2.CPow]
theorem cp10_15 : L2.CPow 10 15 = True := by simp [L2.CPow]
theorem cp10_18 : L2.CPow 10 18 = True := by simp [L2.CPow]
theorem cp10_19 : L2.CPow 10 19 = True := by simp [L2.CPow]
theorem cp10_20 : L2.CPow 10 20 = True := by simp [L2.CPow]
theorem cp10_30 : L2.CPow 10 30 = True := by simp [L2.CPow]
theorem cp10_40 : L2.CPow 10 40 = True := by simp [L2.CPow]
theorem cp10_43 : L2.CPow 10 43 = True := by simp [L2.CPow]
theorem cp10_45 : L2.CPow 10 45 = True := by simp [L2.CPow]
theorem cp2_31 : L2.CPow 2 31 = True := by simp [L2.CPow]
theorem cp2_32 : L2.CPow 2 32 = True := by simp [L2.CPow]
theorem cp2_64 : L2.CPow 2 64 = True := by simp [L2.CPow]

theorem at_pick {us : List U} {i : Int} (P : U → Prop) (h0 : 0 ≤ i) (h1 : i < us.length) (h : ∀ u ∈ us, P u) : ∃ u, atU us i = some u ∧ P u := by
  unfold atU
  rw [if_pos h0, List.getElem?_eq_getElem (by omega)]
  exact ⟨_, rfl, h _ (List.getElem_mem _)⟩
theorem pick_int {us : List U} {i : Int} (P : Int → Prop) (h0 : 0 ≤ i) (h1 : i < us.length) (h : ∀ u ∈ us, ∃ n, u = .int n ∧ P n) : ∃ n, atU us i = some (.int n) ∧ P n := by
  obtain ⟨u, e, n, rfl, h⟩ := at_pick _ h0 h1 h
  exact ⟨n, e, h⟩

theorem ipow_le {b : Int} (hb : 1 ≤ b) {m n : Nat} (h : m ≤ n) : b ^ m ≤ b ^ n := by
  obtain ⟨d, rfl⟩ := Nat.exists_eq_add_of_le h
  clear h
  induction d with
  | zero => exact Int.le_refl _
  | succ d ih =>
    rw [← Nat.add_assoc, Int.pow_succ]
    have h0 : (0 : Int) < b ^ (m + d) := Int.pow_pos (by omega)
    have h1 : b ^ (m + d) * 1 ≤ b ^ (m + d) * b := Int.mul_le_mul_of_nonneg_left hb (Int.le_of_lt h0)
    omega

theorem asgs_cc {C : CallS} {ex : XQ} {t : Tg} {ts : List Tg} {u : U} {r : List U} {σ : Sl} {S : Sto} {R : Sl → Sto → Prop} : asgs C ex (t :: ts) (u :: r) σ S R = asg C ex t u σ S fun σ1 S1 => asgs C ex ts r σ1 S1 R := by
  rw [asgs_cons]
  apply propext
  constructor
  · rintro ⟨u', r', e, h⟩
    cases e
    exact h
  · exact fun h => ⟨_, _, rfl, h⟩
theorem asgs_nn {C : CallS} {ex : XQ} {σ : Sl} {S : Sto} {R : Sl → Sto → Prop} : asgs C ex [] [] σ S R = R σ S := by
  rw [asgs_nil]; simp
theorem natAbs_ite {a : Int} : (if a < 0 then -a else a) = (a.natAbs : Int) := by split <;> omega

theorem log2S {x : Nat} (h : x < 2 ^ 250) : x.log2 < 9000 := by
  by_cases h0 : x = 0
  · subst h0; decide
  · exact Nat.lt_trans ((Nat.log2_lt h0).2 h) (by decide)

section
variable {R : Sto} {x y z : Ob}
theorem gA2 : (R ++ [x] ++ [y])[R.length]? = some x := by simp
theorem gB2 : (R ++ [x] ++ [y])[R.length + 1]? = some y := by simp
theorem gA3 : (R ++ [x] ++ [y] ++ [z])[R.length]? = some x := by simp
theorem gB3 : (R ++ [x] ++ [y] ++ [z])[R.length + 1]? = some y := by simp
theorem gC3 : (R ++ [x] ++ [y] ++ [z])[R.length + 1 + 1]? = some z := by rw [List.getElem?_append_right (by simp)]; simp
end
theorem natLit {n : Nat} : ((OfNat.ofNat n : Nat) : Int) = OfNat.ofNat n := rfl
theorem ifn {p : Prop} [Decidable p] {a b : Prop} (h : ¬ p) (hb : b) : if p then a else b := by rw [if_neg h]; exact hb
theorem ifp {p : Prop} [Decidable p] {a b : Prop} (h : p) (ha : a) : if p then a else b := by rw [if_pos h]; exact ha
theorem fdiv_mul {x g : Int} (h : g ≠ 0) : Int.fdiv (x * g) g = x := Int.mul_fdiv_cancel x h
theorem natAbs_le_mul {y g : Int} (h : 0 < g) : y.natAbs ≤ (y * g).natAbs := by
  rw [Int.natAbs_mul]
  exact Nat.le_mul_of_pos_right _ (by omega)

theorem fdq {a b : Int} (h : 0 < b) : ∃ q m, a.fdiv b = q ∧ a.fmod b = m ∧ a = q * b + m ∧ 0 ≤ m ∧ m < b := by
  refine ⟨_, _, rfl, rfl, ?_, fmod_nn h, fmod_lt h⟩
  have := Int.mul_fdiv_add_fmod a b
  rw [Int.mul_comm] at this
  exact this.symm
theorem blsU_map' {α : Type} {us : List α} : blsU (us.map fun _ => U.bl true) = some (us.map fun _ => true) := by
  induction us with
  | nil => rfl
  | cons u us ih => simp [blsU, ih]
theorem all_map_true {α : Type} {us : List α} : (us.map fun _ => true).all id = true := by
  induction us with
  | nil => rfl
  | cons u us ih => simp
section
variable {R : Sto} {x y z : Ob}
theorem sA1 : (R ++ [x]).set R.length y = R ++ [y] := by rw [List.set_append_right _ _ (Nat.le_refl _)]; simp
theorem sA2 : (R ++ [x] ++ [z]).set R.length y = R ++ [y] ++ [z] := by rw [List.set_append_left _ _ (by simp), sA1]
end
theorem ixN_nat {n len : Nat} (h : n < len) : L2.ixN len (n : Int) = some n := by
  unfold L2.ixN
  rw [if_pos (by omega), if_pos (by omega)]
  simp
/-- range(lo, ..) -/
theorem range_lo {A : U → Sl → Sto → (Sl → Sto → Prop) → Prop} {B : EndU → Sl → Sto → Prop} {D : EndU} {n : Nat} {lo : Int} {σ : Sl} {S : Sto} (I : Nat → Sl → Sto → Prop) (h : I 0 σ S) (hn : ∀ σ S, I n σ S → D.nx σ S)
    (hs : ∀ (j : Nat) σ S (K : Sl → Sto → Prop), j < n → I j σ S → (∀ σ' S', I (j + 1) σ' S' → K σ' S') → A (.int (lo + j)) σ S fun σ1 S1 => B { D with nx := K, ct := K, bk := D.nx } σ1 S1) : forU A B D none [] (rangeU lo 1 n) σ S := by
  have := range_rule (A := A) (B := B) (D := D) I (lo := lo) (c := 1) n 0 σ S (by simpa using hn) (by simpa using hs) h
  simpa using this
/-- range(hi, lo, -1) -/
theorem range_dn {A : U → Sl → Sto → (Sl → Sto → Prop) → Prop} {B : EndU → Sl → Sto → Prop} {D : EndU} {n : Nat} {lo : Int} {σ : Sl} {S : Sto} (I : Nat → Sl → Sto → Prop) (h : I 0 σ S) (hn : ∀ σ S, I n σ S → D.nx σ S)
    (hs : ∀ (j : Nat) σ S (K : Sl → Sto → Prop), j < n → I j σ S → (∀ σ' S', I (j + 1) σ' S' → K σ' S') → A (.int (lo - j)) σ S fun σ1 S1 => B { D with nx := K, ct := K, bk := D.nx } σ1 S1) : forU A B D none [] (rangeU lo (-1) n) σ S := by
  have := range_rule (A := A) (B := B) (D := D) I (lo := lo) (c := -1) n 0 σ S (by simpa using hn) (by
    rw [Nat.zero_add]
    intro j σ S K hj hI hK
    have e : lo + -1 * (j : Int) = lo - j := by omega
    rw [e]; exact hs j σ S K hj hI hK) h
  simpa using this
end Ek

namespace Ek
open PySem PySem.Spec PyProof.Rows L2

section
variable {D : Hx.Fd} {K : PySem.W.Frag} {h : Heap} {mg : Str → Option Value}
/-- a class of the text is one of the head's -/
def clB (D : Hx.Fd) (c : Cl) : Bool := decide (c.name ∈ D.glo) && (decide ((c.name, c.fs) ∈ D.cls) && (decide c.fs.Nodup && decide (c.fs.length < 1000)))
theorem cc_of (X : K.In h) (GG : h.Ns mainGlobals mg) (c : Hx.Says D K) {c0 : Cl} (e : clB D c0 = true) : CC K mg c0 (He.ga K c0.name) := by
  obtain ⟨e1, e⟩ := He.ba e
  obtain ⟨e2, e⟩ := He.ba e
  obtain ⟨e3, e4⟩ := He.ba e
  have n := c.glo (of_decide_eq_true e1)
  have k := c.parts.2.2.2.2.1 _ (of_decide_eq_true e2)
  obtain ⟨k1, k2⟩ := He.ba k
  exact ⟨n, PySem.W.mg_of X GG n, He.cls_ok k1, fun f hf => He.noat_ok (List.all_eq_true.mp k2 f hf), of_decide_eq_true e3, of_decide_eq_true e4⟩
theorem f1_of (X : K.In h) (GG : h.Ns mainGlobals mg) (c : Hx.Says D K) {d : Df} {st : Stmt} {x : Str} (i : Nat) (ex : d.name = x) (e : D.fns[i]? = some ⟨(x, none), x, x, defArgs st, defBody st, defScope st⟩) (hg : x ∈ D.glo)
    (hb : ∀ (kV doc pm : Value) (an : Option Addr) (cdv ct : Value) (us : List Value), us.length = d.ps.length → bindArgs (PySem.W.fnOf x x (defArgs st) (defBody st) (defScope st) .none kV doc pm an cdv ct) ⟨us, []⟩ = pure (d.ps.zip us)) :
    ∃ fd, F1 K mg d st (He.ga K x) fd := by
  subst ex
  obtain ⟨oc, od, osl, kV, doc, pm, an, cdv, ct, l, q, kp⟩ := c.fn i e
  have n := c.glo hg
  have F := L2.fun_mk (st := st) l q kp
  exact ⟨_, F, PySem.W.mg_of X GG n, F.binds hb, n⟩
theorem f1_top {G : List Df} {sts : List Stmt} {g : Nat} {x : Str} {d : Df} {st : Stmt} {a : Addr} (h1 : G[g]? = some d) (h2 : sts[g]? = some st) (h3 : d.name = x) (h4 : d.ini = false) (F : ∃ fd, F1 K mg d st a fd) :
    ∃ d st a fd, G[g]? = some d ∧ sts[g]? = some st ∧ d.name = x ∧ d.ini = false ∧ F1 K mg d st a fd := by
  obtain ⟨fd, F⟩ := F
  exact ⟨d, st, a, fd, h1, h2, h3, h4, F⟩
/-- a constant of the text is one of the head's -/
def glB (D : Hx.Fd) : Str × GV → Bool
  | (x, .int i) => decide ((x, i) ∈ D.zs)
  | (x, .str y) => decide ((x, y) ∈ D.ss)
  | (x, .txts l) => decide (x ∈ D.glo) && decide ((x, l) ∈ D.ts)
theorem top_of (X : K.In h) (GG : h.Ns mainGlobals mg) (c : Hx.Says D K) {G : List Df} {sts : List Stmt} {gl : List (Str × GV)} {F : List Str} {kl : List (Str × Cl)} {M : List (Str × Str)} {xs : List Str}
    (len : sts.length = G.length)
    (dc : ∀ (g : Nat) (d : Df) (st : Stmt), G[g]? = some d → sts[g]? = some st → Dc F gl xs kl M d st)
    (fs : ∀ (g : Nat) (x : Str), F[g]? = some x → ∃ d st a fd, G[g]? = some d ∧ sts[g]? = some st ∧ d.name = x ∧ d.ini = false ∧ F1 K mg d st a fd)
    (ms : ∀ (j : Nat) (cn m : Str), M[j]? = some (cn, m) → ∃ d st CA a fd, G[F.length + j]? = some d ∧ sts[F.length + j]? = some st ∧ M1 K cn m d st CA a fd)
    (hX : D.exc = xs)
    (hx : (xs.all fun x => decide (x ∈ D.glo)) = true)
    (hkl : (kl.all fun q => clB D q.2) = true)
    (hvl : (G.all fun d => d.vc.all fun q => clB D q.2) = true)
    (hfr : (bltNames.all fun x => decide (x ∈ F) || decide (x ∈ D.free)) = true)
    (hgl : (gl.all fun q => glB D q) = true)
    (hsub : ((xs.all fun x => xs.all fun y => decide ((x, y, subX x y) ∈ D.sub)) && (!xs.contains ("EchelonError" : Str) || D.isi)) = true) :
    Top K mg G sts gl xs (clsOf (xs.map (He.ga K))) F kl M := by
  obtain ⟨hsub, hisi⟩ := He.ba hsub
  have xc : ∀ (i : Nat) (x : Str), xs[i]? = some x → clsOf (xs.map (He.ga K)) i = .ref (He.ga K x) := fun i x e => by
    unfold clsOf
    rw [List.getElem?_map, e]
    rfl
  have xk : ∀ x ∈ xs, Hx.kExc K x = true := fun x hm => c.parts.2.2.2.2.2.1 x (by rw [hX]; exact hm)
  have xf : ∀ x ∈ xs, PySem.W.excIn K (He.ga K x) He.veBase "ValueError.__new__" = true ∧ PySem.W.keepIn K (.ref (He.ga K x)) = true ∧ PySem.W.subIn K (.ref (He.ga K x)) (.type "BaseException") = some true ∧
      PySem.W.typeIn K (.ref (He.ga K x)) = some (.type "type") ∧ PySem.W.isClsIn K (He.ga K x) = true := fun x hm => by
    obtain ⟨k1, k2⟩ := He.ba (xk x hm)
    obtain ⟨a1, a2, a3, a4⟩ := He.exc_ok k1
    exact ⟨a1, a2, a3, a4, k2⟩
  have xs2 : ∀ x ∈ xs, ∀ y ∈ xs, PySem.W.subIn K (.ref (He.ga K x)) (.ref (He.ga K y)) = some (subX x y) := fun x h1 y h2 => by
    have q := List.all_eq_true.mp (List.all_eq_true.mp hsub x h1) y h2
    exact of_decide_eq_true (c.parts.2.2.2.2.2.2.1 _ (of_decide_eq_true q))
  refine ⟨len, dc, fs, ms, fun x c0 e => ⟨_, cc_of X GG c (List.all_eq_true.mp hkl _ (lk_mem e))⟩, fun g d y c0 e1 e2 => ⟨_, cc_of X GG c (List.all_eq_true.mp (List.all_eq_true.mp hvl d (List.mem_of_getElem? e1)) _ (lk_mem e2))⟩,
    fun _ _ hn => PySem.W.mg_of X GG hn, fun x h1 h2 => ?_, fun x g e => ?_, fun i x e => ?_, fun i j x y e1 e2 => ?_, fun hE i x e => ?_⟩
  · have q := List.all_eq_true.mp hfr x h1
    rcases Bool.or_eq_true_iff.mp q with q | q
    · exact absurd (of_decide_eq_true q) h2
    · exact PySem.W.mg_none_of X GG (c.free (of_decide_eq_true q))
  · have q := List.all_eq_true.mp hgl _ (lk_mem e)
    cases g with
    | int i =>
      obtain ⟨t, ht⟩ := He.int_ok X GG (c.parts.2.2.2.2.2.2.2.2.2.1 _ (of_decide_eq_true q))
      exact ⟨_, ht, t, rfl⟩
    | str y =>
      obtain ⟨t, ht⟩ := He.str_ok X GG (c.parts.2.2.2.2.2.2.2.2.2.2.1 _ (of_decide_eq_true q))
      exact ⟨_, ht, t, rfl⟩
    | txts l =>
      obtain ⟨q1, q2⟩ := He.ba q
      obtain ⟨o, its, n, l1, l2, l3, l4, l5⟩ := c.txt (of_decide_eq_true q2)
      exact ⟨_, PySem.W.mg_of X GG (c.glo (of_decide_eq_true q1)), _, _, _, _, rfl, l1, l2, l3, l4, l5⟩
  · have hm := List.mem_of_getElem? e
    obtain ⟨a1, a2, a3, a4, _⟩ := xf x hm
    exact ⟨_, _, _, _, _, PySem.F.excBase_ValueError, a1, PySem.W.mg_of X GG (c.glo (of_decide_eq_true (List.all_eq_true.mp hx x hm))), a2, ⟨a3, a4⟩, xc i x e⟩
  · have h1 := List.mem_of_getElem? e1
    have h2 := List.mem_of_getElem? e2
    obtain ⟨_, _, a3, a4, a5⟩ := xf y h2
    rw [xc i x e1, xc j y e2]
    exact exm_ref a3 a5 a4 (xs2 x h1 y h2)
  · have hi : D.isi = true := by
      rcases Bool.or_eq_true_iff.mp hisi with z | z
      · rw [hE] at z; cases z
      · exact z
    obtain ⟨z0, z1⟩ := c.parts.2.2.2.2.2.2.2.1 hi
    have hm := List.mem_of_getElem? e
    have z := z1 x (by rw [hX]; exact hm)
    unfold Hx.kIsi at z
    obtain ⟨b1, z⟩ := He.ba z
    obtain ⟨b2, z⟩ := He.ba z
    obtain ⟨b3, z⟩ := He.ba z
    obtain ⟨b4, z⟩ := He.ba z
    obtain ⟨b5, z⟩ := He.ba z
    obtain ⟨b6, b7⟩ := He.ba z
    obtain ⟨o1, o2⟩ := He.ba z0
    obtain ⟨_, _, a3, _, _⟩ := xf x hm
    refine ⟨He.ga K x, xc i x e, ⟨He.eqO_ok b1, He.eqO_ok b2, a3, b3, He.eqO_ok b4, He.eqO_ok o1, of_decide_eq_true o2, of_decide_eq_true b5⟩, fun j y hy => ?_, kit_ve (of_decide_eq_true b6)⟩
    have h2 := List.mem_of_getElem? hy
    obtain ⟨_, _, _, c4, c5⟩ := xf y h2
    rw [xc j y hy]
    exact kit_ref (of_decide_eq_true b7) c5 c4 (xs2 x hm y h2)
end
/-- the law's end behind such a head -/
theorem walk_X {l : PySem.W.OpenLaw} {n k : Nat} {q : Program} {loose : List Str} {XP : (Str → Option Value) → Heap → Prop} {YP : World → Heap → Prop} {d : DefRec} {x : Str}
    (hn : l.most = some n) (hn2 : n ≤ sizeLine) (hdf : d.params.defaults = []) (hr : Room k callerA)
    (F : ∀ (w : World) (mg : Str → Option Value) (fa : Addr) (h : Heap), YP w h → h.Ns mainGlobals mg → mg d.name = some (.ref fa) → ∃ (K : PySem.W.Frag) (fd : FuncData) (sp : Sp), K.In h ∧
      (∀ (s : Shared) (u : Value), BindsTo s fd ⟨[u], []⟩ [(x, u)]) ∧ (∀ (H : Hp) (a : Addr) (ns : List Int), ns.length ≤ n → Only H → SqL K H a (ns.map V.int) → sp [.ref a] H (fun v _ => v = .bl true) fun _ _ _ => False) ∧
      ∀ base : Heap, K.In base → base.Ns mainGlobals mg → FnOk l.prog w K mg base (L2.CX l.prog w) k fa fd [x] sp) :
    PySem.W.WalkO q loose XP YP l.row.toRowW d [] (fun f vs => PySem.call f vs) :=
  Att.attach_call hn hdf fun w s₀ s₁ mg mb fa o pm cd doc a vs ns G Y ho hd hcd hmg hobj hints hlen hg =>
    let ⟨K, fd, sp, KX, hb, hsp, hF⟩ := F w mg fa _ Y G.T.g hmg
    law_call KX G.T.g G.T.b G.T.builtins G.T.nolimit hg hobj hints (Nat.le_trans hlen hn2) hr hF hb (fun H hO hS => hsp H a ns hlen hO hS) fun _ _ _ z => cx_none z
end Ek

namespace Ek
open PySem PySem.Spec PyProof.Rows L2
section
def gd (a b : Int) : Int := (Int.gcd a b : Nat)
theorem gd_pos {n m : Int} (h : m ≠ 0) : 0 < gd n m := by
  have : 0 < Nat.gcd n.natAbs m.natAbs := Nat.gcd_pos_of_pos_right _ (by omega)
  exact Int.ofNat_lt.mpr this
/-- the sign of a denominator times the common divisor -/
def sgc (n m : Int) : Int := if m < 0 then -(Int.gcd n m : Int) else Int.gcd n m
theorem sgc_ne {n m : Int} (h : m ≠ 0) : sgc n m ≠ 0 := by
  have := gd_pos (n := n) h
  unfold gd at this
  unfold sgc
  split <;> omega
theorem sgc_abs {n m : Int} : (sgc n m).natAbs = Int.gcd n m := by
  unfold sgc
  split <;> simp
theorem log2W {x n : Nat} (h : x < 2 ^ n) (hn : n ≤ 9000) (hn0 : 0 < n) : x.log2 < 9000 := by
  by_cases h0 : x = 0
  · subst h0; decide
  · exact Nat.lt_of_lt_of_le ((Nat.log2_lt h0).2 h) hn
theorem mulW {i j : Int} {a b : Nat} (ha : i.natAbs < 2 ^ a) (hb : j.natAbs < 2 ^ b) (h : a + b ≤ 1000000) (h0 : 0 < a) (h1 : 0 < b) : IntMulOk i j := (L2.wide_mul ha hb h0 h1 h).ok
theorem copr {a b d : Int} (h : Int.gcd a b = 1) (hd : b ∣ a * d) : b ∣ d := by
  rw [← Int.natAbs_dvd_natAbs] at hd ⊢
  rw [Int.natAbs_mul] at hd
  have hc : Nat.Coprime b.natAbs a.natAbs := by
    unfold Nat.Coprime
    rw [Nat.gcd_comm]; exact h
  exact hc.dvd_of_dvd_mul_left hd
/-- a reduced fraction is a rational's -/
theorem frac_rat {n m : Int} (h : m ≠ 0) : n.fdiv (sgc n m) = (Rat.divInt n m).num ∧ m.fdiv (sgc n m) = ((Rat.divInt n m).den : Int) := by
  obtain ⟨q, hq⟩ : ∃ q, Rat.divInt n m = q := ⟨_, rfl⟩
  rw [hq]
  have hd : (q.den : Int) ≠ 0 := by have := q.den_nz; omega
  have e : n * q.den = q.num * m := by
    rw [← Rat.divInt_eq_divInt_iff h hd, Rat.num_divInt_den, hq]
  have hr := q.reduced
  -- q = (a, b); g = gcd n m: n = a' g, m = b' g
  have g0 := sgc_ne (n := n) h
  obtain ⟨a, ha⟩ : sgc n m ∣ n := by
    have : (Int.gcd n m : Int) ∣ n := Int.gcd_dvd_left ..
    unfold sgc; split
    · exact (Int.neg_dvd).mpr this
    · exact this
  obtain ⟨b, hb⟩ : sgc n m ∣ m := by
    have : (Int.gcd n m : Int) ∣ m := Int.gcd_dvd_right ..
    unfold sgc; split
    · exact (Int.neg_dvd).mpr this
    · exact this
  have ea : n.fdiv (sgc n m) = a := by
    conv => lhs; arg 1; rw [ha, Int.mul_comm]
    exact fdiv_mul g0
  have eb : m.fdiv (sgc n m) = b := by
    conv => lhs; arg 1; rw [hb, Int.mul_comm]
    exact fdiv_mul g0
  rw [ea, eb]
  have hc : Int.gcd a b = 1 := by
    have h1 : Int.gcd n m = (sgc n m).natAbs * Int.gcd a b := by
      have key : ∀ g : Int, n = g * a → m = g * b → Int.gcd n m = g.natAbs * Int.gcd a b := fun g e1 e2 => by
        rw [e1, e2]; exact Int.gcd_mul_left ..
      exact key _ ha hb
    rw [sgc_abs] at h1
    have h2 : 0 < Int.gcd n m := by have := gd_pos (n := n) h; unfold gd at this; omega
    have h3 : Int.gcd n m * Int.gcd a b = Int.gcd n m * 1 := by omega
    exact Nat.eq_of_mul_eq_mul_left h2 h3
  have b0 : 0 < b := by
    rcases Int.lt_or_le 0 b with w | w
    · exact w
    · exfalso
      have g1 := gd_pos (n := n) h
      unfold gd at g1
      unfold sgc at hb
      split at hb
      · have : 0 ≤ -(Int.gcd n m : Int) * b := by
          have := Int.mul_nonneg (show 0 ≤ (Int.gcd n m : Int) by omega) (show 0 ≤ -b by omega)
          have e2 : -(Int.gcd n m : Int) * b = (Int.gcd n m : Int) * -b := by grind
          omega
        omega
      · have : (Int.gcd n m : Int) * b ≤ 0 := Int.mul_nonpos_of_nonneg_of_nonpos (by omega) w
        omega
  have e2 : a * q.den = q.num * b := by
    have : sgc n m * (a * q.den) = sgc n m * (q.num * b) := by
      have e3 : sgc n m * (a * q.den) = (sgc n m * a) * q.den := by grind
      have e4 : sgc n m * (q.num * b) = q.num * (sgc n m * b) := by grind
      rw [e3, e4, ← ha, ← hb]; exact e
    exact Int.eq_of_mul_eq_mul_left g0 this
  have hq1 : Int.gcd q.num q.den = 1 := by
    have := q.reduced
    simpa [Int.gcd, Nat.Coprime] using this
  have d1 : b ∣ (q.den : Int) := by
    have : b ∣ a * q.den := ⟨q.num, by rw [e2, Int.mul_comm]⟩
    exact copr hc this
  have d2 : (q.den : Int) ∣ b := by
    have : (q.den : Int) ∣ q.num * b := ⟨a, by rw [← e2, Int.mul_comm]⟩
    exact copr hq1 this
  have eb2 : b = q.den := Int.dvd_antisymm (by omega) (by omega) d1 d2
  refine ⟨?_, eb2⟩
  rw [eb2] at e2
  exact Int.eq_of_mul_eq_mul_right hd e2
/-- the fractions, or the numbers modulo n + 2 -/
inductive Fl where
  | q | f (n : Nat)
  deriving DecidableEq
def Fl.T : Fl → Type
  | .q => Rat
  | .f n => Fin (n + 2)
instance : ∀ K : Fl, Lean.Grind.CommRing K.T
  | .q => inferInstanceAs (Lean.Grind.CommRing Rat)
  | .f n => inferInstanceAs (Lean.Grind.CommRing (Fin (n + 2)))
instance : ∀ K : Fl, DecidableEq K.T
  | .q => inferInstanceAs (DecidableEq Rat)
  | .f n => inferInstanceAs (DecidableEq (Fin (n + 2)))
def Fl.u : Fl → U
  | .q => .tup [.str "Q"]
  | .f n => .tup [.str "F", .int ((n + 2 : Nat) : Int)]
def Fl.c : (K : Fl) → K.T → U
  | .q, (x : Rat) => .tup [.int x.num, .int x.den]
  | .f n, (x : Fin (n + 2)) => .int (x.val : Nat)
/-- an integer in the field -/
def Fl.of : (K : Fl) → Int → K.T
  | .q, i => ((i : Rat) : Rat)
  | .f n, i => (Fin.ofNat (n + 2) (i % (n + 2 : Nat)).toNat : Fin (n + 2))
theorem Fl.c_dat {K : Fl} {x : K.T} {n : Nat} : (K.c x).dat (n + 2) = true := by
  cases K with
  | q => rfl
  | f n => rfl
theorem Fl.c_bnd {K : Fl} {x : K.T} {n : Nat} : (K.c x).bnd n = true := by
  cases K with
  | q => rfl
  | f n => rfl
theorem Fl.c_eqv {K : Fl} {x y : K.T} : U.eqv (K.c x) (K.c y) = decide (x = y) := by
  cases K with
  | q =>
    show (((x : Rat).num == (y : Rat).num) && ((((x : Rat).den : Nat) : Int) == (((y : Rat).den : Nat) : Int) && true)) = decide (x = y)
    by_cases h : x = y
    · subst h; simp
    · rw [decide_eq_false h]
      by_cases h1 : (x : Rat).num = (y : Rat).num
      · have h2 : (((x : Rat).den : Nat) : Int) ≠ (((y : Rat).den : Nat) : Int) := fun z => h (Rat.ext h1 (by omega))
        simp [h2]
      · simp [h1]
  | f n =>
    show ((((x : Fin (n + 2)).val : Nat) : Int) == (((y : Fin (n + 2)).val : Nat) : Int)) = decide (x = y)
    by_cases h : x = y
    · subst h; simp
    · rw [decide_eq_false h]
      have : (((x : Fin (n + 2)).val : Nat) : Int) ≠ (((y : Fin (n + 2)).val : Nat) : Int) := fun z => h (Fin.ext (by omega))
      simp [this]
structure Sz where
  D : Nat
  V : Nat
def Fl.bd : (K : Fl) → Sz → K.T → Prop
  | .q, s, (x : Rat) => (x.den ∣ s.D) ∧ x.num.natAbs ≤ s.V * x.den
  | .f n, _, _ => n < 2 ^ 60
/-- small enough to be computed with -/
def Sz.ok (s : Sz) : Prop := 0 < s.D ∧ s.D < 2 ^ 2000 ∧ s.V < 2 ^ 2000
end
end Ek

namespace Ek
open PySem PySem.Spec PyProof.Rows L2
section
theorem rat_cop (q : Rat) : Int.gcd q.num q.den = 1 := by
  have := q.reduced
  simpa [Int.gcd, Nat.Coprime] using this
theorem rat_add (x y : Rat) : (x + y).num * ((x.den : Int) * y.den) = (x.num * y.den + y.num * x.den) * (x + y).den := by
  have hx : (x.den : Int) ≠ 0 := by have := x.den_nz; omega
  have hy : (y.den : Int) ≠ 0 := by have := y.den_nz; omega
  have hq : ((x + y).den : Int) ≠ 0 := by have := (x + y).den_nz; omega
  have e : Rat.divInt (x + y).num (x + y).den = Rat.divInt (x.num * y.den + y.num * x.den) (x.den * y.den) := by
    rw [Rat.num_divInt_den, ← Rat.divInt_add_divInt _ _ hx hy, Rat.num_divInt_den, Rat.num_divInt_den]
  exact (Rat.divInt_eq_divInt_iff hq (Int.mul_ne_zero hx hy)).mp e
theorem rat_mul (x y : Rat) : (x * y).num * ((x.den : Int) * y.den) = (x.num * y.num) * (x * y).den := by
  have hx : (x.den : Int) ≠ 0 := by have := x.den_nz; omega
  have hy : (y.den : Int) ≠ 0 := by have := y.den_nz; omega
  have hq : ((x * y).den : Int) ≠ 0 := by have := (x * y).den_nz; omega
  have e : Rat.divInt (x * y).num (x * y).den = Rat.divInt (x.num * y.num) (x.den * y.den) := by
    rw [Rat.num_divInt_den, ← Rat.divInt_mul_divInt, Rat.num_divInt_den, Rat.num_divInt_den]
  exact (Rat.divInt_eq_divInt_iff hq (Int.mul_ne_zero hx hy)).mp e
theorem den_dvd {q : Rat} {D : Nat} {z : Int} (h : q.num * D = q.den * z) : q.den ∣ D := by
  have h1 : (q.den : Int) ∣ q.num * D := ⟨z, h⟩
  exact Int.natCast_dvd_natCast.mp (copr (rat_cop q) h1)
theorem den_pos (q : Rat) : (0 : Int) < q.den := by have := q.den_nz; omega
theorem abs_le_iff {q : Rat} {V : Nat} : q.num.natAbs ≤ V * q.den ↔ -((V : Int) * q.den) ≤ q.num ∧ q.num ≤ (V : Int) * q.den := by
  have : ((V * q.den : Nat) : Int) = (V : Int) * q.den := Int.natCast_mul ..
  omega
theorem cancel_le {a b c : Int} (hc : 0 < c) (h : a * c ≤ b * c) : a ≤ b := Int.le_of_mul_le_mul_right h hc
def Rb (D V : Nat) (x : Rat) : Prop := x.den ∣ D ∧ x.num.natAbs ≤ V * x.den
theorem rb_add {D V W : Nat} {x y : Rat} (hx : Rb D V x) (hy : Rb D W y) : Rb D (V + W) (x + y) := by
    unfold Rb at hx hy ⊢
    have e := rat_add x y
    generalize x + y = q at e ⊢
    have px := den_pos x
    have py := den_pos y
    have pq := den_pos q
    have pxy := Int.mul_pos px py
    obtain ⟨⟨a, ha⟩, hx2⟩ := hx
    obtain ⟨⟨b, hb⟩, hy2⟩ := hy
    refine ⟨den_dvd (z := x.num * a + y.num * b) ?_, ?_⟩
    · have ha' : (D : Int) = x.den * a := by rw [ha]; exact Int.natCast_mul ..
      have hb' : (D : Int) = y.den * b := by rw [hb]; exact Int.natCast_mul ..
      have : (q.num * D) * ((x.den : Int) * y.den) = (q.den * (x.num * a + y.num * b)) * ((x.den : Int) * y.den) := by
        have e1 : (q.num * D) * ((x.den : Int) * y.den) = (q.num * ((x.den : Int) * y.den)) * D := by grind
        rw [e1, e]
        have e2 : (x.num * y.den + y.num * x.den) * q.den * D = q.den * (x.num * y.den * D + y.num * x.den * D) := by grind
        rw [e2]
        conv => lhs; arg 2; arg 1; rw [ha']
        conv => lhs; arg 2; arg 2; rw [hb']
        grind
      exact Int.eq_of_mul_eq_mul_right (by omega) this
    · rw [abs_le_iff] at hx2 hy2 ⊢
      have c1 : x.num * y.den ≤ (V * x.den) * y.den := Int.mul_le_mul_of_nonneg_right hx2.2 (by omega)
      have c2 : -(V * x.den) * y.den ≤ x.num * y.den := Int.mul_le_mul_of_nonneg_right hx2.1 (by omega)
      have c3 : y.num * x.den ≤ (W * y.den) * x.den := Int.mul_le_mul_of_nonneg_right hy2.2 (by omega)
      have c4 : -(W * y.den) * x.den ≤ y.num * x.den := Int.mul_le_mul_of_nonneg_right hy2.1 (by omega)
      have f1 : ((V + W : Nat) : Int) * q.den * (x.den * y.den) = ((V * x.den) * y.den + (W * y.den) * x.den) * q.den := by
        rw [Int.natCast_add]; grind
      have f2 : -(((V + W : Nat) : Int) * q.den) * (x.den * y.den) = (-(V * x.den) * y.den + -(W * y.den) * x.den) * q.den := by
        rw [Int.natCast_add]; grind
      refine ⟨cancel_le pxy ?_, cancel_le pxy ?_⟩
      · rw [f2, e]; exact Int.mul_le_mul_of_nonneg_right (by omega) (by omega)
      · rw [f1, e]; exact Int.mul_le_mul_of_nonneg_right (by omega) (by omega)
theorem rb_mul {D D' V W : Nat} {x y : Rat} (hx : Rb D V x) (hy : Rb D' W y) : Rb (D * D') (V * W) (x * y) := by
    unfold Rb at hx hy ⊢
    have e := rat_mul x y
    generalize x * y = q at e ⊢
    have px := den_pos x
    have py := den_pos y
    have pq := den_pos q
    have pxy := Int.mul_pos px py
    obtain ⟨⟨a, ha⟩, hx2⟩ := hx
    obtain ⟨⟨b, hb⟩, hy2⟩ := hy
    refine ⟨den_dvd (z := x.num * y.num * (a * b)) ?_, ?_⟩
    · have ha' : ((D * D' : Nat) : Int) = (x.den * y.den) * (a * b) := by rw [ha, hb, Int.natCast_mul, Int.natCast_mul, Int.natCast_mul]; grind
      rw [ha']
      have e1 : q.num * ((x.den * y.den) * (a * b)) = (q.num * ((x.den : Int) * y.den)) * (a * b) := by grind
      rw [e1, e]; grind
    · have h1 : x.num.natAbs * y.num.natAbs ≤ (V * x.den) * (W * y.den) := Nat.mul_le_mul hx2 hy2
      have h2 := congrArg Int.natAbs e
      rw [Int.natAbs_mul, Int.natAbs_mul, Int.natAbs_mul, Int.natAbs_mul, Int.natAbs_natCast, Int.natAbs_natCast, Int.natAbs_natCast] at h2
      have h3 : q.num.natAbs * (x.den * y.den) ≤ (V * W * q.den) * (x.den * y.den) := by
        rw [h2]
        have : (V * x.den) * (W * y.den) * q.den = (V * W * q.den) * (x.den * y.den) := by grind
        rw [← this]
        exact Nat.mul_le_mul_right _ h1
      exact Nat.le_of_mul_le_mul_right h3 (by have := x.den_nz; have := y.den_nz; exact Nat.mul_pos (by omega) (by omega))
theorem rb_neg {D V : Nat} {x : Rat} (hx : Rb D V x) : Rb D V (-x) := by
  unfold Rb at hx ⊢
  rw [Rat.neg_num, Rat.neg_den, Int.natAbs_neg]
  exact hx
theorem bd_add {K : Fl} {D V W : Nat} {x y : K.T} (hx : K.bd ⟨D, V⟩ x) (hy : K.bd ⟨D, W⟩ y) : K.bd ⟨D, V + W⟩ (x + y) := by
  cases K with
  | f n => exact hx
  | q => exact rb_add hx hy
theorem bd_mul {K : Fl} {D D' V W : Nat} {x y : K.T} (hx : K.bd ⟨D, V⟩ x) (hy : K.bd ⟨D', W⟩ y) : K.bd ⟨D * D', V * W⟩ (x * y) := by
  cases K with
  | f n => exact hx
  | q => exact rb_mul hx hy
theorem bd_neg {K : Fl} {D V : Nat} {x : K.T} (hx : K.bd ⟨D, V⟩ x) : K.bd ⟨D, V⟩ (-x) := by
  cases K with
  | f n => exact hx
  | q => exact rb_neg hx
theorem bd_mono {K : Fl} {D D' V V' : Nat} {x : K.T} (hx : K.bd ⟨D, V⟩ x) (hD : D ∣ D') (hV : V ≤ V') : K.bd ⟨D', V'⟩ x := by
  cases K with
  | f n => exact hx
  | q => exact ⟨Nat.dvd_trans hx.1 hD, Nat.le_trans hx.2 (Nat.mul_le_mul_right _ hV)⟩
end
end Ek

namespace Ek
section
variable {R : Type} [Lean.Grind.CommRing R] [DecidableEq R]
def ssum (n : Nat) (f : Nat → R) : R := match n with
  | 0 => 0
  | n + 1 => ssum n f + f n
theorem ssum_congr {n : Nat} {f g : Nat → R} (h : ∀ i, i < n → f i = g i) : ssum n f = ssum n g := by
  induction n with
  | zero => rfl
  | succ n ih => rw [ssum, ssum, ih fun i hi => h i (by omega), h n (by omega)]
theorem ssum_zero {n : Nat} {f : Nat → R} (h : ∀ i, i < n → f i = 0) : ssum n f = 0 := by
  induction n with
  | zero => rfl
  | succ n ih => rw [ssum, ih fun i hi => h i (by omega), h n (by omega)]; grind
theorem ssum_add {n : Nat} {f g : Nat → R} : ssum n (fun i => f i + g i) = ssum n f + ssum n g := by
  induction n with
  | zero => rw [ssum, ssum, ssum]; grind
  | succ n ih => rw [ssum, ssum, ssum, ih]; grind
theorem ssum_mul {n : Nat} {f : Nat → R} {a : R} : ssum n (fun i => f i * a) = ssum n f * a := by
  induction n with
  | zero => rw [ssum, ssum]; grind
  | succ n ih => rw [ssum, ssum, ih]; grind
theorem mul_ssum {n : Nat} {f : Nat → R} {a : R} : ssum n (fun i => a * f i) = a * ssum n f := by
  induction n with
  | zero => rw [ssum, ssum]; grind
  | succ n ih => rw [ssum, ssum, ih]; grind
theorem ssum_neg {n : Nat} {f : Nat → R} : ssum n (fun i => -f i) = -ssum n f := by
  induction n with
  | zero => rw [ssum, ssum]; grind
  | succ n ih => rw [ssum, ssum, ih]; grind
/-- more terms that are nothing -/
theorem ssum_ext {n m : Nat} {f : Nat → R} (h : n ≤ m) (hz : ∀ i, n ≤ i → i < m → f i = 0) : ssum m f = ssum n f := by
  induction m with
  | zero => have : n = 0 := by omega
            subst this; rfl
  | succ m ih =>
    by_cases hm : n = m + 1
    · subst hm; rfl
    · rw [ssum, ih (by omega) fun i hi hi2 => hz i hi (by omega), hz m (by omega) (by omega)]; grind
theorem ssum_swap {n m : Nat} {f : Nat → Nat → R} : ssum n (fun i => ssum m fun j => f i j) = ssum m fun j => ssum n fun i => f i j := by
  induction n with
  | zero => rw [ssum]; exact (ssum_zero fun i _ => rfl).symm
  | succ n ih =>
    rw [ssum, ih, ← ssum_add]
    exact ssum_congr fun i _ => rfl
/-- from the other end -/
theorem ssum_rev {n : Nat} {f : Nat → R} : ssum n f = ssum n fun i => f (n - 1 - i) := by
  have key : ∀ n, ∀ f : Nat → R, ssum (n + 1) f = f 0 + ssum n fun i => f (i + 1) := by
    intro n
    induction n with
    | zero => intro f; rw [ssum, ssum, ssum]; grind
    | succ n ih => intro f; rw [ssum, ih f, ssum]; grind
  induction n with
  | zero => rfl
  | succ n ih =>
    rw [key n fun i => f (n + 1 - 1 - i), ssum, ih]
    have : ssum n (fun i => f (n + 1 - 1 - (i + 1))) = ssum n fun i => f (n - 1 - i) := ssum_congr fun i hi => by congr 1; omega
    rw [this]
    have : f (n + 1 - 1 - 0) = f n := by congr 1
    rw [this]; grind
def co (l : List R) (n : Nat) : R := l.getD n 0
theorem co_nil {n : Nat} : co ([] : List R) n = 0 := rfl
theorem co_zero {a : R} {l : List R} : co (a :: l) 0 = a := rfl
theorem co_succ {a : R} {l : List R} {n : Nat} : co (a :: l) (n + 1) = co l n := rfl
theorem co_ge {l : List R} {n : Nat} (h : l.length ≤ n) : co l n = 0 := by
  unfold co
  rw [List.getD_eq_getElem?_getD, List.getElem?_eq_none h]; rfl
theorem co_lt {l : List R} {n : Nat} (h : n < l.length) : co l n = l[n] := by
  unfold co
  rw [List.getD_eq_getElem?_getD, List.getElem?_eq_getElem h]; rfl
theorem list_ext {l m : List R} (hl : l.length = m.length) (h : ∀ n, co l n = co m n) : l = m := by
  refine List.ext_getElem hl fun n h1 h2 => ?_
  rw [← co_lt h1, ← co_lt h2]; exact h n
theorem co_take {l : List R} {k n : Nat} : co (l.take k) n = if n < k then co l n else 0 := by
  by_cases h : n < k
  · rw [if_pos h]
    unfold co
    rw [List.getD_eq_getElem?_getD, List.getD_eq_getElem?_getD, List.getElem?_take_of_lt h]
  · rw [if_neg h]
    exact co_ge (by rw [List.length_take]; omega)
theorem co_map_range {N n : Nat} {f : Nat → R} : co ((List.range N).map f) n = if n < N then f n else 0 := by
  by_cases h : n < N
  · rw [if_pos h, co_lt (by simpa using h)]; simp
  · rw [if_neg h, co_ge (by simpa using h)]
/-- the number of coefficients up to the last that is none -/
def dg : List R → Nat
  | [] => 0
  | a :: l => if dg l = 0 then (if a = 0 then 0 else 1) else dg l + 1
theorem dg_le : ∀ l : List R, dg l ≤ l.length
  | [] => Nat.le_refl _
  | a :: l => by
    have := dg_le l
    rw [dg, List.length_cons]
    split
    · split <;> omega
    · omega
theorem dg_ge : ∀ (l : List R) (n : Nat), dg l ≤ n → co l n = 0
  | [], _, _ => rfl
  | a :: l, n, h => by
    rw [dg] at h
    split at h
    · rename_i h0
      split at h
      · rename_i ha
        cases n with
        | zero => exact ha
        | succ n => rw [co_succ]; exact dg_ge l n (by omega)
      · cases n with
        | zero => omega
        | succ n => rw [co_succ]; exact dg_ge l n (by omega)
    · cases n with
      | zero => omega
      | succ n => rw [co_succ]; exact dg_ge l n (by omega)
theorem dg_last : ∀ (l : List R), dg l ≠ 0 → co l (dg l - 1) ≠ 0
  | [], h => absurd rfl h
  | a :: l, h => by
    rw [dg] at h ⊢
    split
    · rename_i h0
      rw [if_pos h0] at h
      split at h
      · exact absurd rfl h
      · rename_i ha
        rw [if_neg ha]; exact ha
    · rename_i h0
      have e : dg l + 1 - 1 = (dg l - 1) + 1 := by omega
      rw [e, co_succ]
      exact dg_last l h0
def strip (l : List R) : List R := l.take (dg l)
theorem co_strip {l : List R} {n : Nat} : co (strip l) n = co l n := by
  unfold strip
  rw [co_take]
  split
  · rfl
  · exact (dg_ge l n (by omega)).symm
theorem strip_len {l : List R} : (strip l).length = dg l := by
  unfold strip
  rw [List.length_take]
  exact Nat.min_eq_left (dg_le l)
/-- no zero at the end -/
def Nrm (l : List R) : Prop := l.length ≠ 0 → co l (l.length - 1) ≠ 0
theorem strip_nrm {l : List R} : Nrm (strip l) := by
  unfold Nrm
  rw [strip_len]
  intro h
  rw [co_strip]
  exact dg_last l h
theorem Nrm.ext {l m : List R} (hl : Nrm l) (hm : Nrm m) (h : ∀ n, co l n = co m n) : l = m := by
  refine list_ext ?_ h
  rcases Nat.lt_trichotomy l.length m.length with w | w | w
  · exfalso
    refine hm (by omega) ?_
    rw [← h]; exact co_ge (by omega)
  · exact w
  · exfalso
    refine hl (by omega) ?_
    rw [h]; exact co_ge (by omega)
theorem Nrm.strip {l : List R} (h : Nrm l) : strip l = l := strip_nrm.ext h fun n => co_strip
theorem nrm_nil : Nrm ([] : List R) := fun h => absurd rfl h
/-- cut where the rest is nothing -/
theorem take_strip {l : List R} {k : Nat} (hk : k ≤ l.length) (hz : ∀ n, k ≤ n → co l n = 0) (hl : k ≠ 0 → co l (k - 1) ≠ 0) : l.take k = strip l := by
  refine Nrm.ext (fun h => ?_) strip_nrm fun n => ?_
  · rw [List.length_take, Nat.min_eq_left hk] at h ⊢
    rw [co_take, if_pos (by omega)]
    exact hl h
  · rw [co_strip, co_take]
    split
    · rfl
    · exact (hz n (by omega)).symm
def padd (x y : List R) : List R := strip ((List.range (max x.length y.length)).map fun n => co x n + co y n)
theorem co_padd {x y : List R} {n : Nat} : co (padd x y) n = co x n + co y n := by
  unfold padd
  rw [co_strip, co_map_range]
  split
  · rfl
  · rw [co_ge (l := x) (by omega), co_ge (l := y) (by omega)]; grind
theorem padd_nrm {x y : List R} : Nrm (padd x y) := strip_nrm
def pneg (x : List R) : List R := x.map fun a => -a
theorem co_pneg {x : List R} {n : Nat} : co (pneg x) n = -co x n := by
  unfold pneg
  by_cases h : n < x.length
  · rw [co_lt (by simpa using h), co_lt h]; simp
  · rw [co_ge (by simpa using h), co_ge (by omega)]; grind
theorem pneg_nrm {x : List R} (h : Nrm x) : Nrm (pneg x) := by
  intro h0
  have hl : (pneg x).length = x.length := by simp [pneg]
  rw [hl] at h0 ⊢
  rw [co_pneg]
  have := h h0
  intro z
  apply this
  grind
/-- the sum of the products whose places make n -/
def cv (x y : List R) (n : Nat) : R := ssum x.length fun i => if i ≤ n then co x i * co y (n - i) else 0
theorem cv_more {x y : List R} {n N : Nat} (h : x.length ≤ N) : (ssum N fun i => if i ≤ n then co x i * co y (n - i) else 0) = cv x y n := by
  refine ssum_ext h fun i hi _ => ?_
  split
  · rw [co_ge hi]; grind
  · rfl
theorem cv_ge {x y : List R} {n : Nat} (h : x.length + y.length ≤ n + 1) : cv x y n = 0 := by
  refine ssum_zero fun i hi => ?_
  split
  · rw [co_ge (l := y) (by omega)]; grind
  · rfl
def pmul (x y : List R) : List R := strip ((List.range (x.length + y.length)).map (cv x y))
theorem co_pmul {x y : List R} {n : Nat} : co (pmul x y) n = cv x y n := by
  unfold pmul
  rw [co_strip, co_map_range]
  split
  · rfl
  · exact (cv_ge (by omega)).symm
theorem pmul_nrm {x y : List R} : Nrm (pmul x y) := strip_nrm
end
section
open PySem
def Fl.pc (K : Fl) (l : List K.T) : U := .tup (l.map K.c)
theorem eqU_c {K : Fl} {x y : K.T} {n : Bool} {S : Sto} {Q : BQ} : eqU n (K.c x) (K.c y) S Q = Q (xor n (decide (x = y))) S := by
  have e := Fl.c_eqv (x := x) (y := y)
  have d1 := Fl.c_dat (x := x) (n := 58)
  have d2 := Fl.c_dat (x := y) (n := 58)
  cases K with
  | q =>
    show (_ ∧ _ ∧ Q (xor n (U.eqv (Fl.q.c x) (Fl.q.c y))) S) = _
    rw [e]
    simp [d1, d2]
  | f m =>
    have e' : (((x : Fin (m + 2)).val : Nat) : Int) = (((y : Fin (m + 2)).val : Nat) : Int) ↔ x = y := ⟨fun h => Fin.ext (by omega), fun h => by rw [h]⟩
    show Q (xor n (decide ((((x : Fin (m + 2)).val : Nat) : Int) = (((y : Fin (m + 2)).val : Nat) : Int)))) S = _
    by_cases h : x = y
    · rw [decide_eq_true h, decide_eq_true (e'.mpr h)]
    · rw [decide_eq_false h, decide_eq_false (fun z => h (e'.mp z))]
theorem c_bnds {K : Fl} {l : List K.T} {n : Nat} : U.bnds n (l.map K.c) = true := by
  induction l with
  | nil => rfl
  | cons a l ih => rw [List.map_cons, U.bnds, Fl.c_bnd, ih]; rfl
theorem pc_bnd {K : Fl} {l : List K.T} {n : Nat} : (K.pc l).bnd n = true := by
  show U.bnds n (l.map K.c) = true
  exact c_bnds
theorem sZQ : (("Z" : Str) = "Q") = False := eq_false (by decide +kernel)
theorem sZF : (("Z" : Str) = "F") = False := eq_false (by decide +kernel)
theorem sZP : (("Z" : Str) = "P") = False := eq_false (by decide +kernel)
theorem sQZ : (("Q" : Str) = "Z") = False := eq_false (by decide +kernel)
theorem sQF : (("Q" : Str) = "F") = False := eq_false (by decide +kernel)
theorem sQP : (("Q" : Str) = "P") = False := eq_false (by decide +kernel)
theorem sFZ : (("F" : Str) = "Z") = False := eq_false (by decide +kernel)
theorem sFQ : (("F" : Str) = "Q") = False := eq_false (by decide +kernel)
theorem sFP : (("F" : Str) = "P") = False := eq_false (by decide +kernel)
theorem sPZ : (("P" : Str) = "Z") = False := eq_false (by decide +kernel)
theorem sPQ : (("P" : Str) = "Q") = False := eq_false (by decide +kernel)
theorem sPF : (("P" : Str) = "F") = False := eq_false (by decide +kernel)
end
end Ek

namespace Ek
open PySem PySem.Spec PyProof.Rows L2
section
/-- the line of sizes, in bits -/
def EX : Nat := 4400
theorem rb_den {D V : Nat} {x : Rat} (h : Rb D V x) (hD : 0 < D) : x.den ≤ D := Nat.le_of_dvd hD h.1
theorem rb_num {D V : Nat} {x : Rat} (h : Rb D V x) (hD : 0 < D) : x.num.natAbs ≤ V * D := Nat.le_trans h.2 (Nat.mul_le_mul_left _ (rb_den h hD))
/-- sizes that can be computed with -/
structure Sz.Ok (s : Sz) : Prop where
  p : 0 < s.D
  d : s.D < 2 ^ EX
  v : s.V < 2 ^ EX
theorem Sz.Ok.num {s : Sz} (h : s.Ok) {x : Rat} (hx : Rb s.D s.V x) : x.num.natAbs < 2 ^ (EX + EX) := by
  rw [Nat.pow_add]
  exact Nat.lt_of_le_of_lt (rb_num hx h.p) (Nat.mul_lt_mul_of_lt_of_lt h.v h.d)
theorem Sz.Ok.den {s : Sz} (h : s.Ok) {x : Rat} (hx : Rb s.D s.V x) : ((x.den : Nat) : Int).natAbs < 2 ^ EX := by
  rw [Int.natAbs_natCast]
  exact Nat.lt_of_le_of_lt (rb_den hx h.p) h.d
theorem mul_nd {i j : Int} (ha : i.natAbs < 2 ^ (EX + EX)) (hb : j.natAbs < 2 ^ EX) : IntMulOk i j := mulW ha hb (by decide) (by decide) (by decide)
theorem mul_dd {i j : Int} (ha : i.natAbs < 2 ^ EX) (hb : j.natAbs < 2 ^ EX) : IntMulOk i j := mulW ha hb (by decide) (by decide) (by decide)
theorem mul_nn {i j : Int} (ha : i.natAbs < 2 ^ (EX + EX)) (hb : j.natAbs < 2 ^ (EX + EX)) : IntMulOk i j := mulW ha hb (by decide) (by decide) (by decide)
theorem sgc_dd {n i j : Int} (h : i * j ≠ 0) (ha : i.natAbs < 2 ^ EX) (hb : j.natAbs < 2 ^ EX) : (sgc n (i * j)).natAbs.log2 < 9000 := by
  rw [sgc_abs]
  have h1 : Int.gcd n (i * j) ≤ (i * j).natAbs := Nat.gcd_le_right _ (by omega)
  rw [Int.natAbs_mul] at h1
  have h2 : i.natAbs * j.natAbs < 2 ^ EX * 2 ^ EX := Nat.mul_lt_mul_of_lt_of_lt ha hb
  rw [← Nat.pow_add] at h2
  exact log2W (Nat.lt_of_le_of_lt h1 h2) (by decide) (by decide)
theorem den_ne (x : Rat) : ((x.den : Nat) : Int) ≠ 0 := by have := x.den_nz; omega
theorem divInt_add' (x y : Rat) : Rat.divInt (x.num * y.den + y.num * x.den) (x.den * y.den) = x + y := by
  rw [← Rat.divInt_add_divInt _ _ (den_ne x) (den_ne y), Rat.num_divInt_den, Rat.num_divInt_den]
theorem divInt_mul' (x y : Rat) : Rat.divInt (x.num * y.num) (x.den * y.den) = x * y := by
  rw [← Rat.divInt_mul_divInt, Rat.num_divInt_den, Rat.num_divInt_den]
theorem fin_add {n : Nat} (x y : Fin (n + 2)) : (((x.val : Nat) : Int) + ((y.val : Nat) : Int)).fmod ((n + 2 : Nat) : Int) = (((x + y).val : Nat) : Int) := by
  have e : ((x.val : Nat) : Int) + ((y.val : Nat) : Int) = ((x.val + y.val : Nat) : Int) := (Int.natCast_add ..).symm
  rw [e, Int.fmod_eq_emod_of_nonneg _ (by omega), Fin.val_add, Int.natCast_emod]
theorem fin_mul {n : Nat} (x y : Fin (n + 2)) : (((x.val : Nat) : Int) * ((y.val : Nat) : Int)).fmod ((n + 2 : Nat) : Int) = (((x * y).val : Nat) : Int) := by
  rw [Int.fmod_eq_emod_of_nonneg _ (by omega), Fin.val_mul, Int.natCast_emod, Int.natCast_mul]
theorem fin_neg {n : Nat} (x : Fin (n + 2)) : (-((x.val : Nat) : Int)).fmod ((n + 2 : Nat) : Int) = (((-x).val : Nat) : Int) := by
  rw [Int.fmod_eq_emod_of_nonneg _ (by omega), Fin.val_neg']
  have hx := x.isLt
  by_cases h : x.val = 0
  · rw [h]; simp
  · have e : -((x.val : Nat) : Int) = ((n + 2 - x.val : Nat) : Int) - ((n + 2 : Nat) : Int) * 1 := by omega
    rw [e, Int.sub_mul_emod_self_left, Int.natCast_emod]
theorem at_map {α : Type} {us : List α} {f : α → U} {p : Nat} (h : p < us.length) : atU (us.map f) (p : Int) = some (f us[p]) := by
  unfold atU
  rw [if_pos (by omega)]
  simp [h]
theorem comp_ruleT {B : U → Sl → (Sl → Prop) → Prop} {T : Sl → Sto → BQ → Prop} {E : Sl → Sto → UQ → Prop} {σ : Sl} {lv : Option Nat} {li : List U} {Q : UQ} (I : List U → List U → Sto → Prop) (hl : ∀ xs acc S, I xs acc S → live lv S li ∧ acc.length + xs.length ≤ big) (hn : ∀ acc S, I [] acc S → Q (.ref S.length) (S ++ [.lst acc]))
    (hs : ∀ x xs acc S (K1 : UQ) (K2 : Sto → Prop), I (x :: xs) acc S → (∀ y S', I xs (acc ++ [y]) S' → K1 y S') → (∀ S', I xs acc S' → K2 S') → B x σ fun σ2 => T σ2 S fun b S2 => if b = true then E σ2 S2 K1 else K2 S2) : ∀ xs acc S, I xs acc S → compU B T E σ lv li Q xs acc S
  | [], acc, S, h => by rw [compU]; exact ⟨(hl _ _ _ h).1, hn _ _ h⟩
  | x :: xs, acc, S, h => by
    rw [compU]
    have := hl _ _ _ h
    refine ⟨this.1, by have := this.2; simp at this; omega, ?_⟩
    exact hs x xs acc S _ _ h (fun y S' h' => comp_ruleT I hl hn hs xs (acc ++ [y]) S' h') (fun S' h' => comp_ruleT I hl hn hs xs acc S' h')
end
end Ek

namespace Ek
section
def Pm (p : Nat) : Prop := 2 ≤ p ∧ ∀ m, m ∣ p → m = 1 ∨ m = p
end
section
variable {R : Type} [Lean.Grind.CommRing R] [DecidableEq R]
theorem ssum_head : ∀ (n : Nat) (f : Nat → R), ssum (n + 1) f = f 0 + ssum n fun i => f (i + 1)
  | 0, f => by simp only [ssum]; grind
  | n + 1, f => by rw [ssum, ssum_head n f]; simp only [ssum]; grind
theorem cv_nil {b : List R} {n : Nat} : cv [] b n = 0 := rfl
theorem cv_cons {c : R} {a b : List R} {n : Nat} : cv (c :: a) b n = c * co b n + (if n = 0 then 0 else cv a b (n - 1)) := by
  unfold cv
  rw [List.length_cons, ssum_head, if_pos (Nat.zero_le _), co_zero, Nat.sub_zero]
  congr 1
  cases n with
  | zero => rw [if_pos rfl]; exact ssum_zero fun i hi => by rw [if_neg (by omega)]
  | succ n =>
    rw [if_neg (by omega)]
    refine ssum_congr fun i hi => ?_
    rw [co_succ]
    by_cases w : i ≤ n
    · rw [if_pos (by omega), if_pos (by omega), Nat.add_sub_add_right, Nat.add_sub_cancel]
    · rw [if_neg (by omega), if_neg (by omega)]
/-- the value at x -/
def hv (x : R) : List R → R
  | [] => 0
  | c :: l => hv x l * x + c
theorem co_map_mul {c : R} : ∀ {l : List R} {n : Nat}, co (l.map (c * ·)) n = c * co l n
  | [], n => by rw [List.map_nil, co_nil]; grind
  | d :: l, 0 => rfl
  | d :: l, n + 1 => by rw [List.map_cons, co_succ, co_succ]; exact co_map_mul
end
open PySem
section
end
end Ek

namespace Ek
section
variable {R : Type} [Lean.Grind.CommRing R]
def pw (x : R) : Nat → R
  | 0 => 1
  | k + 1 => pw x k * x
theorem prod_map {x : R} : ∀ L : List R, (L.map (x * ·)).foldr (· * ·) 1 = pw x L.length * L.foldr (· * ·) 1
  | [] => by show (1 : R) = 1 * 1; grind
  | a :: L => by rw [List.map_cons, List.foldr_cons, prod_map L, List.length_cons, List.foldr_cons, pw]; grind
theorem prod_inv : ∀ L : List R, (∀ a ∈ L, ∃ b, a * b = 1) → ∃ z, L.foldr (· * ·) 1 * z = 1
  | [], _ => ⟨1, by show (1 : R) * 1 = 1; grind⟩
  | a :: L, h => by
    obtain ⟨b, hb⟩ := h a (List.mem_cons_self ..)
    obtain ⟨z, hz⟩ := prod_inv L fun c hc => h c (List.mem_cons_of_mem _ hc)
    exact ⟨b * z, by rw [List.foldr_cons]; grind⟩
end
theorem bezout : ∀ a b : Nat, ∃ s t : Int, s * a + t * b = (Nat.gcd a b : Nat) := by
  intro a b
  induction a, b using Nat.gcd.induction with
  | H0 b => exact ⟨0, 1, by rw [Nat.gcd_zero_left]; omega⟩
  | H1 a b h ih =>
    obtain ⟨s, t, e⟩ := ih
    rw [Nat.gcd_rec]
    refine ⟨t - s * (b / a : Nat), s, ?_⟩
    have hd : ((b % a : Nat) : Int) = b - a * (b / a : Nat) := by
      have := Nat.mod_add_div b a
      have h2 : ((b % a + a * (b / a) : Nat) : Int) = b := by rw [this]
      rw [Int.natCast_add, Int.natCast_mul] at h2
      omega
    rw [← e, hd]
    grind
section
variable {n : Nat}
theorem of_val (i : Int) : (((Fl.f n).of i : Fin (n + 2)).val : Int) = i % ((n + 2 : Nat) : Int) := by
  show ((Fin.ofNat (n + 2) (i % ((n + 2 : Nat) : Int)).toNat : Fin (n + 2)).val : Int) = _
  have h0 : 0 ≤ i % ((n + 2 : Nat) : Int) := Int.emod_nonneg _ (by omega)
  have h1 : i % ((n + 2 : Nat) : Int) < ((n + 2 : Nat) : Int) := Int.emod_lt_of_pos _ (by omega)
  show (((i % ((n + 2 : Nat) : Int)).toNat % (n + 2) : Nat) : Int) = _
  rw [Nat.mod_eq_of_lt (by omega)]
  omega
/-- s * x = 1 + k p: the residue of s is the inverse -/
theorem of_inv {x y : Fin (n + 2)} {s t : Int} (hy : ((y.val : Nat) : Int) = s % ((n + 2 : Nat) : Int)) (h : s * (x.val : Nat) + t * ((n + 2 : Nat) : Int) = 1) : x * y = 1 := by
  apply Fin.ext
  have e := fin_mul x y
  rw [Int.fmod_eq_emod_of_nonneg _ (by omega), hy, Int.mul_emod, Int.emod_emod, ← Int.mul_emod] at e
  have h2 : ((x.val : Nat) : Int) * s = 1 + (-t) * ((n + 2 : Nat) : Int) := by grind
  rw [h2, Int.add_mul_emod_self_right, Int.emod_eq_of_lt (by omega) (by omega)] at e
  have : (1 : Fin (n + 2)).val = 1 := rfl
  omega
theorem fin_inv (hp : Pm (n + 2)) {x : Fin (n + 2)} (hx : x ≠ 0) : ∃ y : Fin (n + 2), x * y = 1 := by
  obtain ⟨s, t, e⟩ := bezout x.val (n + 2)
  have hg : Nat.gcd x.val (n + 2) = 1 := by
    rcases hp.2 _ (Nat.gcd_dvd_right x.val (n + 2)) with h | h
    · exact h
    · exfalso
      have h1 := Nat.gcd_dvd_left x.val (n + 2)
      rw [h] at h1
      have h2 := x.isLt
      have h0 : x.val ≠ 0 := fun z => hx (Fin.ext z)
      have := Nat.le_of_dvd (by omega) h1
      omega
  rw [hg] at e
  exact ⟨((Fl.f n).of s : Fin (n + 2)), of_inv (of_val s) e⟩
theorem fermat (hp : Pm (n + 2)) {x : Fin (n + 2)} (hx : x ≠ 0) : pw x (n + 1) = 1 := by
  obtain ⟨y, hy⟩ := fin_inv hp hx
  have cnt : ∀ a, ((List.finRange (n + 2)).filter fun b => decide (b ≠ 0)).count a = if a = 0 then 0 else 1 := fun a => by
    by_cases h : a = 0
    · rw [if_pos h, List.count_eq_zero]
      intro hm
      rw [List.mem_filter] at hm
      simp [h] at hm
    · rw [if_neg h, List.count_filter (by simpa using h), (List.nodup_finRange _).count, if_pos (List.mem_finRange _)]
  generalize hL : ((List.finRange (n + 2)).filter fun b => decide (b ≠ 0)) = L at cnt
  have mem : ∀ a ∈ L, a ≠ 0 := fun a ha => by
    rw [← hL, List.mem_filter] at ha
    simpa using ha.2
  have len : L.length = n + 1 := by
    have h1 := List.length_eq_countP_add_countP (l := List.finRange (n + 2)) (fun b => decide (b ≠ 0))
    have h2 : List.countP (fun b => decide (b ≠ 0)) (List.finRange (n + 2)) = L.length := by rw [List.countP_eq_length_filter, hL]
    have h3 : List.countP (fun b => decide ¬(decide (b ≠ (0 : Fin (n + 2))) = true)) (List.finRange (n + 2)) = 1 := by
      have : List.count (0 : Fin (n + 2)) (List.finRange (n + 2)) = 1 := by rw [(List.nodup_finRange _).count, if_pos (List.mem_finRange _)]
      refine Eq.trans ?_ this
      unfold List.count
      congr 1
      funext b
      by_cases hb : b = 0 <;> simp [hb]
    rw [h2, h3, List.length_finRange] at h1
    omega
  have perm : (L.map (x * ·)).Perm L := by
    rw [List.perm_iff_count]
    intro a
    show List.countP (fun b => b == a) (L.map (x * ·)) = List.count a L
    rw [List.countP_map]
    have : ((fun b => b == a) ∘ fun b => x * b) = fun b => b == y * a := by
      funext b
      show (x * b == a) = (b == y * a)
      by_cases h : x * b = a
      · have h2 : b = y * a := by rw [← h]; grind
        rw [h, ← h2]; simp
      · have h2 : b ≠ y * a := fun z => h (by rw [z]; grind)
        rw [beq_false_of_ne h, beq_false_of_ne h2]
    rw [this]
    show List.count (y * a) L = List.count a L
    rw [cnt, cnt]
    by_cases h : a = 0
    · rw [if_pos h, if_pos (by rw [h]; grind)]
    · rw [if_neg h, if_neg (fun z => h (by have : x * (y * a) = 0 := by rw [z]; grind
                                           grind))]
  have pe := perm.foldr_eq' (f := (· * ·)) (fun u _ v _ z => by grind) (1 : Fin (n + 2))
  rw [prod_map, len] at pe
  obtain ⟨z, hz⟩ := prod_inv L fun a ha => fin_inv hp (mem a ha)
  grind
end
/-- the field is one: its number is prime -/
def Fp (K : Fl) : Prop := ∀ n, K = .f n → Pm (n + 2)
def Fl.inv : (K : Fl) → K.T → K.T
  | .q, (x : Rat) => (x⁻¹ : Rat)
  | .f n, (x : Fin (n + 2)) => (pw x n : Fin (n + 2))
section
variable {K : Fl}
theorem mul_inv (h : Fp K) {x : K.T} (hx : x ≠ 0) : x * K.inv x = 1 := by
  cases K with
  | q => exact Rat.mul_inv_cancel x hx
  | f n =>
    revert x
    intro (x : Fin (n + 2)) hx
    have : pw x n * x = 1 := fermat (h n rfl) hx
    show x * pw x n = 1
    grind
theorem inv_of {x y : K.T} (h : Fp K) (hx : x ≠ 0) (e : x * y = 1) : y = K.inv x := by
  have := mul_inv h hx
  have h2 : y = y * (x * K.inv x) := by rw [this]; grind
  rw [h2]; grind
theorem no_zero (h : Fp K) {x y : K.T} (e : x * y = 0) : x = 0 ∨ y = 0 := by
  by_cases hx : x = 0
  · exact .inl hx
  · right
    have := mul_inv h hx
    have h2 : y = (K.inv x * x) * y := by grind
    rw [h2]; grind
end
end Ek

namespace Ek
section
/-- a commutative ring out of its bare parts -/
structure Rg (α : Type) where
  zero : α
  one : α
  add : α → α → α
  mul : α → α → α
  neg : α → α
  add_zero : ∀ a, add a zero = a
  add_comm : ∀ a b, add a b = add b a
  add_assoc : ∀ a b c, add (add a b) c = add a (add b c)
  mul_assoc : ∀ a b c, mul (mul a b) c = mul a (mul b c)
  mul_comm : ∀ a b, mul a b = mul b a
  mul_one : ∀ a, mul a one = a
  distrib : ∀ a b c, mul a (add b c) = add (mul a b) (mul a c)
  zero_mul : ∀ a, mul zero a = zero
  neg_add : ∀ a, add (neg a) a = zero
variable {α : Type} (S : Rg α)
def Rg.nc : Nat → α
  | 0 => S.zero
  | 1 => S.one
  | n + 2 => S.add (Rg.nc (n + 1)) S.one
def Rg.np (a : α) : Nat → α
  | 0 => S.one
  | n + 1 => S.mul (Rg.np a n) a
def Rg.ic : Int → α
  | .ofNat n => S.nc n
  | .negSucc n => S.neg (S.nc (n + 1))
theorem Rg.nc_succ : ∀ n, S.nc (n + 1) = S.add (S.nc n) S.one
  | 0 => by show S.one = S.add S.zero S.one; rw [S.add_comm, S.add_zero]
  | _ + 1 => rfl
theorem Rg.neg_zero : S.neg S.zero = S.zero := by
  have := S.neg_add S.zero
  rwa [S.add_zero] at this
theorem Rg.neg_uniq {a b : α} (h : S.add a b = S.zero) : S.neg b = a := by
  have h2 : S.add (S.add a b) (S.neg b) = S.neg b := by rw [h, S.add_comm, S.add_zero]
  rw [← h2, S.add_assoc, S.add_comm b, S.neg_add, S.add_zero]
theorem Rg.neg_neg (a : α) : S.neg (S.neg a) = a := S.neg_uniq (by rw [S.add_comm]; exact S.neg_add a)
theorem Rg.neg_mul (a b : α) : S.mul (S.neg a) b = S.neg (S.mul a b) := by
  refine (S.neg_uniq ?_).symm
  rw [S.mul_comm _ b, S.mul_comm _ b, ← S.distrib, S.neg_add, S.mul_comm, S.zero_mul]
theorem Rg.ic_neg : ∀ i : Int, S.ic (-i) = S.neg (S.ic i)
  | .ofNat 0 => by show S.zero = S.neg S.zero; rw [S.neg_zero]
  | .ofNat (n + 1) => rfl
  | .negSucc n => by show S.nc (n + 1) = S.neg (S.neg (S.nc (n + 1))); rw [S.neg_neg]
@[reducible] def Rg.semi : Lean.Grind.Semiring α :=
  { add := S.add, mul := S.mul, natCast := ⟨S.nc⟩, ofNat := fun n => ⟨S.nc n⟩, nsmul := ⟨fun n a => S.mul (S.nc n) a⟩, npow := ⟨S.np⟩
    add_zero := S.add_zero, add_comm := S.add_comm, add_assoc := S.add_assoc, mul_assoc := S.mul_assoc, mul_one := S.mul_one
    one_mul := fun a => by show S.mul S.one a = a; rw [S.mul_comm, S.mul_one]
    left_distrib := S.distrib
    right_distrib := fun a b c => by show S.mul (S.add a b) c = S.add (S.mul a c) (S.mul b c); rw [S.mul_comm, S.distrib, S.mul_comm c, S.mul_comm c]
    zero_mul := S.zero_mul
    mul_zero := fun a => by show S.mul a S.zero = S.zero; rw [S.mul_comm, S.zero_mul]
    pow_zero := fun _ => rfl, pow_succ := fun _ _ => rfl
    ofNat_succ := fun n => S.nc_succ n
    ofNat_eq_natCast := fun _ => rfl, nsmul_eq_natCast_mul := fun _ _ => rfl }
@[reducible] def Rg.ring : Lean.Grind.Ring α :=
  { S.semi with
    neg := S.neg, sub := fun a b => S.add a (S.neg b), intCast := ⟨S.ic⟩, zsmul := ⟨fun i a => S.mul (S.ic i) a⟩
    neg_add_cancel := S.neg_add, sub_eq_add_neg := fun _ _ => rfl
    neg_zsmul := fun i a => by show S.mul (S.ic (-i)) a = S.neg (S.mul (S.ic i) a); rw [S.ic_neg, S.neg_mul]
    zsmul_natCast_eq_nsmul := fun _ _ => rfl, intCast_ofNat := fun _ => rfl, intCast_neg := S.ic_neg }
@[reducible] def Rg.comm : Lean.Grind.CommRing α := { S.ring with mul_comm := S.mul_comm }
end
section
variable {R : Type} [Lean.Grind.CommRing R] [DecidableEq R]
theorem cv_lin {b x y z : List R} (h : ∀ n, co z n = co x n + co y n) (n : Nat) : cv z b n = cv x b n + cv y b n := by
  have key : ∀ w : List R, w.length ≤ z.length + x.length + y.length → cv w b n = ssum (z.length + x.length + y.length) fun i => if i ≤ n then co w i * co b (n - i) else 0 := fun w hw => (cv_more hw).symm
  rw [key z (by omega), key x (by omega), key y (by omega), ← ssum_add]
  refine ssum_congr fun i _ => ?_
  rw [h]
  by_cases w : i ≤ n
  · rw [if_pos w, if_pos w, if_pos w]; grind
  · rw [if_neg w, if_neg w, if_neg w]; grind
theorem cv_zero {b z : List R} (h : ∀ n, co z n = 0) (n : Nat) : cv z b n = 0 := by
  unfold cv
  exact ssum_zero fun i _ => by rw [h]; split <;> grind
theorem cv_ext {b x y : List R} (h : ∀ n, co x n = co y n) (n : Nat) : cv x b n = cv y b n := by
  have := cv_lin (b := b) (x := y) (y := []) (z := x) (fun n => by rw [h, co_nil]; grind) n
  rw [this, cv_nil]; grind
theorem cv_smul {b x z : List R} {c : R} (h : ∀ n, co z n = c * co x n) (n : Nat) : cv z b n = c * cv x b n := by
  have key : ∀ w : List R, w.length ≤ z.length + x.length → cv w b n = ssum (z.length + x.length) fun i => if i ≤ n then co w i * co b (n - i) else 0 := fun w hw => (cv_more hw).symm
  rw [key z (by omega), key x (by omega), ← mul_ssum]
  refine ssum_congr fun i _ => ?_
  rw [h]
  by_cases w : i ≤ n
  · rw [if_pos w, if_pos w]; grind
  · rw [if_neg w, if_neg w]; grind
/-- the sum over all pairs -/
theorem cv_full {x y : List R} {n : Nat} : cv x y n = ssum (n + 1) fun i => co x i * co y (n - i) := by
  rw [← cv_more (N := x.length + (n + 1)) (by omega)]
  rw [ssum_ext (n := n + 1) (by omega) (fun i hi _ => by rw [if_neg (by omega)])]
  exact ssum_congr fun i hi => by rw [if_pos (by omega)]
theorem cv_comm {x y : List R} {n : Nat} : cv x y n = cv y x n := by
  rw [cv_full, cv_full, ssum_rev]
  refine ssum_congr fun i hi => ?_
  have e1 : n + 1 - 1 - i = n - i := by omega
  have e2 : n - (n - i) = i := by omega
  rw [e1, e2]; grind
theorem cv_assoc {y z v : List R} (hv : ∀ n, co v n = cv y z n) : ∀ (x w : List R), (∀ n, co w n = cv x y n) → ∀ n, cv w z n = cv x v n
  | [], w, h, n => by rw [cv_zero (fun n => by rw [h, cv_nil]) n, cv_nil]
  | c :: x, w, h, n => by
    have ih := cv_assoc hv x (pmul x y) (fun n => co_pmul)
    have h1 : ∀ n, co w n = co (y.map (c * ·)) n + co (0 :: pmul x y) n := fun n => by
      rw [h, cv_cons, co_map_mul]
      cases n with
      | zero => rfl
      | succ n => rw [if_neg (by omega), co_succ, co_pmul, Nat.add_sub_cancel]
    rw [cv_lin h1, cv_smul (c := c) (fun n => co_map_mul), cv_cons, cv_cons, ← hv]
    cases n with
    | zero => simp only [if_true]; grind
    | succ n => rw [if_neg (by omega), if_neg (by omega), Nat.add_sub_cancel, ih]; grind
theorem cv_one {x : List R} {n : Nat} : cv (strip [1]) x n = co x n := by
  rw [cv_ext (fun n => co_strip), cv_cons]
  cases n with
  | zero => simp only [if_true]; grind
  | succ n => rw [if_neg (by omega), cv_nil]; grind
/-- polynomials: stripped lists -/
def Pol (R : Type) [Lean.Grind.CommRing R] [DecidableEq R] := { l : List R // Nrm l }
theorem Pol.ext {a b : Pol R} (h : ∀ n, co a.1 n = co b.1 n) : a = b := Subtype.ext (a.2.ext b.2 h)
def polRg : Rg (Pol R) where
  zero := ⟨[], nrm_nil⟩
  one := ⟨strip [1], strip_nrm⟩
  add := fun a b => ⟨padd a.1 b.1, padd_nrm⟩
  mul := fun a b => ⟨pmul a.1 b.1, pmul_nrm⟩
  neg := fun a => ⟨pneg a.1, pneg_nrm a.2⟩
  add_zero := fun a => Pol.ext fun n => by show co (padd a.1 []) n = _; rw [co_padd, co_nil]; grind
  add_comm := fun a b => Pol.ext fun n => by show co (padd a.1 b.1) n = co (padd b.1 a.1) n; rw [co_padd, co_padd]; grind
  add_assoc := fun a b c => Pol.ext fun n => by show co (padd (padd a.1 b.1) c.1) n = co (padd a.1 (padd b.1 c.1)) n; rw [co_padd, co_padd, co_padd, co_padd]; grind
  mul_assoc := fun a b c => Pol.ext fun n => by
    show co (pmul (pmul a.1 b.1) c.1) n = co (pmul a.1 (pmul b.1 c.1)) n
    rw [co_pmul, co_pmul]
    exact cv_assoc (fun n => co_pmul) _ _ (fun n => co_pmul) n
  mul_comm := fun a b => Pol.ext fun n => by show co (pmul a.1 b.1) n = co (pmul b.1 a.1) n; rw [co_pmul, co_pmul, cv_comm]
  mul_one := fun a => Pol.ext fun n => by show co (pmul a.1 (strip [1])) n = _; rw [co_pmul, cv_comm, cv_one]
  distrib := fun a b c => Pol.ext fun n => by
    show co (pmul a.1 (padd b.1 c.1)) n = co (padd (pmul a.1 b.1) (pmul a.1 c.1)) n
    rw [co_pmul, co_padd, co_pmul, co_pmul, cv_comm, cv_lin (fun n => co_padd), cv_comm, cv_comm (x := c.1)]
  zero_mul := fun a => Pol.ext fun n => by show co (pmul [] a.1) n = co [] n; rw [co_pmul, cv_nil, co_nil]
  neg_add := fun a => Pol.ext fun n => by show co (padd (pneg a.1) a.1) n = co [] n; rw [co_padd, co_pneg, co_nil]; grind
instance : Lean.Grind.CommRing (Pol R) := polRg.comm
theorem Pol.add_val {a b : Pol R} : (a + b).1 = padd a.1 b.1 := rfl
theorem Pol.mul_val {a b : Pol R} : (a * b).1 = pmul a.1 b.1 := rfl
theorem Pol.zero_val : (0 : Pol R).1 = [] := rfl
theorem Pol.one_val : (1 : Pol R).1 = strip [1] := rfl
end
end Ek

namespace Ek
section
variable {R : Type} [Lean.Grind.CommRing R] [DecidableEq R]
theorem ssum_upd {f g : Nat → R} {k : Nat} (h : ∀ i, i ≠ k → g i = f i) : ∀ {n : Nat}, k < n → ssum n g = ssum n f + (g k - f k)
  | 0, hk => absurd hk (by omega)
  | n + 1, hk => by
    rw [ssum, ssum]
    by_cases e : k = n
    · subst e
      rw [ssum_congr (n := k) (f := g) (g := f) fun i hi => h i (by omega)]; grind
    · rw [ssum_upd h (n := n) (by omega), h n (by omega)]; grind
theorem co_set' {l : List R} {j n : Nat} {a : R} (h : j < l.length) : co (l.set j a) n = if n = j then a else co l n := by
  by_cases e : n = j
  · subst e
    rw [if_pos rfl, co_lt (by simpa using h)]
    simp
  · rw [if_neg e]
    by_cases hn : n < l.length
    · rw [co_lt (by simpa using hn), co_lt hn, List.getElem_set_ne (by omega)]
    · rw [co_ge (by simp; omega), co_ge (by omega)]
theorem cv_set {F b : List R} {k n : Nat} {f : R} (hk : k < F.length) : cv (F.set k f) b n = cv F b n + (if k ≤ n then (f - co F k) * co b (n - k) else 0) := by
  unfold cv
  rw [List.length_set, ssum_upd (k := k) (f := fun i => if i ≤ n then co F i * co b (n - i) else 0) (fun i hi => by rw [co_set' hk, if_neg hi]) hk]
  congr 1
  rw [co_set' hk, if_pos rfl]
  split <;> grind
theorem cv_top {x y : List R} (hx : x.length ≠ 0) (hy : y.length ≠ 0) : cv x y (x.length - 1 + (y.length - 1)) = co x (x.length - 1) * co y (y.length - 1) := by
  obtain ⟨m, hm⟩ : ∃ m, x.length = m + 1 := ⟨x.length - 1, by omega⟩
  unfold cv
  rw [hm, ssum, ssum_zero (n := m) fun i hi => ?_, if_pos (by omega), Nat.add_sub_cancel, Nat.add_sub_cancel_left]
  · grind
  · rw [co_ge (l := y) (by omega)]
    split <;> grind
end
section
variable {K : Fl}
/-- remainders are determined -/
theorem rem_uniq (hp : Fp K) {b r r' s : Pol K.T} (h : r.1.length < b.1.length) (h' : r'.1.length < b.1.length) (e : r = s * b + r') : r = r' := by
  by_cases hs : s.1.length = 0
  · have h0 : s = 0 := Pol.ext fun n => by rw [co_ge (by omega), Pol.zero_val, co_nil]
    rw [h0] at e
    rw [e]; grind
  · exfalso
    have e1 : ∀ n, co r.1 n = cv s.1 b.1 n + co r'.1 n := fun n => by
      rw [e, Pol.add_val, co_padd, Pol.mul_val, co_pmul]
    have e2 := e1 (s.1.length - 1 + (b.1.length - 1))
    rw [cv_top hs (by omega), co_ge (l := r.1) (by omega), co_ge (l := r'.1) (by omega)] at e2
    have e3 : co s.1 (s.1.length - 1) * co b.1 (b.1.length - 1) = 0 := by grind
    rcases no_zero hp e3 with z | z
    · exact s.2 hs z
    · exact b.2 (by omega) z
/-- a = q b + r -/
structure Dv (a b q r : Pol K.T) : Prop where
  lt : r.1.length < b.1.length
  e : a = q * b + r
theorem Dv.rem (hp : Fp K) {a b q r q' r' : Pol K.T} (h : Dv a b q r) (h' : Dv a b q' r') : r = r' := by
  refine rem_uniq hp (s := q' - q) h.lt h'.lt ?_
  have := h.e; have := h'.e; grind
theorem Dv.quo (hp : Fp K) {a b q r q' r' : Pol K.T} (h : Dv a b q r) (h' : Dv a b q' r') : q = q' := by
  have hr := h.rem hp h'
  by_cases hs : (q - q').1.length = 0
  · have h0 : q - q' = 0 := Pol.ext fun n => by rw [co_ge (by omega), Pol.zero_val, co_nil]
    grind
  · exfalso
    have e0 : (q - q') * b = 0 := by have := h.e; have := h'.e; grind
    have e1 : cv (q - q').1 b.1 ((q - q').1.length - 1 + (b.1.length - 1)) = 0 := by
      rw [← co_pmul, ← Pol.mul_val, e0, Pol.zero_val, co_nil]
    rw [cv_top hs (by have := h.lt; omega)] at e1
    rcases no_zero hp e1 with z | z
    · exact (q - q').2 hs z
    · exact b.2 (by have := h.lt; omega) z
/-- alike modulo b -/
def Cg (b x y : Pol K.T) : Prop := ∃ s, x = s * b + y
theorem Cg.refl {b x : Pol K.T} : Cg b x x := ⟨0, by grind⟩
theorem Cg.symm {b x y : Pol K.T} (h : Cg b x y) : Cg b y x := by obtain ⟨s, e⟩ := h; exact ⟨-s, by grind⟩
theorem Cg.trans {b x y z : Pol K.T} (h : Cg b x y) (h' : Cg b y z) : Cg b x z := by obtain ⟨s, e⟩ := h; obtain ⟨t, e'⟩ := h'; exact ⟨s + t, by grind⟩
theorem Cg.mul {b x y z v : Pol K.T} (h : Cg b x y) (h' : Cg b z v) : Cg b (x * z) (y * v) := by
  obtain ⟨s, e⟩ := h; obtain ⟨t, e'⟩ := h'; exact ⟨s * t * b + s * v + y * t, by rw [e, e']; grind⟩
theorem Cg.pw {b x y : Pol K.T} (h : Cg b x y) : ∀ n, Cg b (pw x n) (pw y n)
  | 0 => .refl
  | n + 1 => (Cg.pw h n).mul h
theorem Cg.uniq (hp : Fp K) {b r r' : Pol K.T} (h : r.1.length < b.1.length) (h' : r'.1.length < b.1.length) (c : Cg b r r') : r = r' := by
  obtain ⟨s, e⟩ := c; exact rem_uniq hp h h' e
end
end Ek

namespace Ek
section
variable {K : Fl}
theorem sok {D V D' V' : Nat} (h : Sz.Ok ⟨D', V'⟩) (h0 : 0 < D) (hD : D ≤ D') (hV : V ≤ V') : Sz.Ok ⟨D, V⟩ := ⟨h0, Nat.lt_of_le_of_lt hD h.d, Nat.lt_of_le_of_lt hV h.v⟩
/-- the line for powers: what is computed on the way -/
theorem hv_sok {Da Va Dx Vx L m : Nat} (hs : Sz.Ok ⟨Da * Dx ^ L, Va * (Vx + 1) ^ L⟩) (h0 : 0 < Da) (hx : 0 < Dx) (hm : m ≤ L) : Sz.Ok ⟨Da * Dx ^ m, Va * (Vx + 1) ^ m⟩ :=
  sok hs (Nat.mul_pos h0 (Nat.pow_pos hx)) (Nat.mul_le_mul_left _ (Nat.pow_le_pow_right hx hm)) (Nat.mul_le_mul_left _ (Nat.pow_le_pow_right (by omega) hm))
theorem hv_step {Da Va Dx Vx L m : Nat} (hs : Sz.Ok ⟨Da * Dx ^ L, Va * (Vx + 1) ^ L⟩) (h0 : 0 < Da) (hx : 0 < Dx) (hm : m < L) : Sz.Ok ⟨Da * Dx ^ m * Dx, Va * (Vx + 1) ^ m * Vx⟩ := by
  have h := hv_sok hs h0 hx (show m + 1 ≤ L from hm)
  refine sok h (Nat.mul_pos (Nat.mul_pos h0 (Nat.pow_pos hx)) hx) (by rw [Nat.pow_succ, Nat.mul_assoc]; exact Nat.le_refl _) ?_
  rw [Nat.pow_succ, ← Nat.mul_assoc]
  exact Nat.mul_le_mul_left _ (by omega)
theorem bd_zero' {s : Sz} (hw : ∀ n, K = .f n → n < 2 ^ 60) : K.bd s (0 : K.T) := by
  cases K with
  | f n => exact hw n rfl
  | q =>
    show (0 : Rat).den ∣ s.D ∧ (0 : Rat).num.natAbs ≤ s.V * (0 : Rat).den
    exact ⟨by show 1 ∣ s.D; exact Nat.one_dvd _, by show 0 ≤ _; exact Nat.zero_le _⟩
/-- what is known for a division: sizes of a, b and of the inverse of b's last coefficient -/
structure DH (K : Fl) (a b : List K.T) (Da Va Db Vb Di Vi : Nat) : Prop where
  w : ∀ n, K = .f n → n < 2 ^ 60
  p : Fp K
  nb : Nrm b
  lb : b.length ≠ 0
  la5 : a.length ≤ 5000
  lb5 : b.length ≤ 5000
  da : 0 < Da
  v1 : 1 ≤ Vb
  okb : Sz.Ok ⟨Db, Vb⟩
  oki : Sz.Ok ⟨Di, Vi⟩
  ok : Sz.Ok ⟨Da * (Di * Db) ^ (a.length + 1 - b.length), Va * (Vi * Vb + 1) ^ (a.length + 1 - b.length)⟩
  ba : ∀ n, K.bd ⟨Da, Va⟩ (co a n)
  bb : ∀ n, K.bd ⟨Db, Vb⟩ (co b n)
  bi : K.bd ⟨Di, Vi⟩ (K.inv (co b (b.length - 1)))
/-- after j steps -/
structure DS (K : Fl) (a b : List K.T) (Da Va Db Vb Di Vi m j : Nat) (R F : List K.T) : Prop where
  lR : R.length = a.length
  lF : F.length = m
  e : ∀ n, co a n = cv F b n + co R n
  z : ∀ n, m - j + b.length - 1 ≤ n → co R n = 0
  f0 : ∀ i, i < m - j → co F i = 0
  bR : ∀ n, K.bd ⟨Da * (Di * Db) ^ j, Va * (Vi * Vb + 1) ^ j⟩ (co R n)
  bF : ∀ n, K.bd ⟨Da * (Di * Db) ^ j, Va * (Vi * Vb + 1) ^ j⟩ (co F n)
variable {a b R F R' : List K.T} {Da Va Db Vb Di Vi m j : Nat}
theorem co_rep {m n : Nat} : co (List.replicate m (0 : K.T)) n = 0 := by
  unfold co
  rw [List.getD_eq_getElem?_getD, List.getElem?_replicate]
  split <;> rfl
theorem DS.init (h : DH K a b Da Va Db Vb Di Vi) (hm : m = a.length + 1 - b.length) : DS K a b Da Va Db Vb Di Vi m 0 a (List.replicate m 0) := by
  have hb := h.lb
  refine ⟨rfl, by simp, fun n => ?_, fun n hn => co_ge (by omega), fun i _ => co_rep, fun n => ?_, fun n => ?_⟩
  · rw [cv_zero fun n => co_rep]; grind
  · rw [Nat.pow_zero, Nat.pow_zero, Nat.mul_one, Nat.mul_one]; exact h.ba n
  · rw [co_rep]; exact bd_zero' h.w
/-- the next coefficient of the quotient, and its sizes -/
theorem DS.fac (h : DH K a b Da Va Db Vb Di Vi) (hm : m = a.length + 1 - b.length) (d : DS K a b Da Va Db Vb Di Vi m j R F) (hj : j < m) :
    Sz.Ok ⟨Da * (Di * Db) ^ j, Va * (Vi * Vb + 1) ^ j⟩ ∧ Sz.Ok ⟨Da * (Di * Db) ^ j * Di, Va * (Vi * Vb + 1) ^ j * Vi⟩ ∧ Sz.Ok ⟨Da * (Di * Db) ^ j * Di * Db, Va * (Vi * Vb + 1) ^ j * Vi * Vb⟩ ∧
    ∀ n, K.bd ⟨Da * (Di * Db) ^ j * Di, Va * (Vi * Vb + 1) ^ j * Vi⟩ (co R n * K.inv (co b (b.length - 1))) := by
  have ok := h.ok
  rw [← hm] at ok
  have px : 0 < Di * Db := Nat.mul_pos h.oki.p h.okb.p
  have o1 := hv_sok ok h.da px (Nat.le_of_lt hj)
  have o2 := hv_step ok h.da px hj
  rw [← Nat.mul_assoc, ← Nat.mul_assoc] at o2
  refine ⟨o1, sok o2 (Nat.mul_pos o1.p h.oki.p) (Nat.le_mul_of_pos_right _ h.okb.p) (Nat.le_mul_of_pos_right _ h.v1), o2, fun n => bd_mul (d.bR n) h.bi⟩
theorem DS.step (h : DH K a b Da Va Db Vb Di Vi) (hm : m = a.length + 1 - b.length) (d : DS K a b Da Va Db Vb Di Vi m j R F) (hj : j < m) {f : K.T} (hf : f = co R (m - 1 - j + b.length - 1) * K.inv (co b (b.length - 1)))
    (hl : R'.length = R.length) (hR : ∀ n, co R' n = if m - 1 - j ≤ n ∧ n < m - 1 - j + b.length then co R n + -(f * co b (n - (m - 1 - j))) else co R n) : DS K a b Da Va Db Vb Di Vi m (j + 1) R' (F.set (m - 1 - j) f) := by
  obtain ⟨_, _, _, bf⟩ := d.fac h hm hj
  have hb := h.lb
  have hkF : m - 1 - j < F.length := by rw [d.lF]; omega
  have bf' : K.bd ⟨Da * (Di * Db) ^ j * Di, Va * (Vi * Vb + 1) ^ j * Vi⟩ f := by rw [hf]; exact bf _
  have eD : Da * (Di * Db) ^ (j + 1) = Da * (Di * Db) ^ j * Di * Db := by rw [Nat.pow_succ]; simp only [Nat.mul_assoc]
  have eV : Va * (Vi * Vb + 1) ^ (j + 1) = Va * (Vi * Vb + 1) ^ j + Va * (Vi * Vb + 1) ^ j * Vi * Vb := by rw [Nat.pow_succ, ← Nat.mul_assoc, Nat.mul_succ, Nat.mul_assoc _ Vi Vb]; omega
  have dj : Da * (Di * Db) ^ j ∣ Da * (Di * Db) ^ (j + 1) := by rw [eD, Nat.mul_assoc]; exact Nat.dvd_mul_right ..
  have vj : Va * (Vi * Vb + 1) ^ j ≤ Va * (Vi * Vb + 1) ^ (j + 1) := by rw [eV]; omega
  refine ⟨by rw [hl]; exact d.lR, by rw [List.length_set]; exact d.lF, fun n => ?_, fun n hn => ?_, fun i hi => ?_, fun n => ?_, fun n => ?_⟩
  · rw [cv_set hkF, d.f0 _ (by omega), hR, d.e n]
    by_cases w1 : m - 1 - j ≤ n
    · rw [if_pos w1]
      by_cases w2 : n < m - 1 - j + b.length
      · rw [if_pos ⟨w1, w2⟩]; grind
      · rw [if_neg (by omega), co_ge (l := b) (by omega)]; grind
    · rw [if_neg w1, if_neg (by omega)]; grind
  · rw [hR]
    by_cases w2 : n < m - 1 - j + b.length
    · have hn2 : n = m - 1 - j + b.length - 1 := by omega
      rw [if_pos ⟨by omega, w2⟩]
      have e3 : n - (m - 1 - j) = b.length - 1 := by omega
      rw [e3, hf, ← hn2]
      have := mul_inv h.p (h.nb hb)
      grind
    · rw [if_neg (by omega)]
      exact d.z n (by omega)
  · rw [co_set' hkF, if_neg (by omega)]
    exact d.f0 i (by omega)
  · rw [hR]
    split
    · have := bd_add (bd_mono (d.bR n) (D' := Da * (Di * Db) ^ j * Di * Db) (by rw [Nat.mul_assoc]; exact Nat.dvd_mul_right ..) (Nat.le_refl _)) (bd_neg (bd_mul bf' (h.bb (n - (m - 1 - j)))))
      rw [eD, eV]; exact this
    · exact bd_mono (d.bR n) dj vj
  · rw [co_set' hkF]
    split
    · refine bd_mono bf' (by rw [eD]; exact Nat.dvd_mul_right ..) ?_
      rw [eV]
      have := Nat.le_mul_of_pos_right (Va * (Vi * Vb + 1) ^ j * Vi) h.v1
      omega
    · exact bd_mono (d.bF n) dj vj
theorem dg_le_of {l : List K.T} {m : Nat} (h : ∀ n, m ≤ n → co l n = 0) : dg l ≤ m := by
  rcases Nat.lt_or_ge m (dg l) with w | w
  · exact absurd (h (dg l - 1) (by omega)) (dg_last l (by omega))
  · exact w
/-- what a division gives -/
structure DR (K : Fl) (a b : List K.T) (Da Va Db Vb Di Vi : Nat) (q r : List K.T) : Prop where
  nq : Nrm q
  nr : Nrm r
  lr : r.length < b.length
  lra : r.length ≤ a.length
  lq : q.length ≤ a.length + 1 - b.length
  e : ∀ n, co a n = cv q b n + co r n
  bq : ∀ n, K.bd ⟨Da * (Di * Db) ^ (a.length + 1 - b.length), Va * (Vi * Vb + 1) ^ (a.length + 1 - b.length)⟩ (co q n)
  br : ∀ n, K.bd ⟨Da * (Di * Db) ^ (a.length + 1 - b.length), Va * (Vi * Vb + 1) ^ (a.length + 1 - b.length)⟩ (co r n)
theorem DS.fin (h : DH K a b Da Va Db Vb Di Vi) (hm : m = a.length + 1 - b.length) (d : DS K a b Da Va Db Vb Di Vi m m R F) : DR K a b Da Va Db Vb Di Vi (strip F) (strip R) := by
  subst hm
  have hb := h.lb
  have hr : dg R ≤ b.length - 1 := dg_le_of fun n hn => d.z n (by omega)
  refine ⟨strip_nrm, strip_nrm, by rw [strip_len]; omega, by rw [strip_len]; have := dg_le R; rw [d.lR] at this; exact this, by rw [strip_len]; have := dg_le F; rw [d.lF] at this; exact this, fun n => ?_, fun n => ?_, fun n => ?_⟩
  · rw [cv_ext fun n => co_strip, co_strip]; exact d.e n
  · rw [co_strip]; exact d.bF n
  · rw [co_strip]; exact d.bR n
theorem DR.dv {q r : List K.T} (d : DR K a b Da Va Db Vb Di Vi q r) (ha : Nrm a) (hb : Nrm b) : Dv (K := K) ⟨a, ha⟩ ⟨b, hb⟩ ⟨q, d.nq⟩ ⟨r, d.nr⟩ :=
  ⟨d.lr, Pol.ext fun n => by show co a n = co (padd (pmul q b) r) n; rw [co_padd, co_pmul]; exact d.e n⟩
end
end Ek

namespace Ek
section
variable {K : Fl}
/-- a modulus of degree 1 to 4 with small coefficients -/
structure Md (K : Fl) (b : List K.T) (Di : Nat) : Prop where
  w : ∀ n, K = .f n → n < 2 ^ 60
  p : Fp K
  nb : Nrm b
  l2 : 2 ≤ b.length
  l5 : b.length ≤ 5
  bb : ∀ n, K.bd ⟨6, 4⟩ (co b n)
  d0 : 0 < Di
  d1 : Di ≤ 25
  bi : K.bd ⟨Di, 6⟩ (K.inv (co b (b.length - 1)))
variable {b x y r : List K.T} {Di i e : Nat}
theorem ok64 : Sz.Ok ⟨6, 4⟩ := ⟨by decide, by decide +kernel, by decide +kernel⟩
theorem Md.dh (M : Md K b Di) {D V s : Nat} (h0 : 0 < D) (hl : x.length ≤ 10) (hs : x.length + 1 ≤ b.length + s) (bx : ∀ n, K.bd ⟨D, V⟩ (co x n)) (ok : Sz.Ok ⟨D * (Di * 6) ^ s, V * 25 ^ s⟩) : DH K x b D V 6 4 Di 6 := by
  have l2 := M.l2
  have l5 := M.l5
  have d0 := M.d0
  have d1 := M.d1
  refine ⟨M.w, M.p, M.nb, by omega, by omega, by omega, h0, by omega, ok64, ⟨M.d0, Nat.lt_of_le_of_lt M.d1 (by decide +kernel), show 6 < 2 ^ EX by decide +kernel⟩, ?_, bx, M.bb, M.bi⟩
  refine sok ok (Nat.mul_pos h0 (Nat.pow_pos (by omega))) (Nat.mul_le_mul_left _ (Nat.pow_le_pow_right (by omega) (by omega))) (Nat.mul_le_mul_left _ (Nat.pow_le_pow_right (by omega) (by omega)))
theorem Md.br (M : Md K b Di) {D V s : Nat} {q : List K.T} (hs : x.length + 1 ≤ b.length + s) (d : DR K x b D V 6 4 Di 6 q r) (n : Nat) : K.bd ⟨D * (Di * 6) ^ s, V * 25 ^ s⟩ (co r n) := by
  have d0 := M.d0
  exact bd_mono (d.br n) (Nat.mul_dvd_mul_left _ (Nat.pow_dvd_pow _ (by omega))) (Nat.mul_le_mul_left _ (Nat.pow_le_pow_right (by omega) (by omega)))
/-- a product that is reduced: what the two texts need, and what comes out -/
structure PM (K : Fl) (b x y : List K.T) (Di D V D' V' : Nat) (P : List K.T → Prop) : Prop where
  okx : Sz.Ok ⟨D, V⟩
  oky : Sz.Ok ⟨D', V'⟩
  bx : ∀ n, K.bd ⟨D, V⟩ (co x n)
  by_ : ∀ n, K.bd ⟨D', V'⟩ (co y n)
  lx : x.length ≤ 5
  ly : y.length ≤ 5
  okm : Sz.Ok ⟨D * D', x.length * (V * V')⟩
  dh : DH K (pmul x y) b (D * D') (x.length * (V * V')) 6 4 Di 6
  res : ∀ q r, DR K (pmul x y) b (D * D') (x.length * (V * V')) 6 4 Di 6 q r → P r
theorem psum_bd' {D D' V W : Nat} {x y : List K.T} (hw : ∀ n, K = .f n → n < 2 ^ 60) (hx : ∀ n, K.bd ⟨D, V⟩ (co x n)) (hy : ∀ n, K.bd ⟨D', W⟩ (co y n)) (n : Nat) : ∀ i, K.bd ⟨D * D', i * (V * W)⟩ (ssum i fun i => if i ≤ n then co x i * co y (n - i) else 0)
  | 0 => bd_zero' hw
  | i + 1 => by
    have h := psum_bd' hw hx hy n i
    rw [ssum, Nat.succ_mul]
    refine bd_add h ?_
    split
    · exact bd_mul (hx _) (hy _)
    · exact bd_zero' hw
theorem len_pmul {x y : List K.T} : (pmul x y).length ≤ x.length + y.length := by
  unfold pmul
  rw [strip_len]
  refine Nat.le_trans (dg_le _) ?_
  simp
theorem PM.of (M : Md K b Di) {D V D' V' s : Nat} {P : List K.T → Prop} (h0 : 0 < D) (h0' : 0 < D') (v0 : 0 < V) (v0' : 0 < V') (bx : ∀ n, K.bd ⟨D, V⟩ (co x n)) (by_ : ∀ n, K.bd ⟨D', V'⟩ (co y n)) (lx : x.length ≤ 5) (ly : y.length ≤ 5)
    (hs : x.length + y.length + 1 ≤ b.length + s) (ok : Sz.Ok ⟨D * D' * (Di * 6) ^ s, 5 * (V * V') * 25 ^ s⟩) (hP : ∀ r, Nrm r → r.length < b.length → (∀ n, K.bd ⟨D * D' * (Di * 6) ^ s, 5 * (V * V') * 25 ^ s⟩ (co r n)) → P r) : PM K b x y Di D V D' V' P := by
  have d0 := M.d0
  have hl := len_pmul (x := x) (y := y)
  have p1 : 0 < (Di * 6) ^ s := Nat.pow_pos (by omega)
  have p2 : 0 < 25 ^ s := Nat.pow_pos (by omega)
  have pv : 0 < V * V' := Nat.mul_pos v0 v0'
  have hv : x.length * (V * V') ≤ 5 * (V * V') := Nat.mul_le_mul_right _ lx
  have bm : ∀ n, K.bd ⟨D * D', x.length * (V * V')⟩ (co (pmul x y) n) := fun n => by rw [co_pmul]; exact psum_bd' M.w bx by_ n _
  have a1 : V ≤ V * V' := Nat.le_mul_of_pos_right _ v0'
  have a2 : V' ≤ V * V' := Nat.le_mul_of_pos_left _ v0
  have a3 : V * V' ≤ 5 * (V * V') := Nat.le_mul_of_pos_left _ (by omega)
  have a4 : 5 * (V * V') ≤ 5 * (V * V') * 25 ^ s := Nat.le_mul_of_pos_right _ p2
  have e1 : D * D' ≤ D * D' * (Di * 6) ^ s := Nat.le_mul_of_pos_right _ p1
  have e2 : D ≤ D * D' := Nat.le_mul_of_pos_right _ h0'
  have e3 : D' ≤ D * D' := Nat.le_mul_of_pos_left _ h0
  have hs' : (pmul x y).length + 1 ≤ b.length + s := by omega
  refine ⟨sok ok h0 (by omega) (by omega), sok ok h0' (by omega) (by omega), bx, by_, lx, ly, sok ok (Nat.mul_pos h0 h0') e1 (by omega), M.dh (s := s) (Nat.mul_pos h0 h0') (by omega) hs' bm ?_, fun q r d => hP r d.nr d.lr fun n => ?_⟩
  · exact sok ok (Nat.mul_pos (Nat.mul_pos h0 h0') p1) (Nat.le_refl _) (Nat.mul_le_mul_right _ hv)
  · exact bd_mono (M.br hs' d n) (Nat.dvd_refl _) (Nat.mul_le_mul_right _ hv)
/-- the base at 2 ^ i -/
def Ai (K : Fl) (b : List K.T) (Di i : Nat) (x : List K.T) : Prop := Nrm x ∧ ((x.length < b.length ∧ ∀ n, K.bd ⟨6 ^ 2 ^ i * (Di * 6) ^ (8 * 2 ^ i - 4), 4 ^ 2 ^ i * 38 ^ (8 * 2 ^ i - 4)⟩ (co x n)) ∨ (i = 0 ∧ x.length ≤ 5 ∧ ∀ n, K.bd ⟨6, 4⟩ (co x n)))
/-- the result at exponent e -/
def Fe (K : Fl) (b : List K.T) (Di e : Nat) (x : List K.T) : Prop := Nrm x ∧ x.length < b.length ∧ ∀ n, K.bd ⟨6 ^ e * (Di * 6) ^ (8 * e), 4 ^ e * 38 ^ (8 * e)⟩ (co x n)
/-- over a prime field sizes do not matter -/
theorem Ai.f {n : Nat} (hK : K = .f n) (h : Ai K b Di i x) (hi : i ≠ 0) : Ai K b Di 1 x := by
  subst hK
  obtain ⟨hn, ⟨hl, hb⟩ | ⟨rfl, hl, hb⟩⟩ := h
  · exact ⟨hn, .inl ⟨hl, hb⟩⟩
  · exact absurd rfl hi
theorem Fe.f {n : Nat} (hK : K = .f n) (h : Fe K b Di e x) : Fe K b Di 0 x := by
  subst hK
  exact h
end
end Ek

namespace Ek
open PySem PySem.Spec PyProof.Rows L2
section
theorem map_drop {N j : Nat} {g : Nat → U} (h : j < N) : ((List.range N).map g).drop j = g j :: ((List.range N).map g).drop (j + 1) := by
  rw [List.drop_eq_getElem_cons (by simpa using h)]
  simp
theorem map_drop_all {N : Nat} {g : Nat → U} : ((List.range N).map g).drop N = [] := List.drop_eq_nil_of_le (by simp)
/-- a loop over N items -/
theorem for_mapR {A : U → Sl → Sto → (Sl → Sto → Prop) → Prop} {B : EndU → Sl → Sto → Prop} {D : EndU} {lv : Option Nat} {li : List U} {N : Nat} {g : Nat → U} {σ : Sl} {S : Sto} (I : Nat → Sl → Sto → Prop) (hl : ∀ j σ S, I j σ S → live lv S li) (h : I 0 σ S) (hn : ∀ σ S, I N σ S → D.nx σ S)
    (hs : ∀ j σ S (K : Sl → Sto → Prop), j < N → I j σ S → (∀ σ' S', I (j + 1) σ' S' → K σ' S') → A (g j) σ S fun σ1 S1 => B { D with nx := K, ct := K, bk := D.nx } σ1 S1) : forU A B D lv li ((List.range N).map g) σ S := by
  refine for_rule (fun xs σ S => ∃ j, j ≤ N ∧ xs = ((List.range N).map g).drop j ∧ I j σ S) ?_ ?_ ?_ _ _ _ ⟨0, by omega, rfl, h⟩
  · rintro xs σ S ⟨j, _, _, hj⟩; exact hl j σ S hj
  · rintro σ S ⟨j, hj, e, hi⟩
    rcases Nat.lt_or_ge j N with w | w
    · rw [map_drop w] at e; cases e
    · have : j = N := by omega
      subst this
      exact hn _ _ hi
  · rintro x xs σ S K ⟨j, hj, e, hi⟩ hK
    rcases Nat.lt_or_ge j N with w | w
    · rw [map_drop w] at e
      cases e
      exact hs j σ S K w hi fun σ' S' hi' => hK _ _ ⟨j + 1, w, rfl, hi'⟩
    · have : j = N := by omega
      subst this
      rw [map_drop_all] at e; cases e
theorem enum_map : ∀ (N m : Nat) (g : Nat → U), enumU m ((List.range N).map g) = (List.range N).map fun i => .tup [.int ((m + i : Nat) : Int), g i]
  | 0, m, g => rfl
  | N + 1, m, g => by
    rw [List.range_succ_eq_map, List.map_cons, List.map_cons, enumU, List.map_map, enum_map N (m + 1) (g ∘ Nat.succ), List.map_map]
    refine congr (congrArg _ ?_) ?_
    · simp
    · refine List.map_congr_left fun i _ => ?_
      simp only [Function.comp]
      rw [show m + 1 + i = m + Nat.succ i by omega]
theorem enum_map0 {N : Nat} {g : Nat → U} : enumU 0 ((List.range N).map g) = (List.range N).map fun i => .tup [.int ((i : Nat) : Int), g i] := by
  rw [enum_map]; simp
/-- a comprehension over N items that leaves the lists alone -/
theorem comp_mapR {B : U → Sl → (Sl → Prop) → Prop} {F : Sl → Sto → UQ → Prop} {σ : Sl} {S : Sto} {lv : Option Nat} {li : List U} {Qu : UQ} {N : Nat} {h : Nat → U} (g : Nat → U) (hl : live lv S li) (hN : N ≤ big) (hs : ∀ (j : Nat) (K' : UQ), j < N → K' (g j) S → B (h j) σ fun σ2 => F σ2 S K') (hq : Qu (.ref S.length) (S ++ [.lst ((List.range N).map g)])) :
    compU B (fun x0 S Q => Q true S) F σ lv li Qu ((List.range N).map h) [] S := by
  refine comp_rule (fun xs acc S' => S' = S ∧ ∃ j : Nat, j ≤ N ∧ xs = ((List.range N).map h).drop j ∧ acc = (List.range j).map g) ?_ ?_ ?_ _ _ _ ⟨rfl, 0, by omega, rfl, rfl⟩
  · rintro xs acc S' ⟨rfl, j, hj, rfl, rfl⟩
    refine ⟨hl, ?_⟩
    simp; omega
  · rintro acc S' ⟨rfl, j, hj, e, rfl⟩
    rcases Nat.lt_or_ge j N with w | w
    · rw [map_drop w] at e; cases e
    · have : j = N := by omega
      subst this
      exact hq
  · rintro x xs acc S' K ⟨rfl, j, hj, e, rfl⟩ hk
    rcases Nat.lt_or_ge j N with w | w
    · rw [map_drop w] at e
      cases e
      refine hs j K w (hk _ _ ⟨rfl, j + 1, w, rfl, ?_⟩)
      rw [List.range_succ, List.map_append]; rfl
    · have : j = N := by omega
      subst this
      rw [map_drop_all] at e; cases e
/-- a comprehension over N items that leaves lists of its own behind -/
theorem comp_mapG {B : U → Sl → (Sl → Prop) → Prop} {F : Sl → Sto → UQ → Prop} {σ : Sl} {S : Sto} {lv : Option Nat} {li : List U} {Qu : UQ} {N : Nat} {h : Nat → U} (g : Nat → U) (hl : ∀ T : Sto, live lv (S ++ T) li) (hN : N ≤ big) (hs : ∀ (j : Nat) (K' : UQ) (T : Sto), j < N → (∀ T', K' (g j) (S ++ T')) → B (h j) σ fun σ2 => F σ2 (S ++ T) K') (hq : ∀ T : Sto, Qu (.ref (S.length + T.length)) (S ++ T ++ [.lst ((List.range N).map g)])) :
    compU B (fun x0 S Q => Q true S) F σ lv li Qu ((List.range N).map h) [] S := by
  refine comp_rule (fun xs acc S' => ∃ T, S' = S ++ T ∧ ∃ j : Nat, j ≤ N ∧ xs = ((List.range N).map h).drop j ∧ acc = (List.range j).map g) ?_ ?_ ?_ _ _ _ ⟨[], by simp, 0, by omega, rfl, rfl⟩
  · rintro xs acc S' ⟨T, rfl, j, hj, rfl, rfl⟩
    refine ⟨hl T, ?_⟩
    simp; omega
  · rintro acc S' ⟨T, rfl, j, hj, e, rfl⟩
    rcases Nat.lt_or_ge j N with w | w
    · rw [map_drop w] at e; cases e
    · have : j = N := by omega
      subst this
      rw [List.length_append]
      exact hq T
  · rintro x xs acc S' K ⟨T, rfl, j, hj, e, rfl⟩ hk
    rcases Nat.lt_or_ge j N with w | w
    · rw [map_drop w] at e
      cases e
      refine hs j K T w fun T' => hk _ _ ⟨T', rfl, j + 1, w, rfl, ?_⟩
      rw [List.range_succ, List.map_append]; rfl
    · have : j = N := by omega
      subst this
      rw [map_drop_all] at e; cases e
theorem range_map : ∀ (N : Nat) (lo : Int), rangeU lo 1 N = (List.range N).map fun i => .int (lo + ((i : Nat) : Int))
  | 0, lo => rfl
  | N + 1, lo => by
    rw [List.range_succ_eq_map, List.map_cons, List.map_map, rangeU, range_map N (lo + 1)]
    refine congr (congrArg _ ?_) ?_
    · simp
    · refine List.map_congr_left fun i _ => ?_
      simp only [Function.comp]
      congr 1
      omega
theorem range_map0 {N : Nat} : rangeU 0 1 N = (List.range N).map fun i => .int ((i : Nat) : Int) := by
  rw [range_map]; simp
theorem set_mid {S T : Sto} {x y : Ob} : (S ++ [x] ++ T).set S.length y = S ++ [y] ++ T := by
  rw [List.append_assoc, List.set_append_right _ _ (Nat.le_refl _), Nat.sub_self]
  simp
theorem get_mid {S T : Sto} {x : Ob} : (S ++ [x] ++ T)[S.length]? = some x := by simp
theorem get_end {S T : Sto} {x : Ob} : (S ++ T ++ [x])[S.length + T.length]? = some x := by rw [← List.length_append]; simp
theorem get_end2 {S T : Sto} {x : Ob} : (S ++ T ++ [x])[(S ++ T).length]? = some x := by simp
theorem get_end3 {S T : Sto} {x y : Ob} : (S ++ [x] ++ T ++ [y])[S.length + 1 + T.length]? = some y := by
  have e : S.length + 1 + T.length = (S ++ [x] ++ T).length := by simp; omega
  rw [e]; simp
theorem get_draw {S T : Sto} {x : Ob} : (S ++ (T ++ [x]))[S.length + T.length]? = some x := by
  rw [← List.append_assoc]; exact get_end
theorem live_mid {S T : Sto} {us : List U} : live (some S.length) (S ++ [Ob.lst us] ++ T) us := ⟨_, get_mid, rfl⟩
theorem at_rangeN {N j : Nat} {g : Nat → U} (h : j < N) : atU ((List.range N).map g) ((j : Nat) : Int) = some (g j) := by
  unfold atU
  rw [if_pos (by omega)]
  simp [h]
mutual
theorem eqv_refl : ∀ (n : Nat) (u : U), U.dat n u = true → U.eqv u u = true
  | 0, u, h => absurd h (by simp [U.dat])
  | n + 1, .non, _ => rfl
  | n + 1, .bl b, _ => by cases b <;> rfl
  | n + 1, .int i, _ => by simp [U.eqv]
  | n + 1, .str x, _ => by simp [U.eqv]
  | n + 1, .tup us, h => by rw [U.eqv]; exact eqvs_refl n us h
  | n + 1, .ref h, e => Bool.noConfusion e
  | n + 1, .fz us, e => Bool.noConfusion e
theorem eqvs_refl : ∀ (n : Nat) (us : List U), U.dats n us = true → U.eqvs us us = true
  | n, [], _ => rfl
  | n, u :: us, h => by
    rw [U.dats, Bool.and_eq_true] at h
    rw [U.eqvs, eqv_refl n u h.1, eqvs_refl n us h.2]; rfl
end
theorem bnd_dat : ∀ (n : Nat) (u : U), U.dat n u = true → ∀ m, U.bnd m u = true
  | 0, u, h, _ => absurd h (by simp [U.dat])
  | n + 1, u, h, m => by
    cases u with
    | ref r => exact Bool.noConfusion h
    | fz us => exact Bool.noConfusion h
    | obj c g => exact Bool.noConfusion h
    | tup us =>
      have h2 : U.dats n us = true := h
      clear h
      revert h2
      show _ → U.bnds m us = true
      have key : ∀ us : List U, U.dats n us = true → U.bnds m us = true := by
        intro us
        induction us with
        | nil => intro _; rfl
        | cons v r ih =>
          intro h
          rw [U.dats, Bool.and_eq_true] at h
          rw [U.bnds, bnd_dat n v h.1 m, ih h.2]; rfl
      exact key us
    | _ => rfl
theorem fin_dat {S T : Sto} {Q : UQ} {u : U} {n : Nat} (hu : U.dat n u = true) (h : Q u S) : fin S Q u (S ++ T) := fin_keep (bnd_dat n u hu _) h
theorem fin_dat3 {S T T' T'' : Sto} {Q : UQ} {u : U} {n : Nat} (hu : U.dat n u = true) (h : Q u S) : fin S Q u (S ++ T ++ T' ++ T'') := by
  rw [List.append_assoc, List.append_assoc]; exact fin_dat hu h
theorem fin_dat2 {S T T' : Sto} {Q : UQ} {u : U} {n : Nat} (hu : U.dat n u = true) (h : Q u S) : fin S Q u (S ++ T ++ T') := by
  rw [List.append_assoc]; exact fin_dat hu h
theorem map_succ {N : Nat} {g : Nat → U} : (List.range N).map g ++ [g N] = (List.range (N + 1)).map g := by rw [List.range_succ, List.map_append]; rfl
theorem sl2 {a b c : U} : List.take (HT.sIx 3 3 (some 2) - 0) (List.drop 0 [a, b, c]) = [a, b] := rfl
structure Mx where
  R : Type
  ring : Lean.Grind.CommRing R
  dec : DecidableEq R
  d : U
  c : R → U
  ok : Nat → R → Prop
  mono : ∀ {i j x}, ok i x → i ≤ j → ok j x
  ok_add : ∀ {i x y}, ok i x → ok i y → ok (i + 1) (x + y)
  ok_mul : ∀ {i j x y}, ok i x → ok j y → 1 ≤ j → ok (i + 2 * j) (x * y)
  ok_neg : ∀ {i x}, ok i x → ok i (-x)
  ok_zero : ok 0 0
  ok_one : ok 1 1
  dat : ∀ {n x}, (c x).dat (n + 5) = true
instance instRingMx (M : Mx) : Lean.Grind.CommRing M.R := M.ring
instance instDecMx (M : Mx) : DecidableEq M.R := M.dec
variable (M : Mx)
def rowU (n : Nat) (f : Nat → M.R) : U := .tup ((List.range n).map fun j => M.c (f j))
def matU (m n : Nat) (f : Nat → Nat → M.R) : U := .tup [.int (m : Nat), .int (n : Nat), .tup ((List.range m).map fun i => rowU M n (f i))]
theorem dats_map {m : Nat} {α : Type} {f : α → U} : ∀ {l : List α}, (∀ x, U.dat m (f x) = true) → U.dats m (l.map f) = true
  | [], _ => rfl
  | x :: l, h => by rw [List.map_cons, U.dats, h x, dats_map h]; rfl
theorem dat_rowU {n k : Nat} {f : Nat → M.R} : (rowU M n f).dat (k + 6) = true := dats_map fun x => M.dat
theorem dat_matU {m n k : Nat} {f : Nat → Nat → M.R} : (matU M m n f).dat (k + 8) = true := by
  show (true && (true && ((U.dats (k + 6) _) && true))) = true
  rw [dats_map fun x => dat_rowU M]; rfl
theorem ok_ssum {M : Mx} {i : Nat} {f : Nat → M.R} (h : ∀ k, M.ok i (f k)) : ∀ n, M.ok (i + n) (ssum n f)
  | 0 => M.mono M.ok_zero (by omega)
  | n + 1 => M.mono (M.ok_add (i := i + n) (ok_ssum h n) (M.mono (h n) (by omega))) (by omega)
section
variable {R : Type} [Lean.Grind.CommRing R] [DecidableEq R] {n : Nat}
def mm (n : Nat) (f g : Nat → Nat → R) : Nat → Nat → R := fun a b => ssum n fun c => f a c * g c b
def idn : Nat → Nat → R := fun a b => if a = b then 1 else 0
def Er (n : Nat) (f g : Nat → Nat → R) : Prop := ∀ a b, a < n → b < n → f a b = g a b
theorem Er.rfl {f : Nat → Nat → R} : Er n f f := fun _ _ _ _ => Eq.refl _
theorem Er.symm {f g : Nat → Nat → R} (h : Er n f g) : Er n g f := fun a b x y => (h a b x y).symm
theorem Er.trans {f g h : Nat → Nat → R} (h1 : Er n f g) (h2 : Er n g h) : Er n f h := fun a b x y => (h1 a b x y).trans (h2 a b x y)
theorem ssum_one {h : Nat → R} : ∀ {m k : Nat}, k < m → (∀ i, i ≠ k → h i = 0) → ssum m h = h k
  | 0, _, hk, _ => absurd hk (by omega)
  | m + 1, k, hk, hz => by
    rw [ssum]
    rcases Nat.lt_or_ge k m with w | w
    · rw [ssum_one w hz, hz m (by omega)]; grind
    · have : k = m := by omega
      subst this
      rw [ssum_zero fun i hi => hz i (by omega)]; grind
end
theorem ext_fn {j : Nat} {α : Type} {c : α → U} {f : Nat → α} {x : α} : (List.range j).map (fun a => c (f a)) ++ [c x] = (List.range (j + 1)).map fun a => c (if a = j then x else f a) := by
  rw [List.range_succ, List.map_append]
  congr 1
  · exact List.map_congr_left fun a ha => by rw [if_neg (by have := List.mem_range.mp ha; omega)]
  · simp
theorem comp_draw {ns : List Int} {α : Type} {P : α → Prop} {c : α → U} {x0 : α} (hx0 : P x0) {B : U → Sl → (Sl → Prop) → Prop} {F : Sl → Sto → UQ → Prop} {σ : Sl} {R T0 : Sto} {B0 : Ob} {Qu : UQ} {N : Nat} {h : Nat → U} (hN : N ≤ big) (hB0 : Cb ns B0)
    (hs : ∀ (j : Nat) (K' : UQ) (B1 : Ob) (T : Sto), j < N → Cb ns B1 → (∀ B' x T', Cb ns B' → P x → K' (c x) (An ns :: An ns :: B' :: (R ++ T'))) → B (h j) σ fun σ2 => F σ2 (An ns :: An ns :: B1 :: (R ++ T)) K')
    (hq : ∀ (B' : Ob) (f : Nat → α) (T : Sto), Cb ns B' → (∀ a, P (f a)) → Qu (.ref (R.length + T.length + 3)) (An ns :: An ns :: B' :: (R ++ (T ++ [.lst ((List.range N).map fun a => c (f a))])))) :
    compU B (fun x0 S Q => Q true S) F σ none [] Qu ((List.range N).map h) [] (An ns :: An ns :: B0 :: (R ++ T0)) := by
  refine comp_rule (fun xs acc S' => ∃ B' T, Cb ns B' ∧ S' = An ns :: An ns :: B' :: (R ++ T) ∧ ∃ j : Nat, j ≤ N ∧ xs = ((List.range N).map h).drop j ∧ ∃ f : Nat → α, (∀ a, P (f a)) ∧ acc = (List.range j).map fun a => c (f a)) ?_ ?_ ?_ _ _ _ ⟨B0, T0, hB0, rfl, 0, by omega, rfl, fun _ => x0, fun _ => hx0, rfl⟩
  · rintro xs acc S' ⟨B', T, hB', rfl, j, hj, rfl, f, hf, rfl⟩
    refine ⟨trivial, ?_⟩
    simp; omega
  · rintro acc S' ⟨B', T, hB', rfl, j, hj, e, f, hf, rfl⟩
    rcases Nat.lt_or_ge j N with w | w
    · rw [map_drop w] at e; cases e
    · have : j = N := by omega
      subst this
      have := hq B' f T hB' hf
      rw [← List.append_assoc] at this
      have e2 : (An ns :: An ns :: B' :: (R ++ T)).length = R.length + T.length + 3 := by simp
      rw [e2]
      exact this
  · rintro x xs acc S' K ⟨B', T, hB', rfl, j, hj, e, f, hf, rfl⟩ hk
    rcases Nat.lt_or_ge j N with w | w
    · rw [map_drop w] at e
      cases e
      refine hs j K B' T w hB' fun B2 x T' hB2 hx => hk _ _ ⟨B2, T', hB2, rfl, j + 1, w, rfl, fun a => if a = j then x else f a, fun a => (by show P (if a = j then x else f a); split; exact hx; exact hf a), ext_fn⟩
    · have : j = N := by omega
      subst this
      rw [map_drop_all] at e; cases e
end
section
theorem pw_mono {a i j : Nat} (ha : 1 ≤ a) (h : i ≤ j) : a ^ i ≤ a ^ j := Nat.pow_le_pow_right ha h
theorem two64 {i : Nat} : 64 ^ i + 64 ^ i ≤ 64 ^ (i + 1) := by rw [Nat.pow_succ]; omega
@[reducible] def mxZ (d : U) : Mx where
  R := Int
  ring := inferInstance
  dec := inferInstance
  d := d
  c := U.int
  ok := fun i x => x.natAbs ≤ 64 ^ i
  mono := fun h hij => Nat.le_trans h (pw_mono (by omega) hij)
  ok_add := fun {i x y} hx hy => Nat.le_trans (Int.natAbs_add_le x y) (Nat.le_trans (Nat.add_le_add hx hy) two64)
  ok_mul := fun {i j x y} hx hy _ => by
    rw [Int.natAbs_mul]
    refine Nat.le_trans (Nat.mul_le_mul hx hy) ?_
    rw [← Nat.pow_add]; exact pw_mono (by omega) (by omega)
  ok_neg := fun {i x} h => by rw [Int.natAbs_neg]; exact h
  ok_zero := by decide
  ok_one := by decide
  dat := rfl
end
end Ek

namespace Ek
section
variable {R : Type} [Lean.Grind.CommRing R] [DecidableEq R]
def dt (w : Nat) (a x : Nat → R) : R := ssum w fun k => a k * x k
theorem dt_congr {w : Nat} {a b x y : Nat → R} (h : ∀ k, k < w → a k = b k) (h2 : ∀ k, k < w → x k = y k) : dt w a x = dt w b y := ssum_congr fun i hi => by rw [h i hi, h2 i hi]
def Ker (m w : Nat) (M : Nat → Nat → R) (x : Nat → R) : Prop := ∀ i, i < m → dt w (M i) x = 0
/-- the row r, times v, taken from the others so that the column j gets zeros -/
def clr (r j : Nat) (v : R) (M : Nat → Nat → R) : Nat → Nat → R := fun i k => if i = r then v * M r k else M i k - M i j * (v * M r k)
theorem clr_r {r j k : Nat} {v : R} {M : Nat → Nat → R} : clr r j v M r k = v * M r k := by unfold clr; rw [if_pos rfl]
theorem clr_o {r j k i : Nat} {v : R} {M : Nat → Nat → R} (h : i ≠ r) : clr r j v M i k = M i k - M i j * (v * M r k) := by unfold clr; rw [if_neg h]
/-- the rows in another order -/
structure Shf (m r f : Nat) (π : Nat → Nat) : Prop where
  lo : ∀ i, i < r → π i = i
  at_ : π r = f
  lt : ∀ i, i < m → π i < m
  up : ∀ i, r ≤ i → r ≤ π i
  onto : ∀ i, i < m → ∃ i', i' < m ∧ π i' = i
/-- in reduced echelon form in the first j columns, with r pivots p -/
structure Rf (m j r : Nat) (p : Nat → Nat) (M : Nat → Nat → R) : Prop where
  rm : r ≤ m
  lt : ∀ i, i < r → p i < j
  mono : ∀ i i', i < i' → i' < r → p i < p i'
  unit : ∀ i i', i < r → i' < m → M i' (p i) = if i' = i then 1 else 0
  before : ∀ i k, i < r → k < p i → M i k = 0
  below : ∀ i k, r ≤ i → i < m → k < j → M i k = 0
theorem Rf.start {m : Nat} {p : Nat → Nat} {M : Nat → Nat → R} : Rf m 0 0 p M := ⟨by omega, fun _ h => by omega, fun _ _ _ h => by omega, fun _ _ h => by omega, fun _ _ h => by omega, fun _ _ _ _ h => by omega⟩
theorem Rf.skip {m j r : Nat} {p : Nat → Nat} {M : Nat → Nat → R} (h : Rf m j r p M) (hz : ∀ i, r ≤ i → i < m → M i j = 0) : Rf m (j + 1) r p M :=
  ⟨h.rm, fun i hi => by have := h.lt i hi; omega, h.mono, h.unit, h.before, fun i k h1 h2 h3 => by
    by_cases e : k = j
    · rw [e]; exact hz i h1 h2
    · exact h.below i k h1 h2 (by omega)⟩
def upd {α : Type} (p : Nat → α) (r : Nat) (j : α) : Nat → α := fun i => if i = r then j else p i
theorem upd_at {α : Type} {p : Nat → α} {r : Nat} {j : α} : upd p r j r = j := if_pos rfl
theorem upd_ne {α : Type} {p : Nat → α} {r i : Nat} {j : α} (h : i ≠ r) : upd p r j i = p i := if_neg h
theorem Rf.step {m j r f : Nat} {p : Nat → Nat} {M : Nat → Nat → R} {π : Nat → Nat} {v : R} (h : Rf m j r p M) (hf : r ≤ f) (hm : f < m) (hπ : Shf m r f π) (hv : v * M f j = 1) : Rf m (j + 1) (r + 1) (upd p r j) (clr r j v fun i => M (π i)) := by
  have rm : r < m := by omega
  have z : ∀ i k, r ≤ i → i < m → k < j → M (π i) k = 0 := fun i k h1 h2 h3 => h.below _ k (hπ.up i h1) (hπ.lt i h2) h3
  have low : ∀ i k, k < j → i < m → clr r j v (fun i => M (π i)) i k = M (π i) k ∧ (r ≤ i → clr r j v (fun i => M (π i)) i k = 0) := fun i k hk hi => by
    have zr := z r k (by omega) rm hk
    constructor
    · by_cases e : i = r
      · rw [e, clr_r]; show v * M (π r) k = _; rw [zr]; grind
      · rw [clr_o e]; show M (π i) k - _ * (v * M (π r) k) = _; rw [zr]; grind
    · intro hr
      have zi := z i k hr hi hk
      by_cases e : i = r
      · rw [e, clr_r]; show v * M (π r) k = _; rw [zr]; grind
      · rw [clr_o e]; show M (π i) k - _ * (v * M (π r) k) = _; rw [zr, zi]; grind
  have cj : ∀ i, i < m → clr r j v (fun i => M (π i)) i j = if i = r then 1 else 0 := fun i hi => by
    by_cases e : i = r
    · rw [if_pos e, e, clr_r]; show v * M (π r) j = 1; rw [hπ.at_]; exact hv
    · rw [if_neg e, clr_o e]; show M (π i) j - M (π i) j * (v * M (π r) j) = 0; rw [hπ.at_, hv]; grind
  refine ⟨rm, fun i hi => ?_, fun i i' h1 h2 => ?_, fun i i' h1 h2 => ?_, fun i k h1 h2 => ?_, fun i k h1 h2 h3 => ?_⟩
  · by_cases e : i = r
    · rw [e, upd_at]; omega
    · rw [upd_ne e]; have := h.lt i (by omega); omega
  · by_cases e : i' = r
    · rw [e, upd_at, upd_ne (by omega)]; exact h.lt i (by omega)
    · rw [upd_ne e, upd_ne (by omega)]; exact h.mono i i' h1 (by omega)
  · by_cases e : i = r
    · rw [e, upd_at]; exact cj i' h2
    · have pj := h.lt i (by omega)
      rw [upd_ne e, (low i' (p i) pj h2).1]
      by_cases w : i' < r
      · rw [hπ.lo i' w]; exact h.unit i i' (by omega) h2
      · rw [z i' (p i) (by omega) h2 pj, if_neg (by omega)]
  · by_cases e : i = r
    · rw [e, upd_at] at h2
      exact (low i k h2 (by omega)).2 (by omega)
    · rw [upd_ne e] at h2
      have := h.lt i (by omega)
      rw [(low i k (by omega) (by omega)).1, hπ.lo i (by omega)]
      exact h.before i k (by omega) h2
  · by_cases e : k = j
    · rw [e, cj i h2, if_neg (by omega)]
    · exact (low i k (by omega) h2).2 (by omega)
theorem ssum_one' {h : Nat → R} {m k : Nat} (hk : k < m) (hz : ∀ i, i < m → i ≠ k → h i = 0) : ssum m h = h k := by
  rw [ssum_congr (g := fun i => if i = k then h k else 0) fun i hi => by
    by_cases e : i = k
    · rw [if_pos e, e]
    · rw [if_neg e, hz i hi e], ssum_one (k := k) hk fun i hi => if_neg hi, if_pos rfl]
/-- one at k, at the pivots what the form says -/
def kv (r : Nat) (p : Nat → Nat) (M : Nat → Nat → R) (k : Nat) : Nat → R := fun c => (if c = k then 1 else 0) - ssum r fun i => if p i = c then M i k else 0
theorem Rf.inj {m j r : Nat} {p : Nat → Nat} {M : Nat → Nat → R} (h : Rf m j r p M) {i i' : Nat} (h1 : i < r) (h2 : i' < r) (e : p i = p i') : i = i' := by
  rcases Nat.lt_trichotomy i i' with w | w | w
  · have := h.mono _ _ w h2; omega
  · exact w
  · have := h.mono _ _ w h1; omega
theorem dt_kv {r j k : Nat} {p : Nat → Nat} {M : Nat → Nat → R} {a : Nat → R} (hp : ∀ i, i < r → p i < j) (hk : k < j) : dt j a (kv r p M k) = a k - ssum r fun i => a (p i) * M i k := by
  unfold dt kv
  rw [show (fun c => a c * ((if c = k then 1 else 0) - ssum r fun i => if p i = c then M i k else 0)) = fun c => (if c = k then a c else 0) + -(ssum r fun i => if p i = c then a c * M i k else 0) from funext fun c => by
    have : (ssum r fun i => if p i = c then a c * M i k else 0) = a c * ssum r fun i => if p i = c then M i k else 0 := by
      rw [← mul_ssum]
      exact ssum_congr fun i _ => by split <;> grind
    rw [this]
    split <;> grind, ssum_add, ssum_neg, ssum_one (k := k) hk fun i hi => if_neg hi, if_pos rfl, ssum_swap]
  rw [show (ssum r fun i => ssum j fun c => if p i = c then a c * M i k else 0) = ssum r fun i => a (p i) * M i k from ssum_congr fun i hi => by
    rw [ssum_one (k := p i) (hp i hi) fun c hc => if_neg (Ne.symm hc), if_pos rfl]]
  grind
theorem Rf.kvk {m j r k : Nat} {p : Nat → Nat} {M : Nat → Nat → R} (h : Rf m j r p M) (hk : k < j) : Ker m j M (kv r p M k) := fun i hi => by
  rw [dt_kv h.lt hk]
  by_cases w : i < r
  · rw [ssum_one' (k := i) w fun i' hi hi' => ?_, h.unit i i w hi, if_pos rfl]
    · grind
    · rw [h.unit i' i hi ‹_›, if_neg (Ne.symm hi')]; grind
  · rw [h.below i k (by omega) hi hk, ssum_zero fun i' hi' => by rw [h.unit i' i hi' hi, if_neg (by omega)]; grind]
    grind
theorem Rf.kv_hi {m j r k c : Nat} {p : Nat → Nat} {M : Nat → Nat → R} (h : Rf m j r p M) (hc : k < c) : kv r p M k c = 0 := by
  unfold kv
  rw [if_neg (by omega), ssum_zero fun i hi => ?_]
  · grind
  · by_cases e : p i = c
    · rw [if_pos e]; exact h.before i k hi (by omega)
    · rw [if_neg e]
theorem Rf.kv_no {r k : Nat} {p : Nat → Nat} {M : Nat → Nat → R} (hk : ∀ i, i < r → p i ≠ k) : kv r p M k k = 1 := by
  unfold kv
  rw [if_pos rfl, ssum_zero fun i hi => if_neg (hk i hi)]
  grind
theorem Rf.top {m j r k : Nat} {p : Nat → Nat} {M : Nat → Nat → R} {x : Nat → R} (h : Rf m j r p M) {i : Nat} (hi : i < r) (hk : p i = k) (hx : Ker m j M x) (hz : ∀ c, k < c → x c = 0) : x k = 0 := by
  have hm := h.rm
  have e := hx i (by omega)
  have hj := h.lt i hi
  unfold dt at e
  rw [ssum_one' (k := k) (by omega) fun c h1 h2 => ?_] at e
  · have u := h.unit i i hi (by omega)
    rw [if_pos rfl, hk] at u
    rw [u] at e
    grind
  · rcases Nat.lt_or_ge c k with w | w
    · rw [h.before i c hi (by omega)]; grind
    · rw [hz c (by omega)]; grind
/-- which columns hold pivots -/
theorem Rf.piv {m j r r' k : Nat} {p p' : Nat → Nat} {M M' : Nat → Nat → R} (h10 : (1 : R) ≠ 0) (h : Rf m j r p M) (h' : Rf m j r' p' M') (hk : ∀ x, Ker m j M x ↔ Ker m j M' x) (hp : ∃ i, i < r ∧ p i = k) : ∃ i, i < r' ∧ p' i = k := by
  by_cases w : ∃ i, i < r' ∧ p' i = k
  · exact w
  · exfalso
    obtain ⟨i, hi, e⟩ := hp
    have kj : k < j := by rw [← e]; exact h.lt i hi
    have := h.top hi e ((hk _).2 (h'.kvk kj)) fun c hc => h'.kv_hi hc
    rw [Rf.kv_no fun i hi he => w ⟨i, hi, he⟩] at this
    exact h10 this
theorem sorted_le {r r' : Nat} {p p' : Nat → Nat} (hm : ∀ i i', i < i' → i' < r → p i < p i') (hm' : ∀ i i', i < i' → i' < r' → p' i < p' i') (hp : ∀ i, i < r → ∃ i', i' < r' ∧ p' i' = p i) : ∀ i, i < r → i < r' ∧ p' i ≤ p i
  | i, hi => by
    obtain ⟨l, hl, e⟩ := hp i hi
    rcases Nat.lt_or_ge l i with w | w
    · exfalso
      obtain ⟨h1, h2⟩ := sorted_le hm hm' hp l (by omega)
      have := hm l i w hi
      omega
    · refine ⟨by omega, ?_⟩
      rcases Nat.lt_or_ge i l with w2 | w2
      · have := hm' i l w2 hl; omega
      · have : i = l := by omega
        subst this; omega
structure RfEq (m j r r' : Nat) (p p' : Nat → Nat) (M M' : Nat → Nat → R) : Prop where
  eR : r = r'
  eP : ∀ i, i < r → p i = p' i
  eM : ∀ i k, i < m → k < j → M i k = M' i k
theorem Rf.uniq {m j r r' : Nat} {p p' : Nat → Nat} {M M' : Nat → Nat → R} (h10 : (1 : R) ≠ 0) (h : Rf m j r p M) (h' : Rf m j r' p' M') (hk : ∀ x, Ker m j M x ↔ Ker m j M' x) : RfEq m j r r' p p' M M' := by
  have a := sorted_le h.mono h'.mono fun i hi => h.piv h10 h' hk ⟨i, hi, rfl⟩
  have b := sorted_le h'.mono h.mono fun i hi => h'.piv h10 h (fun x => (hk x).symm) ⟨i, hi, rfl⟩
  have er : r = r' := by
    rcases Nat.lt_trichotomy r r' with w | w | w
    · have := (b r w).1; omega
    · exact w
    · have := (a r' w).1; omega
  subst er
  have ep : ∀ i, i < r → p i = p' i := fun i hi => Nat.le_antisymm (b i hi).2 (a i hi).2
  refine ⟨rfl, ep, fun i k hi hk' => ?_⟩
  by_cases w : i < r
  · have e := (hk _).1 (h.kvk hk') i hi
    rw [dt_kv h.lt hk', ssum_one' (k := i) w fun i' h1 h2 => ?_] at e
    · rw [ep i w, h'.unit i i w hi, if_pos rfl] at e
      grind
    · rw [ep i' h1, h'.unit i' i h1 hi, if_neg (Ne.symm h2)]; grind
  · rw [h.below i k (by omega) hi hk', h'.below i k (by omega) hi hk']
end
section
def Fl.nd : (K : Fl) → Nat → Nat → K.T → Prop
  | .q, D, N, (x : Rat) => ∃ a : Int, x * (D : Int) = (a : Rat) ∧ a.natAbs ≤ N
  | .f n, _, _, _ => n < 2 ^ 60
variable {K : Fl}
theorem rat_den (x : Rat) : x * (x.den : Rat) = (x.num : Rat) := by
  rw [Rat.mul_def', Rat.num_natCast, Rat.den_natCast, Nat.mul_one]
  have h := Rat.mkRat_mul_right (n := x.num) (d := 1) x.den_nz
  rw [Nat.one_mul] at h
  rw [h]
  exact Rat.mkRat_one _
theorem rat_num {x : Rat} {D a : Int} (h : x * (D : Rat) = (a : Rat)) : x.num * D = a * x.den := by
  have h1 : x * (x.den : Rat) = (x.num : Rat) := rat_den x
  have h2 : ((x.num * D : Int) : Rat) = ((a * x.den : Int) : Rat) := by
    rw [Rat.intCast_mul, Rat.intCast_mul, ← h1, ← h]
    have : (((x.den : Nat) : Int) : Rat) = (x.den : Rat) := rfl
    rw [this]
    grind
  exact Rat.intCast_inj.mp h2
theorem nd_bd {D N : Nat} {x : K.T} (hD : 0 < D) (h : K.nd D N x) : K.bd ⟨D, N⟩ x := by
  cases K with
  | f n => exact h
  | q =>
    revert x
    intro (x : Rat) h
    obtain ⟨a, e, hN⟩ : ∃ a : Int, x * (D : Int) = (a : Rat) ∧ a.natAbs ≤ N := h
    have e2 := rat_num e
    have e3 : x.num.natAbs * D = a.natAbs * x.den := by
      have := congrArg Int.natAbs e2
      rwa [Int.natAbs_mul, Int.natAbs_mul, Int.natAbs_natCast, Int.natAbs_natCast] at this
    have hd : x.den ∣ D := by
      have : x.den ∣ x.num.natAbs * D := ⟨a.natAbs, by rw [e3, Nat.mul_comm]⟩
      exact (Nat.Coprime.dvd_of_dvd_mul_left x.reduced.symm this)
    refine ⟨hd, ?_⟩
    obtain ⟨c, hc⟩ := hd
    have hd0 := x.den_pos
    have hc0 : 0 < c := by
      rcases Nat.eq_zero_or_pos c with z | z
      · rw [z] at hc; omega
      · exact z
    have e4 : x.num.natAbs * c = a.natAbs := by
      have : x.den * (x.num.natAbs * c) = x.den * a.natAbs := by
        rw [Nat.mul_comm x.den a.natAbs, ← e3, hc, Nat.mul_left_comm]
      exact Nat.eq_of_mul_eq_mul_left hd0 this
    have h5 : x.num.natAbs * 1 ≤ x.num.natAbs * c := Nat.mul_le_mul_left _ hc0
    have h6 : N * 1 ≤ N * x.den := Nat.mul_le_mul_left _ hd0
    show x.num.natAbs ≤ N * x.den
    omega
theorem nd_mono {D N N' : Nat} {x : K.T} (h : K.nd D N x) (hN : N ≤ N') : K.nd D N' x := by
  cases K with
  | f n => exact h
  | q =>
    obtain ⟨a, e, ha⟩ := h
    exact ⟨a, e, Nat.le_trans ha hN⟩
theorem nd_scale {D N c : Nat} {x : K.T} (h : K.nd D N x) : K.nd (D * c) (N * c) x := by
  cases K with
  | f n => exact h
  | q =>
    obtain ⟨a, e, ha⟩ := h
    revert x
    intro (x : Rat) e
    refine ⟨a * c, ?_, ?_⟩
    · rw [Rat.intCast_mul, ← e, Int.natCast_mul, Rat.intCast_mul]
      grind
    · rw [Int.natAbs_mul, Int.natAbs_natCast]; exact Nat.mul_le_mul_right _ ha
theorem nd_mul {D N D' N' : Nat} {x y : K.T} (h : K.nd D N x) (h' : K.nd D' N' y) : K.nd (D * D') (N * N') (x * y) := by
  cases K with
  | f n => exact h
  | q =>
    obtain ⟨a, e, ha⟩ := h
    obtain ⟨b, e', hb⟩ := h'
    revert x y
    intro (x : Rat) (y : Rat) e e'
    refine ⟨a * b, ?_, ?_⟩
    · rw [Rat.intCast_mul, ← e, ← e', Int.natCast_mul, Rat.intCast_mul]
      show x * y * _ = _
      grind
    · rw [Int.natAbs_mul]; exact Nat.mul_le_mul ha hb
theorem nd_add {D N N' : Nat} {x y : K.T} (h : K.nd D N x) (h' : K.nd D N' y) : K.nd D (N + N') (x + y) := by
  cases K with
  | f n => exact h
  | q =>
    obtain ⟨a, e, ha⟩ := h
    obtain ⟨b, e', hb⟩ := h'
    revert x y
    intro (x : Rat) (y : Rat) e e'
    refine ⟨a + b, ?_, ?_⟩
    · rw [Rat.intCast_add, ← e, ← e']
      show (x + y) * _ = _
      grind
    · exact Nat.le_trans (Int.natAbs_add_le a b) (Nat.add_le_add ha hb)
theorem nd_neg {D N : Nat} {x : K.T} (h : K.nd D N x) : K.nd D N (-x) := by
  cases K with
  | f n => exact h
  | q =>
    obtain ⟨a, e, ha⟩ := h
    revert x
    intro (x : Rat) e
    refine ⟨-a, ?_, ?_⟩
    · rw [Rat.intCast_neg, ← e]
      show (-x) * _ = _
      grind
    · rw [Int.natAbs_neg]; exact ha
theorem nd_zero (hw : ∀ n, K = .f n → n < 2 ^ 60) {D N : Nat} : K.nd D N (0 : K.T) := by
  cases K with
  | f n => exact hw n rfl
  | q => exact ⟨0, (by show (0 : Rat) * _ = _; rw [Rat.zero_mul]; rfl), Nat.zero_le _⟩
theorem nd_one (hw : ∀ n, K = .f n → n < 2 ^ 60) {D : Nat} : K.nd D D (1 : K.T) := by
  cases K with
  | f n => exact hw n rfl
  | q => exact ⟨D, (by show (1 : Rat) * _ = _; rw [Rat.one_mul]), by rw [Int.natAbs_natCast]; exact Nat.le_refl _⟩
/-- what a pivot does to the sizes -/
structure Pz1 (K : Fl) (D N P : Nat) (p : K.T) : Prop where
  pos : 0 < P
  le : P ≤ N
  quo : ∀ {M : Nat} {x : K.T}, K.nd D M x → K.nd P M (K.inv p * x)
  inv : K.nd P D (K.inv p)
theorem nd_piv {D N : Nat} {p : K.T} (hD : 0 < D) (hN : 0 < N) (hp : p ≠ 0) (h : K.nd D N p) : ∃ P, Pz1 K D N P p := by
  cases K with
  | f n => exact ⟨1, by omega, hN, fun h => h, h⟩
  | q =>
    obtain ⟨a, e, ha⟩ := h
    revert p
    intro (p : Rat) hp e
    have hpi : p * p⁻¹ = 1 := Rat.mul_inv_cancel p hp
    have a0 : a ≠ 0 := fun z => by
      rw [z] at e
      have e : p * ((D : Int) : Rat) = 0 := e
      have h2 : p⁻¹ * (p * ((D : Int) : Rat)) = 0 := by rw [e]; grind
      have hd : ((D : Int) : Rat) = ((0 : Int) : Rat) := by
        show _ = (0 : Rat)
        grind
      have := Rat.intCast_inj.mp hd
      omega
    have es : ((a.natAbs : Nat) : Int) = a.sign * a := by rcases Int.lt_or_gt_of_ne a0 with w | w; rw [Int.sign_eq_neg_one_of_neg w]; omega; rw [Int.sign_eq_one_of_pos w]; omega
    have sa : a.sign.natAbs = 1 := Int.natAbs_sign_of_ne_zero a0
    refine ⟨a.natAbs, by omega, ha, fun {M} {x} h => ?_, ?_⟩
    · obtain ⟨b, e', hb⟩ := h
      revert x
      intro (x : Rat) e'
      refine ⟨a.sign * b, ?_, by rw [Int.natAbs_mul, sa]; omega⟩
      show (p⁻¹ * x) * _ = _
      rw [es, Rat.intCast_mul, Rat.intCast_mul, ← e, ← e']
      grind
    · refine ⟨a.sign * D, ?_, by rw [Int.natAbs_mul, sa, Int.natAbs_natCast]; omega⟩
      show p⁻¹ * _ = _
      rw [es, Rat.intCast_mul, Rat.intCast_mul, ← e]
      grind
end
end Ek

namespace Ek
section
variable {R : Type} [Lean.Grind.CommRing R] [DecidableEq R]
/-- 1 or -1 -/
def sg : Nat → R
  | 0 => 1
  | n + 1 => -sg n
theorem sg_add : ∀ a b : Nat, (sg (a + b) : R) = sg a * sg b
  | a, 0 => by rw [Nat.add_zero, sg]; grind
  | a, b + 1 => by rw [← Nat.add_assoc, sg, sg, sg_add a b]; grind
theorem sg_sq : ∀ a : Nat, (sg a : R) * sg a = 1
  | 0 => by rw [sg]; grind
  | a + 1 => by rw [sg]; have : (sg a : R) * sg a = 1 := sg_sq a; grind
theorem sg_two (a : Nat) : (sg (a + a) : R) = 1 := by rw [sg_add, sg_sq]
/-- the numbers but i -/
def sk (i k : Nat) : Nat := if k < i then k else k + 1
theorem sk_lo {i k : Nat} (h : k < i) : sk i k = k := if_pos h
theorem sk_hi {i k : Nat} (h : i ≤ k) : sk i k = k + 1 := if_neg (by omega)
theorem sk_ne (i k : Nat) : sk i k ≠ i := by unfold sk; split <;> omega
/-- where r is found among the numbers but i -/
def sb (i r : Nat) : Nat := if r < i then r else r - 1
theorem sk_sb {i r : Nat} (h : i ≠ r) : sk i (sb i r) = r := by unfold sk sb; split <;> (try split) <;> omega
theorem sb_sk {i a : Nat} : sb i (sk i a) = a := by unfold sk sb; split <;> (try split) <;> omega
theorem sb_lt {i r n : Nat} (h : i ≠ r) (hi : i < n + 1) (hr : r < n + 1) : sb i r < n := by unfold sb; split <;> omega
theorem sk_lt {i a n : Nat} (hi : i < n + 1) (ha : a < n) : sk i a < n + 1 := by unfold sk; split <;> omega
theorem upd_sk_ne {α : Type} {M : Nat → α} {i r : Nat} {v : α} (h : i ≠ r) : (fun a => upd M r v (sk i a)) = upd (fun a => M (sk i a)) (sb i r) v := by
  funext a
  unfold upd
  by_cases e : a = sb i r
  · rw [if_pos e, e, sk_sb h, if_pos rfl]
  · rw [if_neg e, if_neg fun z => e (by rw [← z, sb_sk])]
theorem upd_sk_eq {α : Type} {M : Nat → α} {i : Nat} {v : α} : (fun a => upd M i v (sk i a)) = fun a => M (sk i a) := by
  funext a
  exact upd_ne (sk_ne i a)
/-- the determinant of the first n rows and columns -/
def det : Nat → (Nat → Nat → R) → R
  | 0, _ => 1
  | n + 1, M => ssum (n + 1) fun i => sg (n + i) * M i n * det n fun a => M (sk i a)
theorem det_succ {n : Nat} {M : Nat → Nat → R} : det (n + 1) M = ssum (n + 1) fun i => sg (n + i) * M i n * det n fun a => M (sk i a) := rfl
theorem det_congr : ∀ {n : Nat} {M N : Nat → Nat → R}, (∀ i j, i < n → j < n → M i j = N i j) → det n M = det n N
  | 0, _, _, _ => rfl
  | n + 1, M, N, h => by
    rw [det_succ, det_succ]
    exact ssum_congr fun i hi => by
      rw [h i n hi (by omega), det_congr (M := fun a => M (sk i a)) (N := fun a => N (sk i a)) fun a b ha hb => h _ _ (sk_lt hi ha) (by omega)]
theorem det_lin : ∀ {n r : Nat} {M : Nat → Nat → R} {x y : Nat → R} {a b : R}, r < n → det n (upd M r fun k => a * x k + b * y k) = a * det n (upd M r x) + b * det n (upd M r y)
  | 0, _, _, _, _, _, _, h => absurd h (by omega)
  | n + 1, r, M, x, y, a, b, h => by
    rw [det_succ, det_succ, det_succ, ← mul_ssum, ← mul_ssum, ← ssum_add]
    refine ssum_congr fun i hi => ?_
    by_cases e : i = r
    · subst e
      rw [upd_sk_eq, upd_sk_eq, upd_sk_eq, upd_at, upd_at, upd_at]
      grind
    · rw [upd_sk_ne e, upd_sk_ne e, upd_sk_ne e, upd_ne e, upd_ne e, upd_ne e, det_lin (sb_lt e hi h)]
      grind
theorem det_scale {n r : Nat} {M : Nat → Nat → R} {x : Nat → R} {a : R} (h : r < n) : det n (upd M r fun k => a * x k) = a * det n (upd M r x) := by
  have := det_lin (M := M) (x := x) (y := x) (a := a) (b := 0) h
  rw [show (fun k => a * x k + 0 * x k) = fun k => a * x k from funext fun k => by grind] at this
  rw [this]; grind
theorem det_add {n r : Nat} {M : Nat → Nat → R} {x y : Nat → R} (h : r < n) : det n (upd M r fun k => x k + y k) = det n (upd M r x) + det n (upd M r y) := by
  have := det_lin (M := M) (x := x) (y := y) (a := 1) (b := 1) h
  rw [show (fun k => 1 * x k + 1 * y k) = fun k => x k + y k from funext fun k => by grind] at this
  rw [this]; grind
theorem det_zrow {n r : Nat} {M : Nat → Nat → R} (h : r < n) (hz : ∀ k, k < n → M r k = 0) : det n M = 0 := by
  have := det_scale (M := M) (x := M r) (a := 0) h
  rw [det_congr (N := M) fun i j hi hj => ?_] at this
  · rw [this]; grind
  · by_cases e : i = r
    · rw [e, upd_at, hz j hj]; grind
    · rw [upd_ne e]
theorem upd_self {α : Type} {M : Nat → α} {r : Nat} : upd M r (M r) = M := by
  funext a
  unfold upd
  split
  · rename_i h; rw [h]
  · rfl
theorem ssum_pair {n r : Nat} {f : Nat → R} (hr : r + 1 < n) (hz : ∀ i, i < n → i ≠ r → i ≠ r + 1 → f i = 0) : ssum n f = f r + f (r + 1) := by
  have h1 := ssum_one' (h := fun i => if i = r + 1 then 0 else f i) (show r < n by omega) fun i hi hne => by
    by_cases e : i = r + 1
    · exact if_pos e
    · show (if i = r + 1 then 0 else f i) = 0
      rw [if_neg e]; exact hz i hi hne e
  have h2 := ssum_one' (h := fun i => if i = r + 1 then f i else 0) hr fun i hi hne => if_neg hne
  have h3 := ssum_add (n := n) (f := fun i => if i = r + 1 then 0 else f i) (g := fun i => if i = r + 1 then f i else 0)
  rw [ssum_congr (g := f) fun i _ => by by_cases e : i = r + 1; rw [if_pos e, if_pos e]; grind; rw [if_neg e, if_neg e]; grind, h1, h2] at h3
  simp at h3
  exact h3
/-- two rows that are alike, side by side -/
theorem det_eq_adj : ∀ {n r : Nat} {M : Nat → Nat → R}, r + 1 < n → (∀ k, M r k = M (r + 1) k) → det n M = 0
  | 0, _, _, h, _ => absurd h (by omega)
  | n + 1, r, M, h, he => by
    have heq : M r = M (r + 1) := funext he
    rw [det_succ, ssum_pair h fun i hi h1 h2 => ?_]
    · have e : (fun a => M (sk r a)) = fun a => M (sk (r + 1) a) := by
        funext a
        rcases Nat.lt_trichotomy a r with w | w | w
        · rw [sk_lo w, sk_lo (by omega)]
        · subst w; rw [sk_hi (Nat.le_refl _), sk_lo (by omega), heq]
        · rw [sk_hi (by omega), sk_hi (by omega)]
      rw [e, heq, ← Nat.add_assoc, sg]
      grind
    · have z : det n (fun a => M (sk i a)) = 0 := by
        rcases Nat.lt_or_ge i r with w | w
        · refine det_eq_adj (r := r - 1) (by omega) fun k => ?_
          rw [sk_hi (by omega), sk_hi (by omega), show r - 1 + 1 = r by omega, he]
        · refine det_eq_adj (r := r) (by omega) fun k => ?_
          rw [sk_lo (by omega), sk_lo (by omega), he]
      rw [z]; grind
theorem upd_comm {α : Type} {M : Nat → α} {r s : Nat} {x y : α} (h : r ≠ s) : upd (upd M r x) s y = upd (upd M s y) r x := by
  funext a
  unfold upd
  by_cases e : a = s
  · rw [if_pos e, if_neg (by omega), if_pos e]
  · rw [if_neg e]
    by_cases e2 : a = r
    · rw [if_pos e2, if_pos e2]
    · rw [if_neg e2, if_neg e2, if_neg e]
/-- what is zero whenever the rows r and s are alike changes its sign with them -/
theorem det_sw_of {n r s : Nat} (hr : r < n) (hs : s < n) (hne : r ≠ s) (hz : ∀ (M : Nat → Nat → R), (∀ k, M r k = M s k) → det n M = 0) (M : Nat → Nat → R) (x y : Nat → R) : det n (upd (upd M r x) s y) = -det n (upd (upd M r y) s x) := by
  have z : ∀ v : Nat → R, det n (upd (upd M r v) s v) = 0 := fun v => hz _ fun k => by rw [upd_at, upd_ne hne, upd_at]
  have h := z fun k => x k + y k
  rw [det_add hs, upd_comm hne, upd_comm hne, det_add hr, det_add hr, upd_comm (Ne.symm hne), upd_comm (Ne.symm hne), upd_comm (Ne.symm hne), upd_comm (Ne.symm hne), z, z] at h
  grind
/-- two rows that are alike -/
theorem det_eq : ∀ (d : Nat) {n r : Nat} {M : Nat → Nat → R}, r + d + 1 < n → (∀ k, M r k = M (r + d + 1) k) → det n M = 0
  | 0, n, r, M, h, he => det_eq_adj h he
  | d + 1, n, r, M, h, he => by
    have sw := det_sw_of (n := n) (r := r + d + 1) (s := r + d + 1 + 1) (by omega) h (by omega) (fun M hM => det_eq_adj h hM) M (M (r + d + 1)) (M (r + d + 1 + 1))
    have e : upd (upd M (r + d + 1) (M (r + d + 1))) (r + d + 1 + 1) (M (r + d + 1 + 1)) = M := by rw [upd_self, upd_self]
    rw [e] at sw
    rw [sw, det_eq d (r := r) (by omega) fun k => ?_]
    · grind
    · rw [upd_ne (by omega), upd_ne (by omega), upd_ne (by omega), upd_at, he]; rfl
theorem det_alike {n r s : Nat} {M : Nat → Nat → R} (hr : r < n) (hs : s < n) (hne : r ≠ s) (he : ∀ k, M r k = M s k) : det n M = 0 := by
  rcases Nat.lt_or_ge r s with w | w
  · obtain ⟨d, rfl⟩ : ∃ d, s = r + d + 1 := ⟨s - r - 1, by omega⟩
    exact det_eq d hs he
  · obtain ⟨d, rfl⟩ : ∃ d, r = s + d + 1 := ⟨r - s - 1, by omega⟩
    exact det_eq d hr fun k => (he k).symm
theorem det_sw {n r s : Nat} (hr : r < n) (hs : s < n) (hne : r ≠ s) (M : Nat → Nat → R) : det n (upd (upd M r (M s)) s (M r)) = -det n M := by
  have := det_sw_of hr hs hne (fun M hM => det_alike hr hs hne hM) M (M s) (M r)
  rw [upd_self, upd_self] at this
  exact this
theorem det_addrow {n r s : Nat} {c : R} (hr : r < n) (hs : s < n) (hne : r ≠ s) (M : Nat → Nat → R) : det n (upd M r fun k => M r k + c * M s k) = det n M := by
  have := det_lin (M := M) (x := M r) (y := M s) (a := 1) (b := c) hr
  rw [show (fun k => 1 * M r k + c * M s k) = fun k => M r k + c * M s k from funext fun k => by grind, upd_self, det_alike (M := upd M r (M s)) hr hs hne fun k => by rw [upd_at, upd_ne (Ne.symm hne)]] at this
  rw [this]; grind
/-- a row's multiples added to the others -/
theorem det_addrows {n r : Nat} (hr : r < n) (c : Nat → R) (M : Nat → Nat → R) : ∀ l, l ≤ n → det n (fun i k => if i < l ∧ i ≠ r then M i k + c i * M r k else M i k) = det n M
  | 0, _ => det_congr fun i j _ _ => if_neg (by omega)
  | l + 1, hl => by
    by_cases e : l = r
    · rw [← det_addrows hr c M l (by omega)]
      exact det_congr fun i j _ _ => by
        by_cases w : i < l ∧ i ≠ r
        · rw [if_pos w, if_pos ⟨by omega, w.2⟩]
        · rw [if_neg w, if_neg (by omega)]
    · rw [← det_addrows hr c M l (by omega), ← det_addrow (c := c l) (show l < n by omega) hr e fun i k => if i < l ∧ i ≠ r then M i k + c i * M r k else M i k]
      refine det_congr fun i j _ _ => ?_
      by_cases w : i = l
      · subst w
        rw [if_pos ⟨by omega, e⟩, upd_at, if_neg (by omega), if_neg (by omega)]
      · rw [upd_ne w]
        by_cases w2 : i < l ∧ i ≠ r
        · rw [if_pos w2, if_pos ⟨by omega, w2.2⟩]
        · rw [if_neg w2, if_neg (by omega)]
theorem det_clr {n r j : Nat} {v : R} {M : Nat → Nat → R} {S : Nat → Nat} (hr : r < n) : det n (fun a b => clr r j v M a (S b)) = v * det n fun a b => M a (S b) := by
  have h := det_addrows hr (fun i => -M i j) (upd (fun a b => M a (S b)) r fun k => v * M r (S k)) n (Nat.le_refl _)
  rw [det_scale hr, show upd (fun a b => M a (S b)) r (fun k => M r (S k)) = fun a b => M a (S b) from upd_self (M := fun a b => M a (S b))] at h
  rw [← h]
  refine det_congr fun i k hi _ => ?_
  by_cases e : i = r
  · rw [if_neg (by omega), e, upd_at, clr_r]
  · rw [if_pos ⟨hi, e⟩, upd_ne e, upd_at, clr_o e]; grind
/-- the identity with v in column i -/
theorem det_unit : ∀ {n i : Nat} {v : Nat → R}, i < n → det n (fun a b => if b = i then v a else if a = b then 1 else 0) = v i
  | 0, _, _, h => absurd h (by omega)
  | n + 1, i, v, h => by
    rw [det_succ]
    by_cases e : i = n
    · subst e
      have hid : ∀ m, m ≤ i → det m (fun a b => if b = i then v (sk i a) else if sk i a = b then 1 else 0) = 1 := by
        intro m hm
        match m, hm with
        | 0, _ => rfl
        | m + 1, hm =>
          rw [det_congr (N := fun a b => if b = m then (fun _ => (1 : R)) a * (if a = m then 1 else 0) else if a = b then 1 else 0) fun a b ha hb => ?_]
          · exact (det_unit (n := m + 1) (i := m) (v := fun a => (fun _ => (1 : R)) a * if a = m then 1 else 0) (by omega)).trans (by rw [if_pos rfl]; grind)
          · rw [if_neg (show b ≠ i by omega), sk_lo (show a < i by omega)]
            by_cases w : b = m
            · subst w; rw [if_pos rfl]; split <;> grind
            · rw [if_neg w]
      rw [ssum_one' (k := i) (by omega) fun k hk hne => ?_]
      · rw [if_pos rfl, sg_two, hid i (Nat.le_refl _)]; grind
      · rw [det_zrow (r := i - 1) (by omega) fun b hb => ?_]
        · grind
        · show (if b = i then _ else if sk k (i - 1) = b then (1 : R) else 0) = 0
          rw [if_neg (by omega), if_neg]
          rw [sk_hi (by omega)]; omega
    · rw [ssum_one' (k := n) (by omega) fun k hk hne => ?_]
      · rw [if_neg (Ne.symm e), if_pos rfl, sg_two, det_congr (N := fun a b => if b = i then v a else if a = b then 1 else 0) fun a b ha hb => by rw [sk_lo ha], det_unit (n := n) (i := i) (by omega)]
        grind
      · rw [if_neg (Ne.symm e), if_neg hne]; grind
def Rq (m : Nat) (W M : Nat → Nat → R) : Prop := ∃ c d : R, d * c = 1 ∧ ∀ S : Nat → Nat, det m (fun a b => M a (S b)) = c * det m fun a b => W a (S b)
theorem Rq.refl {m : Nat} {W : Nat → Nat → R} : Rq m W W := ⟨1, 1, by grind, fun S => by grind⟩
theorem Rq.trans {m : Nat} {W M N : Nat → Nat → R} (h : Rq m W M) (h' : Rq m M N) : Rq m W N := by
  obtain ⟨c, d, e, h⟩ := h
  obtain ⟨c', d', e', h'⟩ := h'
  exact ⟨c' * c, d * d', by grind, fun S => by rw [h', h]; grind⟩
theorem Rq.symm {m : Nat} {W M : Nat → Nat → R} (h : Rq m W M) : Rq m M W := by
  obtain ⟨c, d, e, h⟩ := h
  exact ⟨d, c, by grind, fun S => by rw [h]; grind⟩
theorem Rq.congr {m : Nat} {W M N : Nat → Nat → R} (h : Rq m W M) (he : ∀ i k, i < m → M i k = N i k) : Rq m W N := by
  obtain ⟨c, d, e, h⟩ := h
  exact ⟨c, d, e, fun S => by rw [← h]; exact det_congr fun i j hi _ => (he i _ hi).symm⟩
theorem Rq.clr {m r j : Nat} {v x : R} {W M : Nat → Nat → R} (h : Rq m W M) (hr : r < m) (hv : v * x = 1) : Rq m W (clr r j v M) := by
  obtain ⟨c, d, e, h⟩ := h
  exact ⟨v * c, d * x, by grind, fun S => by rw [det_clr hr, h]; grind⟩
/-- two numbers exchanged -/
def sw (r f i : Nat) : Nat := if i = r then f else if i = f then r else i
theorem sw_lt {r f i m : Nat} (hr : r < m) (hf : f < m) (hi : i < m) : sw r f i < m := by unfold sw; split; exact hf; split; exact hr; exact hi
theorem sw_sw {r f i : Nat} : sw r f (sw r f i) = i := by unfold sw; split <;> split <;> (try split) <;> omega
theorem sw_shf {m r f : Nat} (hr : r ≤ f) (hf : f < m) : Shf m r f (sw r f) :=
  ⟨fun i hi => by unfold sw; rw [if_neg (by omega), if_neg (by omega)], by unfold sw; rw [if_pos rfl], fun i hi => sw_lt (by omega) hf hi, fun i hi => by unfold sw; split; exact hr; split; exact Nat.le_refl _; exact hi, fun i hi => ⟨sw r f i, sw_lt (by omega) hf hi, sw_sw⟩⟩
theorem Rq.sw {m r f : Nat} {W M : Nat → Nat → R} (h : Rq m W M) (hr : r < m) (hf : f < m) : Rq m W fun i => M (sw r f i) := by
  by_cases e : r = f
  · exact h.congr fun i k hi => by unfold Ek.sw; subst e; split; rename_i z; rw [z]; rfl
  · obtain ⟨c, d, e', h⟩ := h
    refine ⟨-c, -d, by grind, fun S => ?_⟩
    have := det_sw hr hf e fun a b => M a (S b)
    have e2 : (fun a b => M (Ek.sw r f a) (S b)) = upd (upd (fun a b => M a (S b)) r fun b => M f (S b)) f fun b => M r (S b) := by
      funext a b
      unfold Ek.sw upd
      by_cases w : a = f
      · rw [if_neg (by omega), if_pos w, if_pos w]
      · rw [if_neg w]
        by_cases w2 : a = r
        · rw [if_pos w2, if_neg w, if_pos w2]
        · rw [if_neg w2, if_neg w, if_neg w2]
    rw [e2, this, h]; grind
/-- columns S that are those of the identity -/
def Ui (m w : Nat) (S : Nat → Nat) (M : Nat → Nat → R) : Prop := ∀ i, i < m → S i < w ∧ ∀ a, a < m → M a (S i) = if a = i then 1 else 0
theorem Ui.sw {m w r f : Nat} {S : Nat → Nat} {M : Nat → Nat → R} (h : Ui m w S M) (hr : r < m) (hf : f < m) : Ui m w (fun i => S (sw r f i)) fun i => M (sw r f i) := fun i hi =>
  ⟨(h _ (sw_lt hr hf hi)).1, fun a ha => by
    show M (Ek.sw r f a) (S (Ek.sw r f i)) = _
    rw [(h _ (sw_lt hr hf hi)).2 _ (sw_lt hr hf ha)]
    by_cases e : a = i
    · rw [e, if_pos rfl, if_pos rfl]
    · rw [if_neg e, if_neg fun z => e (by rw [← sw_sw (r := r) (f := f) (i := a), z, sw_sw])]⟩
theorem Ui.clr {m w r j : Nat} {v : R} {S : Nat → Nat} {M : Nat → Nat → R} (h : Ui m w S M) (hj : j < w) (hr : r < m) (hv : v * M r j = 1) : Ui m w (upd S r j) (clr r j v M) := fun i hi => by
  by_cases e : i = r
  · rw [e, upd_at]
    refine ⟨hj, fun a ha => ?_⟩
    by_cases w : a = r
    · rw [if_pos w, w, clr_r]; exact hv
    · rw [if_neg w, clr_o w, hv]; grind
  · rw [upd_ne e]
    refine ⟨(h i hi).1, fun a ha => ?_⟩
    have h1 := (h i hi).2 a ha
    have h2 := (h i hi).2 r hr
    rw [if_neg (Ne.symm e)] at h2
    by_cases w : a = r
    · rw [w, clr_r, h2, if_neg (Ne.symm e)]; grind
    · rw [clr_o w, h2, h1]; grind
theorem det_ui {m w i k : Nat} {S : Nat → Nat} {M : Nat → Nat → R} (h : Ui m w S M) (hi : i < m) : det m (fun a b => M a (upd S i k b)) = M i k := by
  rw [← det_unit (n := m) (i := i) (v := fun a => M a k) hi]
  refine det_congr fun a b ha hb => ?_
  by_cases e : b = i
  · rw [if_pos e, e, upd_at]
  · rw [if_neg e, upd_ne e, (h b hb).2 a ha]
theorem det_ui1 {m w : Nat} {S : Nat → Nat} {M : Nat → Nat → R} (h : Ui m w S M) : det m (fun a b => M a (S b)) = 1 := by
  match m, h with
  | 0, _ => rfl
  | m + 1, h =>
    have := det_ui (i := m) (k := S m) h (by omega)
    rw [show upd S m (S m) = S from upd_self, (h m (by omega)).2 m (by omega), if_pos rfl] at this
    exact this
/-- each entry is a quotient of two determinants of the first matrix -/
theorem Rq.entry {m w : Nat} {W M : Nat → Nat → R} {S : Nat → Nat} (h : Rq m W M) (hu : Ui m w S M) : ∃ c : R, c * det m (fun a b => W a (S b)) = 1 ∧ ∀ i k, i < m → M i k = c * det m fun a b => W a (upd S i k b) := by
  obtain ⟨c, d, e, h⟩ := h
  exact ⟨c, by rw [← h, det_ui1 hu], fun i k hi => by rw [← h, det_ui hu hi]⟩
end
def fac : Nat → Nat
  | 0 => 1
  | n + 1 => (n + 1) * fac n
section
variable {K : Fl}
theorem nd_sum (hw : ∀ n, K = .f n → n < 2 ^ 60) {D N : Nat} {f : Nat → K.T} : ∀ {n : Nat}, (∀ i, i < n → K.nd D N (f i)) → K.nd D (n * N) (ssum n f)
  | 0, _ => nd_zero hw
  | n + 1, h => nd_mono (nd_add (nd_sum hw fun i hi => h i (by omega)) (h n (by omega))) (by rw [Nat.succ_mul]; omega)
theorem nd_sg (hw : ∀ n, K = .f n → n < 2 ^ 60) {D N : Nat} {x : K.T} (h : K.nd D N x) : ∀ n : Nat, K.nd D N (sg n * x)
  | 0 => by rw [sg, show (1 : K.T) * x = x by grind]; exact h
  | n + 1 => by rw [sg, show -sg n * x = -(sg n * x) by grind]; exact nd_neg (nd_sg hw h n)
theorem nd_det (hw : ∀ n, K = .f n → n < 2 ^ 60) {D N : Nat} : ∀ {n : Nat} {M : Nat → Nat → K.T}, (∀ i j, i < n → j < n → K.nd D N (M i j)) → K.nd (D ^ n) (fac n * N ^ n) (det n M)
  | 0, M, _ => by
    have := nd_one hw (D := 1)
    simpa [fac, det] using this
  | n + 1, M, h => by
    rw [det_succ]
    refine nd_mono (nd_sum hw (N := N * (fac n * N ^ n)) fun i hi => ?_) ?_
    · have h1 := nd_mul (h i n hi (by omega)) (nd_det hw (n := n) (M := fun a => M (sk i a)) fun a b ha hb => h _ _ (sk_lt hi ha) (by omega))
      have h2 := nd_sg hw h1 (n + i)
      rw [Nat.pow_succ, Nat.mul_comm (D ^ n) D, show sg (n + i) * M i n * det n (fun a => M (sk i a)) = sg (n + i) * (M i n * det n (fun a => M (sk i a))) by grind]
      exact h2
    · rw [fac, Nat.pow_succ, Nat.mul_assoc, Nat.mul_left_comm N, Nat.mul_comm N]
      exact Nat.le_refl _
/-- one common denominator for all entries -/
theorem Rq.sizes (hw : ∀ n, K = .f n → n < 2 ^ 60) (h10 : (1 : K.T) ≠ 0) (hinv : ∀ p : K.T, p ≠ 0 → p * K.inv p = 1) {m w D N : Nat} {W M : Nat → Nat → K.T} {S : Nat → Nat} (hD : 0 < D) (hN : 0 < N) (hW : ∀ i k, i < m → k < w → K.nd D N (W i k)) (h : Rq m W M) (hu : Ui m w S M) : ∃ P, 0 < P ∧ P ≤ fac m * N ^ m ∧ ∀ i k, i < m → k < w → K.nd P (fac m * N ^ m) (M i k) := by
  obtain ⟨c, hc, he⟩ := h.entry hu
  have h0 : det m (fun a b => W a (S b)) ≠ 0 := fun z => h10 (by rw [← hc, z]; grind)
  have ec : c = K.inv (det m fun a b => W a (S b)) := by
    have := hinv _ h0
    grind
  have hf : 0 < fac m * N ^ m := Nat.mul_pos (by
    induction m with
    | zero => decide
    | succ m _ => exact Nat.mul_pos (by omega) (by
      have : ∀ n, 0 < fac n := fun n => by
        induction n with
        | zero => decide
        | succ n ih => exact Nat.mul_pos (by omega) ih
      exact this m)) (Nat.pow_pos hN)
  obtain ⟨P, hP⟩ := nd_piv (Nat.pow_pos hD) hf h0 (nd_det hw fun i j hi hj => hW i _ hi (hu j hj).1)
  refine ⟨P, hP.pos, hP.le, fun i k hi hk => ?_⟩
  rw [he i k hi, ec]
  refine hP.quo (nd_det hw fun a b ha hb => hW a _ ha ?_)
  unfold upd
  split
  · exact hk
  · exact (hu b hb).1
end
end Ek

namespace Ek
section
variable {Sb S : Sto} {h q m : Nat} {ρ : Nat → Nat} {pl : List U} {g : Nat → List U}
theorem lt_get {α : Type} {l : List α} {i : Nat} {x : α} (h : l[i]? = some x) : i < l.length := by
  rcases Nat.lt_or_ge i l.length with w | w
  · exact w
  · rw [List.getElem?_eq_none w] at h; cases h
theorem get_set_ne {α : Type} {l : List α} {i j : Nat} {x : α} (h : i ≠ j) : (l.set i x)[j]? = l[j]? := List.getElem?_set_ne h
theorem get_set_eq {α : Type} {l : List α} {i : Nat} {x : α} (h : i < l.length) : (l.set i x)[i]? = some x := List.getElem?_set_self h
theorem get_app {α : Type} {l t : List α} {i : Nat} {x : α} (h : l[i]? = some x) : (l ++ t)[i]? = some x := by
  rw [List.getElem?_append_left (lt_get h)]; exact h
theorem map_set {α : Type} {n j : Nat} {f : Nat → α} {v : α} : ((List.range n).map f).set j v = (List.range n).map (upd f j v) := by
  apply List.ext_getElem?
  intro i
  by_cases e : j = i
  · subst e
    by_cases w : j < n
    · rw [get_set_eq (by simpa using w)]; simp [w, upd]
    · rw [List.getElem?_eq_none (by simp; omega), List.getElem?_eq_none (by simp; omega)]
  · rw [get_set_ne e]
    by_cases w : i < n
    · simp [w, upd, Ne.symm e]
    · rw [List.getElem?_eq_none (by simp; omega), List.getElem?_eq_none (by simp; omega)]
/-- a list of m lists, all of them newer than the store Sb -/
structure Rw0 (Sb S : Sto) (h : Nat) (ρ : Nat → Nat) (m : Nat) (g : Nat → List U) : Prop where
  fr : ∀ i, i < Sb.length → S[i]? = Sb[i]?
  hb : Sb.length ≤ h
  hd : S[h]? = some (.lst ((List.range m).map fun i => U.ref (ρ i)))
  rb : ∀ i, i < m → Sb.length ≤ ρ i
  rh : ∀ i, i < m → ρ i ≠ h
  row : ∀ i, i < m → S[ρ i]? = some (.lst (g i))
  inj : ∀ i j, i < m → j < m → ρ i = ρ j → i = j
/-- and one more list -/
structure Rw (Sb S : Sto) (h q : Nat) (ρ : Nat → Nat) (m : Nat) (pl : List U) (g : Nat → List U) : Prop extends Rw0 Sb S h ρ m g where
  qb : Sb.length ≤ q
  qh : q ≠ h
  qd : S[q]? = some (.lst pl)
  rq : ∀ i, i < m → ρ i ≠ q
theorem Rw0.app (R : Rw0 Sb S h ρ m g) (T : Sto) : Rw0 Sb (S ++ T) h ρ m g :=
  ⟨fun i hi => by
    have : i < S.length := Nat.lt_of_lt_of_le hi (Nat.le_trans R.hb (Nat.le_of_lt (lt_get R.hd)))
    rw [List.getElem?_append_left this]; exact R.fr i hi, R.hb, get_app R.hd, R.rb, R.rh, fun i hi => get_app (R.row i hi), R.inj⟩
theorem Rw.app (R : Rw Sb S h q ρ m pl g) (T : Sto) : Rw Sb (S ++ T) h q ρ m pl g := ⟨R.toRw0.app T, R.qb, R.qh, get_app R.qd, R.rq⟩
theorem Rw0.len (R : Rw0 Sb S h ρ m g) : Sb.length ≤ S.length := Nat.le_trans R.hb (Nat.le_of_lt (lt_get R.hd))
/-- the list q made -/
theorem Rw0.push (R : Rw0 Sb S h ρ m g) (pl : List U) : Rw Sb (S ++ [Ob.lst pl]) h S.length ρ m pl g :=
  ⟨R.app _, R.len, by have := lt_get R.hd; omega, by simp, fun i hi => by have := lt_get (R.row i hi); omega⟩
theorem Rw0.congr (R : Rw0 Sb S h ρ m g) {g' : Nat → List U} (e : ∀ i, i < m → g i = g' i) : Rw0 Sb S h ρ m g' :=
  ⟨R.fr, R.hb, R.hd, R.rb, R.rh, fun i hi => by rw [R.row i hi, e i hi], R.inj⟩
theorem Rw.congr (R : Rw Sb S h q ρ m pl g) {g' : Nat → List U} (e : ∀ i, i < m → g i = g' i) : Rw Sb S h q ρ m pl g' := ⟨R.toRw0.congr e, R.qb, R.qh, R.qd, R.rq⟩
theorem Rw0.set_row (R : Rw0 Sb S h ρ m g) {i : Nat} (hi : i < m) (l : List U) : Rw0 Sb (S.set (ρ i) (.lst l)) h ρ m (upd g i l) :=
  ⟨fun j hj => by rw [get_set_ne (by have := R.rb i hi; omega)]; exact R.fr j hj, R.hb, by rw [get_set_ne (R.rh i hi)]; exact R.hd, R.rb, R.rh, fun j hj => by
    by_cases e : j = i
    · rw [e, get_set_eq (lt_get (R.row i hi)), upd_at]
    · rw [get_set_ne fun z => e (R.inj _ _ hi hj z).symm, upd_ne e]; exact R.row j hj, R.inj⟩
theorem Rw.set_row (R : Rw Sb S h q ρ m pl g) {i : Nat} (hi : i < m) (l : List U) : Rw Sb (S.set (ρ i) (.lst l)) h q ρ m pl (upd g i l) :=
  ⟨R.toRw0.set_row hi l, R.qb, R.qh, by rw [get_set_ne (R.rq i hi)]; exact R.qd, R.rq⟩
theorem Rw.set_q (R : Rw Sb S h q ρ m pl g) (l : List U) : Rw Sb (S.set q (.lst l)) h q ρ m l g :=
  ⟨⟨fun j hj => by rw [get_set_ne (by have := R.qb; omega)]; exact R.fr j hj, R.hb, by rw [get_set_ne R.qh]; exact R.hd, R.rb, R.rh, fun j hj => by rw [get_set_ne (Ne.symm (R.rq j hj))]; exact R.row j hj, R.inj⟩, R.qb, R.qh, get_set_eq (lt_get R.qd), R.rq⟩
/-- the rows in another order -/
theorem Rw0.ord (R : Rw0 Sb S h ρ m g) {π : Nat → Nat} (hp : ∀ i, i < m → π i < m) (hi : ∀ i j, i < m → j < m → π i = π j → i = j) : Rw0 Sb (S.set h (Ob.lst ((List.range m).map fun i => U.ref (ρ (π i))))) h (fun i => ρ (π i)) m fun i => g (π i) :=
  ⟨fun j hj => by rw [get_set_ne (by have := R.hb; omega)]; exact R.fr j hj, R.hb, get_set_eq (lt_get R.hd), fun i hi => R.rb _ (hp i hi), fun i hi => R.rh _ (hp i hi), fun i hi => by rw [get_set_ne (Ne.symm (R.rh _ (hp i hi)))]; exact R.row _ (hp i hi), fun i j h1 h2 e => hi i j h1 h2 (R.inj _ _ (hp i h1) (hp j h2) e)⟩
theorem Rw.ord (R : Rw Sb S h q ρ m pl g) {π : Nat → Nat} (hp : ∀ i, i < m → π i < m) (hi : ∀ i j, i < m → j < m → π i = π j → i = j) : Rw Sb (S.set h (Ob.lst ((List.range m).map fun i => U.ref (ρ (π i))))) h q (fun i => ρ (π i)) m pl fun i => g (π i) :=
  ⟨R.toRw0.ord hp hi, R.qb, R.qh, by rw [get_set_ne (Ne.symm R.qh)]; exact R.qd, fun i hi => R.rq _ (hp i hi)⟩
theorem fin_fr {Q : UQ} {u : U} {n : Nat} (hf : ∀ i, i < Sb.length → S[i]? = Sb[i]?) (hl : Sb.length ≤ S.length) (hu : U.dat n u = true) (h : Q u Sb) : fin Sb Q u S := by
  have e : S.take Sb.length = Sb := by
    apply List.ext_getElem?
    intro i
    by_cases w : i < Sb.length
    · rw [List.getElem?_take_of_lt w]; exact hf i w
    · rw [List.getElem?_eq_none (by rw [List.length_take]; omega), List.getElem?_eq_none (by omega)]
  exact .inr ⟨Sb.length, Nat.le_refl _, hl, bnd_dat n u hu _, fun i o hi h => .inl (by rw [← hf i hi]; exact h), by rw [e]; exact h⟩
theorem Rw0.fin (R : Rw0 Sb S h ρ m g) {Q : UQ} {u : U} {n : Nat} (hu : U.dat n u = true) (hq : Q u Sb) : fin Sb Q u S := fin_fr R.fr R.len hu hq
end
section
variable {R : Type} [Lean.Grind.CommRing R] [DecidableEq R] {m w : Nat}
def Lin (m : Nat) (M0 M : Nat → Nat → R) : Prop := ∃ T : Nat → Nat → R, ∀ i k, i < m → M i k = ssum m fun a => T i a * M0 a k
theorem Lin.of {M0 M : Nat → Nat → R} (a b : Nat → R) (s : Nat → Nat) (hs : ∀ i, i < m → s i < m) (h : ∀ i k, i < m → M i k = a i * M0 i k + b i * M0 (s i) k) : Lin m M0 M := by
  refine ⟨fun i l => (if l = i then a i else 0) + (if l = s i then b i else 0), fun i k hi => ?_⟩
  rw [h i k hi, show (fun l => ((if l = i then a i else 0) + (if l = s i then b i else 0)) * M0 l k) = fun l => (if l = i then a i * M0 i k else 0) + (if l = s i then b i * M0 (s i) k else 0) from funext fun l => by
    by_cases e1 : l = i
    · by_cases e2 : l = s i
      · rw [if_pos e1, if_pos e2, if_pos e1, if_pos e2, ← e2, ← e1]; grind
      · rw [if_pos e1, if_neg e2, if_pos e1, if_neg e2, ← e1]; grind
    · by_cases e2 : l = s i
      · rw [if_neg e1, if_pos e2, if_neg e1, if_pos e2, ← e2]; grind
      · rw [if_neg e1, if_neg e2, if_neg e1, if_neg e2]; grind, ssum_add, ssum_one (k := i) hi fun l hl => if_neg hl, ssum_one (k := s i) (hs i hi) fun l hl => if_neg hl, if_pos rfl, if_pos rfl]
theorem Lin.refl {M : Nat → Nat → R} : Lin m M M := Lin.of (fun _ => 1) (fun _ => 0) (fun i => i) (fun _ h => h) fun i k _ => by grind
theorem Lin.trans {A B C : Nat → Nat → R} (h1 : Lin m A B) (h2 : Lin m B C) : Lin m A C := by
  obtain ⟨T, hT⟩ := h1
  obtain ⟨V, hV⟩ := h2
  refine ⟨fun i a => ssum m fun b => V i b * T b a, fun i k hi => ?_⟩
  rw [hV i k hi, show (fun a => (ssum m fun b => V i b * T b a) * A a k) = fun a => ssum m fun b => V i b * T b a * A a k from funext fun a => by rw [ssum_mul], ssum_swap]
  refine ssum_congr fun b hb => ?_
  rw [hT b k hb, ← mul_ssum]
  exact ssum_congr fun a _ => by grind
theorem Lin.ker {A B : Nat → Nat → R} (h : Lin m A B) {x : Nat → R} (hk : Ker m w A x) : Ker m w B x := fun i hi => by
  obtain ⟨T, hT⟩ := h
  unfold dt
  rw [show (ssum w fun k => B i k * x k) = ssum w fun k => ssum m fun a => T i a * (A a k * x k) from ssum_congr fun k _ => by
    rw [hT i k hi, ← ssum_mul]
    exact ssum_congr fun a _ => by grind, ssum_swap]
  refine ssum_zero fun a ha => ?_
  have := hk a ha
  unfold dt at this
  rw [mul_ssum, this]; grind
/-- a product from the left commutes with columns -/
theorem Lin.congr {A B C : Nat → Nat → R} (h : Lin m A B) (e : ∀ i k, i < m → B i k = C i k) : Lin m A C := by
  obtain ⟨T, hT⟩ := h
  exact ⟨T, fun i k hi => by rw [← e i k hi]; exact hT i k hi⟩
theorem Lin.clr {r j : Nat} {v : R} {M : Nat → Nat → R} (hr : r < m) : Lin m M (clr r j v M) :=
  Lin.of (fun i => if i = r then v else 1) (fun i => if i = r then 0 else -(M i j * v)) (fun _ => r) (fun _ _ => hr) fun i k _ => by
    by_cases e : i = r
    · rw [if_pos e, if_pos e, e, clr_r]; grind
    · rw [if_neg e, if_neg e, clr_o e]; grind
theorem Lin.clr' {r j : Nat} {v x : R} {M : Nat → Nat → R} (hr : r < m) (hv : v * x = 1) : Lin m (Ek.clr r j v M) M :=
  Lin.of (fun i => if i = r then x else 1) (fun i => if i = r then 0 else M i j) (fun _ => r) (fun _ _ => hr) fun i k _ => by
    by_cases e : i = r
    · rw [if_pos e, if_pos e, e, clr_r]; grind
    · rw [if_neg e, if_neg e, clr_o e, clr_r]; grind
theorem Lin.sw {r f : Nat} {M : Nat → Nat → R} (hr : r < m) (hf : f < m) : Lin m M fun i => M (Ek.sw r f i) :=
  Lin.of (fun _ => 0) (fun _ => 1) (Ek.sw r f) (fun i hi => sw_lt hr hf hi) fun i k _ => by grind
theorem Lin.sw' {r f : Nat} {M : Nat → Nat → R} (hr : r < m) (hf : f < m) : Lin m (fun i => M (Ek.sw r f i)) M :=
  Lin.of (fun _ => 0) (fun _ => 1) (Ek.sw r f) (fun i hi => sw_lt hr hf hi) fun i k _ => by
    show M i k = 0 * M (Ek.sw r f i) k + 1 * M (Ek.sw r f (Ek.sw r f i)) k
    rw [sw_sw]; grind
/-- reached from W by row operations, with all columns of the identity -/
def Rch (m w : Nat) (W M : Nat → Nat → R) : Prop := ∃ S, Rq m W M ∧ Ui m w S M
/-- all that elimination keeps -/
structure Es (m w : Nat) (W M0 M : Nat → Nat → R) : Prop where
  rch : Rch m w W M
  lin : Lin m M0 M
  nil : Lin m M M0
theorem Es.start {W M : Nat → Nat → R} (h : Rch m w W M) : Es m w W M M := ⟨h, Lin.refl, Lin.refl⟩
theorem Es.ker {W M0 M : Nat → Nat → R} (h : Es m w W M0 M) {w' : Nat} (x : Nat → R) : Ker m w' M x ↔ Ker m w' M0 x := ⟨h.nil.ker, h.lin.ker⟩
theorem Es.sw {W M0 M : Nat → Nat → R} (h : Es m w W M0 M) {r f : Nat} (hr : r < m) (hf : f < m) : Es m w W M0 fun i => M (Ek.sw r f i) := by
  obtain ⟨S, h1, h2⟩ := h.rch
  exact ⟨⟨_, h1.sw hr hf, h2.sw hr hf⟩, h.lin.trans (Lin.sw hr hf), (Lin.sw' hr hf).trans h.nil⟩
theorem Es.clr {W M0 M : Nat → Nat → R} (h : Es m w W M0 M) {r j : Nat} {v : R} (hr : r < m) (hj : j < w) (hv : v * M r j = 1) : Es m w W M0 (Ek.clr r j v M) := by
  obtain ⟨S, h1, h2⟩ := h.rch
  exact ⟨⟨_, h1.clr hr hv, h2.clr hj hr hv⟩, h.lin.trans (Lin.clr hr), (Lin.clr' hr hv).trans h.nil⟩
/-- the identity behind n columns -/
def aug (n : Nat) (A : Nat → Nat → R) : Nat → Nat → R := fun i k => if k < n then A i k else if k = n + i then 1 else 0
theorem aug_lo {n i k : Nat} {A : Nat → Nat → R} (h : k < n) : aug n A i k = A i k := if_pos h
theorem aug_hi {n i k : Nat} {A : Nat → Nat → R} : aug n A i (n + k) = if k = i then 1 else 0 := by
  unfold aug
  rw [if_neg (by omega)]
  by_cases e : k = i
  · rw [if_pos (by omega), if_pos e]
  · rw [if_neg (by omega), if_neg e]
theorem aug_ui {n : Nat} {A : Nat → Nat → R} : Ui m (n + m) (fun i => n + i) (aug n A) := fun i hi => ⟨by show n + i < n + m; omega, fun a _ => by
  rw [aug_hi]
  by_cases e : a = i
  · rw [if_pos e, if_pos e.symm]
  · rw [if_neg e, if_neg (Ne.symm e)]⟩
theorem aug_rch {n : Nat} {A : Nat → Nat → R} : Rch m (n + m) (aug n A) (aug n A) := ⟨_, Rq.refl, aug_ui⟩
/-- what the columns behind hold is what the rows were multiplied by -/
theorem Lin.aug {n : Nat} {A M : Nat → Nat → R} (h : Lin m (Ek.aug n A) M) : ∀ i k, i < m → k < n → M i k = ssum m fun a => M i (n + a) * A a k := by
  obtain ⟨T, hT⟩ := h
  intro i k hi hk
  have e : ∀ a, a < m → M i (n + a) = T i a := fun a ha => by
    rw [hT i _ hi, ssum_one' (k := a) ha fun b hb hne => by rw [aug_hi, if_neg (Ne.symm hne)]; grind, aug_hi, if_pos rfl]; grind
  rw [hT i k hi]
  exact ssum_congr fun a ha => by rw [e a ha, aug_lo hk]
/-- backwards -/
theorem Lin.nil_aug {n : Nat} {A M : Nat → Nat → R} {V : Nat → Nat → R} (hV : ∀ i k, i < m → Ek.aug n A i k = ssum m fun a => V i a * M a k) : (∀ i k, i < m → k < n → A i k = ssum m fun a => V i a * M a k) ∧ ∀ i b, i < m → (ssum m fun a => V i a * M a (n + b)) = if b = i then 1 else 0 :=
  ⟨fun i k hi hk => by rw [← hV i k hi, aug_lo hk], fun i b hi => by rw [← hV i _ hi, aug_hi]⟩
end
section
variable {K : Fl}
/-- can be computed with -/
def Okz (K : Fl) (x : K.T) : Prop := ∃ s : Sz, s.Ok ∧ K.bd s x
theorem Okz.nd {D N : Nat} {x : K.T} (h : K.nd D N x) (h0 : 0 < D) (hD : D < 2 ^ EX) (hN : N < 2 ^ EX) : Okz K x := ⟨⟨D, N⟩, ⟨h0, hD, hN⟩, nd_bd h0 h⟩
/-- numerator and denominator at most H -/
def Bz (K : Fl) (H : Nat) (x : K.T) : Prop := ∃ P, 0 < P ∧ P ≤ H ∧ K.nd P H x
theorem Bz.ok {H : Nat} {x : K.T} (h : Bz K H x) (hH : H < 2 ^ EX) : Okz K x := by
  obtain ⟨P, h0, h1, h⟩ := h
  exact Okz.nd h h0 (by omega) hH
theorem Bz.mul {H H' : Nat} {x y : K.T} (h : Bz K H x) (h' : Bz K H' y) : Bz K (H * H') (x * y) := by
  obtain ⟨P, h0, h1, h⟩ := h
  obtain ⟨P', h0', h1', h'⟩ := h'
  exact ⟨P * P', Nat.mul_pos h0 h0', Nat.mul_le_mul h1 h1', nd_mul h h'⟩
theorem Bz.neg {H : Nat} {x : K.T} (h : Bz K H x) : Bz K H (-x) := by
  obtain ⟨P, h0, h1, h⟩ := h
  exact ⟨P, h0, h1, nd_neg h⟩
theorem Bz.mono {H H' : Nat} {x : K.T} (h : Bz K H x) (hH : H ≤ H') : Bz K H' x := by
  obtain ⟨P, h0, h1, h⟩ := h
  exact ⟨P, h0, by omega, nd_mono h hH⟩
theorem Bz.inv {H : Nat} {x : K.T} (h : Bz K H x) (hx : x ≠ 0) : Bz K H (K.inv x) := by
  obtain ⟨P, h0, h1, h⟩ := h
  obtain ⟨P', hP⟩ := nd_piv h0 (by omega) hx h
  exact ⟨P', hP.pos, hP.le, nd_mono hP.inv h1⟩
end
end Ek
namespace Ek
section
/-- a comprehension over numbers with a test -/
theorem comp_find {B : U → Sl → (Sl → Prop) → Prop} {T : Sl → Sto → BQ → Prop} {F : Sl → Sto → UQ → Prop} {σ : Sl} {S : Sto} {Qu : UQ} {N lo : Nat} {P : Nat → Prop} [DecidablePred P] (hN : N ≤ big)
    (hs : ∀ (i : Nat) (K1 : UQ) (K2 : Sto → Prop), i < N → (P (lo + i) → K1 (.int ((lo + i : Nat) : Int)) S) → (¬ P (lo + i) → K2 S) → B (.int ((lo : Nat) + (i : Nat) : Int)) σ fun σ2 => T σ2 S fun b S2 => if b = true then F σ2 S2 K1 else K2 S2)
    (hq : Qu (.ref S.length) (S ++ [.lst ((((List.range N).map (lo + ·)).filter fun i => decide (P i)).map fun i => U.int ((i : Nat) : Int))])) : compU B T F σ none [] Qu (rangeU (lo : Nat) 1 N) [] S := by
  rw [range_map]
  refine comp_ruleT (fun xs acc S' => S' = S ∧ ∃ j : Nat, j ≤ N ∧ xs = ((List.range N).map fun i => U.int (((lo : Nat) : Int) + ((i : Nat) : Int))).drop j ∧ acc = (((List.range j).map (lo + ·)).filter fun i => decide (P i)).map fun i => U.int ((i : Nat) : Int)) ?_ ?_ ?_ _ _ _ ⟨rfl, 0, by omega, rfl, rfl⟩
  · rintro xs acc S' ⟨rfl, j, hj, rfl, rfl⟩
    refine ⟨trivial, ?_⟩
    have := List.length_filter_le (fun i => decide (P i)) ((List.range j).map (lo + ·))
    simp at this ⊢
    omega
  · rintro acc S' ⟨rfl, j, hj, e, rfl⟩
    rcases Nat.lt_or_ge j N with w | w
    · rw [map_drop w] at e; cases e
    · have : j = N := by omega
      subst this
      exact hq
  · rintro x xs acc S' K1 K2 ⟨rfl, j, hj, e, rfl⟩ h1 h2
    rcases Nat.lt_or_ge j N with w | w
    · rw [map_drop w] at e
      cases e
      refine hs j K1 K2 w (fun hp => h1 _ _ ⟨rfl, j + 1, w, rfl, ?_⟩) fun hp => h2 _ ⟨rfl, j + 1, w, rfl, ?_⟩
      · rw [List.range_succ, List.map_append, List.filter_append, List.map_append]
        congr 1
        simp [hp]
      · rw [List.range_succ, List.map_append, List.filter_append]
        simp [hp]
    · have : j = N := by omega
      subst this
      rw [map_drop_all] at e; cases e
/-- the first found -/
theorem find_cases {N lo : Nat} {P : Nat → Prop} [DecidablePred P] : ((((List.range N).map (lo + ·)).filter fun i => decide (P i)) = [] ∧ ∀ i, lo ≤ i → i < lo + N → ¬ P i) ∨ ∃ f t, (((List.range N).map (lo + ·)).filter fun i => decide (P i)) = f :: t ∧ lo ≤ f ∧ f < lo + N ∧ P f := by
  cases h : ((List.range N).map (lo + ·)).filter fun i => decide (P i) with
  | nil =>
    refine .inl ⟨rfl, fun i h1 h2 hp => ?_⟩
    have : i ∈ ((List.range N).map (lo + ·)).filter fun i => decide (P i) := by
      rw [List.mem_filter]
      exact ⟨List.mem_map.mpr ⟨i - lo, List.mem_range.mpr (by omega), by omega⟩, by simpa using hp⟩
    rw [h] at this
    cases this
  | cons f t =>
    have hf : f ∈ ((List.range N).map (lo + ·)).filter fun i => decide (P i) := by rw [h]; simp
    rw [List.mem_filter] at hf
    obtain ⟨i, hi, rfl⟩ := List.mem_map.mp hf.1
    exact .inr ⟨_, t, rfl, by omega, by have := List.mem_range.mp hi; omega, by simpa using hf.2⟩
end
end Ek
namespace Ek
section
/-- a comprehension that makes a list for each of N items -/
theorem comp_rows {B : U → Sl → (Sl → Prop) → Prop} {F : Sl → Sto → UQ → Prop} {σ : Sl} {S : Sto} {lv : Option Nat} {li : List U} {Qu : UQ} {N : Nat} {h : Nat → U} (g : Nat → List U) (hl : ∀ T : Sto, live lv (S ++ T) li) (hN : N ≤ big)
    (hs : ∀ (j : Nat) (K' : UQ) (T : Sto), j < N → (∀ T' : Sto, K' (.ref (S ++ T ++ T').length) (S ++ T ++ T' ++ [.lst (g j)])) → B (h j) σ fun σ2 => F σ2 (S ++ T) K')
    (hq : ∀ (T : Sto) (ρ : Nat → Nat), Rw0 S (S ++ T ++ [.lst ((List.range N).map fun i => U.ref (ρ i))]) (S ++ T).length ρ N g → Qu (.ref (S ++ T).length) (S ++ T ++ [.lst ((List.range N).map fun i => U.ref (ρ i))])) :
    compU B (fun x0 S Q => Q true S) F σ lv li Qu ((List.range N).map h) [] S := by
  refine comp_rule (fun xs acc S' => ∃ T, S' = S ++ T ∧ ∃ j : Nat, j ≤ N ∧ xs = ((List.range N).map h).drop j ∧ ∃ ρ : Nat → Nat, acc = ((List.range j).map fun i => U.ref (ρ i)) ∧ (∀ i, i < j → S.length ≤ ρ i ∧ S'[ρ i]? = some (.lst (g i))) ∧ ∀ i i', i < j → i' < j → ρ i = ρ i' → i = i') ?_ ?_ ?_ _ _ _ ⟨[], by simp, 0, by omega, rfl, fun _ => 0, rfl, fun i hi => absurd hi (by omega), fun i _ hi => absurd hi (by omega)⟩
  · rintro xs acc S' ⟨T, rfl, j, hj, rfl, ρ, rfl, h1, h2⟩
    refine ⟨hl T, ?_⟩
    simp; omega
  · rintro acc S' ⟨T, rfl, j, hj, e, ρ, rfl, h1, h2⟩
    rcases Nat.lt_or_ge j N with w | w
    · rw [map_drop w] at e; cases e
    · have : j = N := by omega
      subst this
      refine hq T ρ ⟨fun i hi => ?_, by simp, by simp, fun i hi => (h1 i hi).1, fun i hi => ?_, fun i hi => get_app (h1 i hi).2, h2⟩
      · rw [List.append_assoc, List.getElem?_append_left hi]
      · have := lt_get (h1 i hi).2; omega
  · rintro x xs acc S' K ⟨T, rfl, j, hj, e, ρ, rfl, h1, h2⟩ hk
    rcases Nat.lt_or_ge j N with w | w
    · rw [map_drop w] at e
      cases e
      refine hs j K T w fun T' => hk _ _ ⟨T ++ T' ++ [.lst (g j)], by simp, j + 1, w, rfl, upd ρ j (S ++ T ++ T').length, ?_, fun i hi => ?_, fun i i' hi hi' e => ?_⟩
      · rw [List.range_succ, List.map_append]
        congr 1
        · exact List.map_congr_left fun i hi => by rw [upd_ne (by have := List.mem_range.mp hi; omega)]
        · simp [upd]
      · by_cases e : i = j
        · rw [e, upd_at]
          exact ⟨by simp, by simp⟩
        · rw [upd_ne e]
          have := h1 i (by omega)
          refine ⟨this.1, ?_⟩
          rw [List.append_assoc (S ++ T)]
          exact get_app this.2
      · have key : ∀ i, i < j → ρ i < (S ++ T ++ T').length := fun i hi => by
          have := lt_get (h1 i hi).2
          simp at this ⊢; omega
        by_cases e1 : i = j
        · by_cases e2 : i' = j
          · rw [e1, e2]
          · rw [e1, upd_at, upd_ne e2] at e; have := key i' (by omega); omega
        · by_cases e2 : i' = j
          · rw [e2, upd_at, upd_ne e1] at e; have := key i (by omega); omega
          · rw [upd_ne e1, upd_ne e2] at e; exact h2 i i' (by omega) (by omega) e
    · have : j = N := by omega
      subst this
      rw [map_drop_all] at e; cases e
end
end Ek
namespace Ek
section
end
end Ek
namespace Ek
section
variable {Sb S : Sto} {h q m : Nat} {ρ : Nat → Nat} {pl : List U} {g : Nat → List U}
end
end Ek
namespace Ek
section
variable {Sb S : Sto} {h q m : Nat} {ρ : Nat → Nat} {pl : List U} {g : Nat → List U}
end
end Ek
namespace Ek
section
variable {K : Fl}
theorem nd_dot (hw : ∀ n, K = .f n → n < 2 ^ 60) {D N D' N' n : Nat} {f g : Nat → K.T} (hf : ∀ a, a < n → K.nd D N (f a)) (hg : ∀ a, a < n → K.nd D' N' (g a)) : ∀ a, a ≤ n → K.nd (D * D') (n * (N * N')) (ssum a fun k => f k * g k) := fun a ha =>
  nd_mono (nd_sum hw fun i hi => nd_mul (hf i (by omega)) (hg i (by omega))) (Nat.mul_le_mul_right _ ha)
end
end Ek
namespace Ek
section
variable {K : Fl}
end
section
variable {R : Type} [Lean.Grind.CommRing R] [DecidableEq R]
theorem ker_aug {m n : Nat} {A : Nat → Nat → R} {x : Nat → R} : Ker m n (aug n A) x ↔ Ker m n A x := by
  have e : ∀ i, dt n (aug n A i) x = dt n (A i) x := fun i => dt_congr (fun k hk => aug_lo hk) fun _ _ => rfl
  exact ⟨fun h i hi => by rw [← e]; exact h i hi, fun h i hi => by rw [e]; exact h i hi⟩
/-- as many pivots as columns: they are the columns -/
theorem Rf.full {m n : Nat} {p : Nat → Nat} {M : Nat → Nat → R} (h : Rf m n n p M) : ∀ i, i < n → p i = i := by
  have lo : ∀ i, i < n → i ≤ p i := by
    intro i
    induction i with
    | zero => intro _; omega
    | succ i ih =>
      intro hi
      have := ih (by omega)
      have := h.mono i (i + 1) (by omega) hi
      omega
  have hi : ∀ d i, i < n → i + d = n - 1 → p i ≤ i := by
    intro d
    induction d with
    | zero => intro i hi e; have := h.lt i hi; omega
    | succ d ih =>
      intro i hi e
      have h1 := ih (i + 1) (by omega) (by omega)
      have := h.mono i (i + 1) (by omega) (by omega)
      omega
  intro i hi'
  have h1 := lo i hi'
  have h2 := hi (n - 1 - i) i hi' (by omega)
  omega
theorem ssum_delta {m k : Nat} {f g : Nat → R} (hk : k < m) (hg : ∀ a, a < m → g a = if a = k then 1 else 0) : (ssum m fun a => f a * g a) = f k := by
  rw [ssum_one' (k := k) hk fun i hi hne => by rw [hg i hi, if_neg hne]; grind, hg k hk, if_pos rfl]
  grind
/-- what is found behind a square matrix of full rank is its inverse -/
theorem Es.inverse {n w : Nat} {W A M : Nat → Nat → R} {p : Nat → Nat} (h : Es n w W (aug n A) M) (hf : Rf n n n p M) : (∀ i k, i < n → k < n → (ssum n fun a => A i a * M a (n + k)) = if i = k then 1 else 0) ∧ ∀ i k, i < n → k < n → (ssum n fun a => M i (n + a) * A a k) = if i = k then 1 else 0 := by
  have hd : ∀ i k, i < n → k < n → M i k = if i = k then 1 else 0 := fun i k hi hk => by
    have := hf.unit k i hk hi
    rwa [hf.full k hk] at this
  constructor
  · obtain ⟨V, hV⟩ := h.nil
    obtain ⟨h1, h2⟩ := Lin.nil_aug hV
    have eV : ∀ i k, i < n → k < n → A i k = V i k := fun i k hi hk => by
      rw [h1 i k hi hk, ssum_delta (k := k) hk fun a ha => hd a k ha hk]
    intro i k hi hk
    rw [ssum_congr (g := fun a => V i a * M a (n + k)) fun a ha => by rw [eV i a hi ha], h2 i k hi]
    by_cases e : i = k
    · rw [if_pos e, if_pos e.symm]
    · rw [if_neg e, if_neg (Ne.symm e)]
  · intro i k hi hk
    rw [← h.lin.aug i k hi hk]
    exact hd i k hi hk
end
end Ek

namespace Ek
theorem Rw.congrP {Sb S : Sto} {h q m : Nat} {ρ : Nat → Nat} {pl pl' : List U} {g : Nat → List U} (R : Rw Sb S h q ρ m pl g) (e : pl = pl') : Rw Sb S h q ρ m pl' g := by subst e; exact R
end Ek
namespace Ek
end Ek

namespace Ek
section
end
end Ek
namespace Ek
section
variable {R : Type} [Lean.Grind.CommRing R] [DecidableEq R]
theorem idn_rf {m : Nat} : Rf m m m (fun i => i) (idn : Nat → Nat → R) :=
  ⟨Nat.le_refl _, fun i h => h, fun i i' h _ => h, fun i i' _ _ => rfl, fun i k _ hk => if_neg (by omega), fun i k h1 h2 _ => by omega⟩
theorem idn_ker {m : Nat} {x : Nat → R} : Ker m m idn x ↔ ∀ i, i < m → x i = 0 := by
  have e : ∀ i, i < m → dt m (idn i) x = x i := fun i hi => by
    unfold dt
    rw [ssum_one' (k := i) hi fun c hc hne => by unfold idn; rw [if_neg (Ne.symm hne)]; grind]
    unfold idn; rw [if_pos rfl]; grind
  exact ⟨fun h i hi => by rw [← e i hi]; exact h i hi, fun h i hi => by rw [e i hi]; exact h i hi⟩
/-- a matrix without a kernel has full rank -/
theorem Rf.all {m r : Nat} {p : Nat → Nat} {M : Nat → Nat → R} (h10 : (1 : R) ≠ 0) (h : Rf m m r p M) (hk : ∀ x, Ker m m M x → ∀ i, i < m → x i = 0) : r = m := by
  refine (h.uniq h10 idn_rf fun x => ⟨fun hx => idn_ker.mpr (hk x hx), fun hx i hi => ?_⟩).eR
  unfold dt
  exact ssum_zero fun c hc => by rw [idn_ker.mp hx c hc]; grind
end
end Ek

namespace Ek
section
variable {R R' : Type} [Lean.Grind.CommRing R] [DecidableEq R] [Lean.Grind.CommRing R'] [DecidableEq R']
structure Hom (φ : R → R') : Prop where
  add : ∀ a b, φ (a + b) = φ a + φ b
  mul : ∀ a b, φ (a * b) = φ a * φ b
  zero : φ 0 = 0
  one : φ 1 = 1
theorem Hom.neg {φ : R → R'} (h : Hom φ) (a : R) : φ (-a) = -φ a := by
  have h1 := h.add a (-a)
  rw [show a + -a = 0 by grind, h.zero] at h1
  grind
theorem Hom.sum {φ : R → R'} (h : Hom φ) {f : Nat → R} : ∀ n, φ (ssum n f) = ssum n fun i => φ (f i)
  | 0 => h.zero
  | n + 1 => by rw [ssum, ssum, h.add, h.sum n]
theorem Hom.sg {φ : R → R'} (h : Hom φ) : ∀ n, φ (sg n) = sg n
  | 0 => h.one
  | n + 1 => by rw [Ek.sg, Ek.sg, h.neg, h.sg n]
theorem Hom.det {φ : R → R'} (h : Hom φ) : ∀ n (M : Nat → Nat → R), φ (det n M) = det n fun i j => φ (M i j)
  | 0, _ => h.one
  | n + 1, M => by
    rw [det_succ, det_succ, h.sum]
    exact ssum_congr fun i _ => by rw [h.mul, h.mul, h.sg, h.det n]
theorem det_idn {n : Nat} {M : Nat → Nat → R} (h : ∀ i j, i < n → j < n → M i j = if i = j then 1 else 0) : det n M = 1 := by
  match n, h with
  | 0, _ => rfl
  | n + 1, h =>
    have := det_unit (R := R) (n := n + 1) (i := n) (v := fun a => if a = n then 1 else 0) (by omega)
    rw [if_pos rfl] at this
    rw [← this]
    refine det_congr fun i j hi hj => ?_
    rw [h i j hi hj]
    by_cases e : j = n
    · rw [if_pos e, e]
    · rw [if_neg e]
/-- full rank and the determinant -/
theorem Es.det_full {n : Nat} {A M : Nat → Nat → R} {p : Nat → Nat} (h10 : (1 : R) ≠ 0) (h : Es n (n + n) (aug n A) (aug n A) M) (hf : Rf n n n p M) : det n A ≠ 0 := by
  obtain ⟨S, ⟨c, d, e, hd⟩, _⟩ := h.rch
  have h1 := hd fun b => b
  rw [det_idn fun i j hi hj => by
    have := hf.unit j i hj hi
    rwa [hf.full j hj] at this, det_congr (N := A) fun i j _ hj => aug_lo hj] at h1
  intro z
  rw [z] at h1
  exact h10 (by rw [h1]; grind)
theorem Es.det_low {n r : Nat} {A M : Nat → Nat → R} {p : Nat → Nat} (h : Es n (n + n) (aug n A) (aug n A) M) (hf : Rf n n r p M) (hr : r < n) : det n A = 0 := by
  obtain ⟨S, ⟨c, d, e, hd⟩, _⟩ := h.rch
  have h1 := hd fun b => b
  rw [det_zrow hr fun k hk => hf.below r k (Nat.le_refl _) hr hk, det_congr (M := fun a b => aug n A a b) (N := A) fun i j _ hj => aug_lo hj] at h1
  have : det n A = d * (c * det n A) := by grind
  rw [this, ← h1]; grind
end
section
variable {n : Nat}
theorem of_hom : Hom (Fl.f n).of := by
  have key : ∀ (x y : Fin (n + 2)), ((x.val : Nat) : Int) = ((y.val : Nat) : Int) → x = y := fun x y h => Fin.ext (by omega)
  have fa : ∀ x y : Fin (n + 2), (((x + y).val : Nat) : Int) = (((x.val : Nat) : Int) + ((y.val : Nat) : Int)) % ((n + 2 : Nat) : Int) := fun x y => by
    rw [Fin.val_add, Int.natCast_emod, Int.natCast_add]
  have fm : ∀ x y : Fin (n + 2), (((x * y).val : Nat) : Int) = (((x.val : Nat) : Int) * ((y.val : Nat) : Int)) % ((n + 2 : Nat) : Int) := fun x y => by
    rw [Fin.val_mul, Int.natCast_emod, Int.natCast_mul]
  refine ⟨fun a b => ?_, fun a b => ?_, ?_, ?_⟩
  · refine key _ _ ?_
    refine (of_val (n := n) (a + b)).trans (Eq.trans ?_ (fa _ _).symm)
    rw [of_val, of_val, ← Int.add_emod]
  · refine key _ _ ?_
    refine (of_val (n := n) (a * b)).trans (Eq.trans ?_ (fm _ _).symm)
    rw [of_val, of_val, ← Int.mul_emod]
  · rfl
  · rfl
end
end Ek

namespace Ek
section
variable {R : Type} [Lean.Grind.CommRing R] [DecidableEq R]
/-- all orders of 0 .. n - 1, as the laws make them -/
def ordL : Nat → List (List Nat)
  | 0 => [[]]
  | k + 1 => (ordL k).flatMap fun o => (List.range (k + 1)).map fun i => o.take i ++ [k] ++ o.drop i
/-- products -/
def pprod : Nat → (Nat → R) → R
  | 0, _ => 1
  | n + 1, g => pprod n g * g n
theorem pprod_congr : ∀ {n : Nat} {f g : Nat → R}, (∀ i, i < n → f i = g i) → pprod n f = pprod n g
  | 0, _, _, _ => rfl
  | n + 1, f, g, h => by rw [pprod, pprod, pprod_congr fun i hi => h i (by omega), h n (by omega)]
/-- a triangle's determinant -/
theorem det_tri : ∀ {n : Nat} {U : Nat → Nat → R}, (∀ i j, i < n → j < i → U i j = 0) → det n U = pprod n fun i => U i i
  | 0, U, _ => rfl
  | n + 1, U, h => by
    rw [det_succ, ssum_one' (k := n) (by omega) fun i hi hne => by
      rw [det_zrow (M := fun a => U (sk i a)) (r := n - 1) (by omega) fun k hk => by
        show U (sk i (n - 1)) k = 0
        rw [sk_hi (by omega)]
        exact h _ _ (by omega) (by omega)]
      grind, sg_two, pprod, det_congr (N := U) fun a b ha _ => by rw [sk_lo ha], det_tri fun i j hi hj => h i j (by omega) hj]
    grind
/-- the first s rows changed by those ahead of them -/
theorem det_low_mul {s : Nat} {U : Nat → Nat → R} (L : Nat → Nat → R) : ∀ t, t ≤ s → det s (fun i c => if s - t ≤ i then U i c + ssum i (fun j => L i j * U j c) else U i c) = det s U
  | 0, _ => det_congr fun i j hi _ => if_neg (by omega)
  | t + 1, ht => by
    rw [← det_low_mul (U := U) L t (by omega)]
    obtain ⟨r, hr⟩ : ∃ r, r = s - (t + 1) := ⟨_, rfl⟩
    have key : ∀ q, q ≤ r → det s (fun i c => if i = r then U r c + ssum q (fun j => L r j * U j c) else if r < i then U i c + ssum i (fun j => L i j * U j c) else U i c) = det s fun i c => if r < i then U i c + ssum i (fun j => L i j * U j c) else U i c := by
      intro q
      induction q with
      | zero =>
        intro _
        refine det_congr fun i c _ _ => ?_
        by_cases e : i = r
        · rw [if_pos e, if_neg (by omega), ssum, e]; grind
        · rw [if_neg e]
      | succ q ih =>
        intro hq
        rw [← ih (by omega), ← det_addrow (c := L r q) (show r < s by omega) (show q < s by omega) (show r ≠ q by omega) fun i c => if i = r then U r c + ssum q (fun j => L r j * U j c) else if r < i then U i c + ssum i (fun j => L i j * U j c) else U i c]
        refine det_congr fun i c _ _ => ?_
        by_cases e : i = r
        · rw [e, upd_at, if_pos rfl, if_pos rfl, if_neg (show q ≠ r by omega), if_neg (show ¬ r < q by omega), ssum]; grind
        · rw [upd_ne e, if_neg e, if_neg e]
    refine (det_congr fun i c _ _ => ?_).trans ((key r (Nat.le_refl _)).symm.symm.trans (det_congr fun i c _ _ => ?_))
    · by_cases e : i = r
      · rw [if_pos e, e, if_pos (show s - (t + 1) ≤ r by omega)]
      · by_cases e2 : r < i
        · rw [if_pos (show s - (t + 1) ≤ i by omega), if_neg e, if_pos e2]
        · rw [if_neg (show ¬ s - (t + 1) ≤ i by omega), if_neg e, if_neg e2]
    · by_cases e2 : r < i
      · rw [if_pos e2, if_pos (show s - t ≤ i by omega)]
      · rw [if_neg e2, if_neg (show ¬ s - t ≤ i by omega)]
end
end Ek

namespace Ek
section
variable {R : Type} [Lean.Grind.CommRing R] [DecidableEq R]
theorem ssum_cut {t : Nat} {f : Nat → R} : ∀ {m : Nat}, t ≤ m → (∀ j, t ≤ j → j < m → f j = 0) → ssum m f = ssum t f
  | 0, h, _ => by have : t = 0 := by omega
                  subst this; rfl
  | m + 1, h, hz => by
    by_cases e : t = m + 1
    · subst e; rfl
    · rw [ssum, ssum_cut (m := m) (by omega) fun j h1 h2 => hz j h1 (by omega), hz m (by omega) (by omega)]; grind
/-- the state of the factors: columns below k are done -/
structure Lu (n k : Nat) (A U L : Nat → Nat → R) (o : Nat → Nat) : Prop where
  sum : ∀ i c, i < n → c < n → A (o i) c = U i c + ssum (min i k) fun j => L i j * U j c
  low : ∀ i j, j < k → j < i → i < n → U i j = 0
  skp : ∀ i j, j < k → j < i → i < n → U j j = 0 → L i j = 0
  sh : ∀ i j, i < n → j < n → (i ≤ j ∨ k ≤ j) → L i j = if i = j then 1 else 0
  kn : k ≤ n
variable {n k : Nat} {A U L : Nat → Nat → R} {o : Nat → Nat}
theorem Lu.start : Lu n 0 A A (fun i j => if i = j then (1 : R) else 0) id :=
  ⟨fun i c _ _ => by rw [Nat.min_zero, ssum]; show A i c = _; grind, fun i j h => by omega, fun i j h => by omega, fun _ _ _ _ _ => rfl, Nat.zero_le _⟩
theorem Lu.skip (h : Lu n k A U L o) (hk : k < n) (hz : ∀ i, k ≤ i → i < n → U i k = 0) : Lu n (k + 1) A U L o := by
  have l0 : ∀ i, k < i → i < n → L i k = 0 := fun i h1 h2 => by rw [h.sh i k h2 hk (.inr (Nat.le_refl _)), if_neg (by omega)]
  refine ⟨fun i c hi hc => ?_, fun i j h1 h2 h3 => ?_, fun i j h1 h2 h3 h4 => ?_, fun i j h1 h2 h3 => h.sh i j h1 h2 (by omega), hk⟩
  · rw [h.sum i c hi hc]
    by_cases e : k < i
    · rw [Nat.min_eq_right (by omega), Nat.min_eq_right (by omega), ssum, l0 i e hi]; grind
    · rw [Nat.min_eq_left (by omega), Nat.min_eq_left (by omega)]
  · by_cases e : j = k
    · rw [e]; exact hz i (by omega) h3
    · exact h.low i j (by omega) h2 h3
  · by_cases e : j = k
    · rw [e]; exact l0 i (by omega) h3
    · exact h.skp i j (by omega) h2 h3 h4
theorem sw_of_lt {k f j : Nat} (hf : k ≤ f) (h : j < k) : sw k f j = j := by unfold sw; rw [if_neg (by omega), if_neg (by omega)]
theorem sw_ge {k f i : Nat} (hf : k ≤ f) (h : k ≤ i) : k ≤ sw k f i := by unfold sw; split <;> (try split) <;> omega
theorem Lu.sw (h : Lu n k A U L o) (hk : k < n) {f : Nat} (h1 : k ≤ f) (h2 : f < n) : Lu n k A (fun i => U (Ek.sw k f i)) (fun i j => if j < k then L (Ek.sw k f i) j else L i j) (fun i => o (Ek.sw k f i)) := by
  refine ⟨fun i c hi hc => ?_, fun i j h3 h4 h5 => ?_, fun i j h3 h4 h5 h6 => ?_, fun i j h3 h4 h5 => ?_, h.kn⟩
  · have hs := sw_lt hk h2 hi
    rw [h.sum _ c hs hc]
    congr 1
    by_cases e : k ≤ i
    · have := sw_ge h1 e
      rw [Nat.min_eq_right this, Nat.min_eq_right e]
      refine ssum_congr fun j hj => ?_
      rw [if_pos hj, sw_of_lt h1 hj]
    · rw [sw_of_lt h1 (by omega)]
      refine ssum_congr fun j hj => ?_
      rw [if_pos (by omega), sw_of_lt h1 (show j < k by omega)]
  · by_cases e : k ≤ i
    · exact h.low _ j h3 (Nat.lt_of_lt_of_le h3 (sw_ge h1 e)) (sw_lt hk h2 h5)
    · show U (Ek.sw k f i) j = 0
      rw [sw_of_lt h1 (by omega)]; exact h.low _ j h3 h4 h5
  · rw [if_pos h3]
    have h6 : U (Ek.sw k f j) j = 0 := h6
    rw [sw_of_lt h1 h3] at h6
    by_cases e : k ≤ i
    · exact h.skp _ j h3 (Nat.lt_of_lt_of_le h3 (sw_ge h1 e)) (sw_lt hk h2 h5) h6
    · rw [sw_of_lt h1 (by omega)]; exact h.skp _ j h3 h4 h5 h6
  · show (if j < k then L (Ek.sw k f i) j else L i j) = _
    by_cases e : j < k
    · rw [if_pos e, sw_of_lt h1 (by omega)]; exact h.sh i j h3 h4 h5
    · rw [if_neg e]; exact h.sh i j h3 h4 h5
theorem Lu.clr (h : Lu n k A U L o) (hk : k < n) {v : R} (hv : U k k * v = 1) (hU : U k k ≠ 0) : Lu n (k + 1) A (fun i c => if k < i then U i c + -(U i k * v) * U k c else U i c) (fun i j => if j = k ∧ k < i then U i k * v else L i j) o := by
  refine ⟨fun i c hi hc => ?_, fun i j h3 h4 h5 => ?_, fun i j h3 h4 h5 h6 => ?_, fun i j h3 h4 h5 => ?_, hk⟩
  · rw [h.sum i c hi hc]
    by_cases e : k < i
    · rw [Nat.min_eq_right (by omega), Nat.min_eq_right (by omega), ssum, if_pos e, if_pos ⟨rfl, e⟩, if_neg (show ¬ k < k by omega), ssum_congr (f := fun j => (if j = k ∧ k < i then U i k * v else L i j) * if k < j then U j c + -(U j k * v) * U k c else U j c) (g := fun j => L i j * U j c) fun j hj => by rw [if_neg (by omega), if_neg (by omega)]]
      grind
    · rw [if_neg e, Nat.min_eq_left (by omega), Nat.min_eq_left (by omega)]
      congr 1
      exact ssum_congr fun j hj => by rw [if_neg (by omega), if_neg (by omega)]
  · show (if k < i then U i j + -(U i k * v) * U k j else U i j) = 0
    by_cases e : j = k
    · rw [e, if_pos (by omega)]; grind
    · rw [h.low i j (by omega) h4 h5]
      split
      · rw [h.low k j (by omega) (by omega) hk]; grind
      · rfl
  · have h6 : (if k < j then U j j + -(U j k * v) * U k j else U j j) = 0 := h6
    rw [if_neg (by omega)] at h6
    by_cases e : j = k
    · exact absurd (e ▸ h6) hU
    · rw [if_neg (by omega)]; exact h.skp i j (by omega) h4 h5 h6
  · rw [if_neg (by omega)]; exact h.sh i j h3 h4 (by omega)
/-- what is left of an entry when t rows are taken off -/
def Lr (A U L : Nat → Nat → R) (o : Nat → Nat) (t i c : Nat) : R := A (o i) c - ssum t fun j => L i j * U j c
/-- the rows and columns ahead, bordered by row i and column c -/
def Lm (A U : Nat → Nat → R) (o : Nat → Nat) (t i c : Nat) (a b : Nat) : R := if a < t ∧ U a a = 0 then (if b = a then 1 else 0) else A (o (if a < t then a else i)) (if b < t then b else c)
theorem Lu.left (h : Lu n k A U L o) {t i b : Nat} (ht : t ≤ min i k) (hi : i < n) (hb : b < t) : Lr A U L o t i b = 0 := by
  unfold Lr
  rw [h.sum i b hi (by omega), h.low i b (by omega) (by omega) hi, ssum_cut ht fun j h1 h2 => by rw [h.low j b (by omega) (by omega) (by omega)]; grind]
  grind
theorem Lu.det_eq (h : Lu n k A U L o) {t i c : Nat} (ht : t ≤ min i k) (hi : i < n) (hc : c < n) (s : Nat) (hs : s ≤ t + 1) : det s (Lm A U o t i c) = pprod s fun a => if a < t then (if U a a = 0 then 1 else U a a) else Lr A U L o t i c := by
  obtain ⟨W, hW⟩ : ∃ W : Nat → Nat → R, W = fun a b => if a < t then (if U a a = 0 then (if b = a then 1 else 0) else U a (if b < t then b else c)) else Lr A U L o t i (if b < t then b else c) := ⟨_, rfl⟩
  obtain ⟨l, hl⟩ : ∃ l : Nat → Nat → R, l = fun a j => if a < t then (if U a a = 0 then 0 else L a j) else L i j := ⟨_, rfl⟩
  have e1 : det s (Lm A U o t i c) = det s fun a b => if s - s ≤ a then W a b + ssum a (fun j => l a j * W j b) else W a b := by
    refine det_congr fun a b ha hb => ?_
    have hrb : (if b < t then b else c) < n := by split <;> omega
    rw [if_pos (by omega), hW, hl]
    unfold Lm
    dsimp only
    generalize (if b < t then b else c) = y at hrb ⊢
    have tm : ∀ j m, j < t → j < m → m < n → L m j * (if j < t then (if U j j = 0 then (if b = j then 1 else 0) else U j y) else Lr A U L o t i y) = L m j * U j y := fun j m h1 h2 h3 => by
      rw [if_pos h1]
      split
      · rw [h.skp m j (by omega) h2 h3 ‹_›]; grind
      · rfl
    by_cases e : a < t
    · rw [if_pos e, if_pos e]
      by_cases e2 : U a a = 0
      · rw [if_pos ⟨e, e2⟩, if_pos e2, ssum_zero fun j _ => by rw [if_pos e2]; grind]; grind
      · rw [if_neg (fun e3 => e2 e3.2), if_neg e2, h.sum a y (by omega) hrb, Nat.min_eq_left (by omega)]
        congr 1
        refine ssum_congr fun j hj => ?_
        rw [if_neg e2, if_pos e, tm j a (by omega) hj (by omega)]
    · have : a = t := by omega
      subst this
      rw [if_neg (fun e3 => e e3.1), if_neg e, if_neg e]
      unfold Lr
      have e9 : ∀ x y z : R, z = y → x = x - y + z := by intros; grind
      exact e9 _ _ _ (ssum_congr fun j hj => by rw [if_neg e]; exact tm j i hj (by omega) hi)
  rw [e1, det_low_mul (U := W) l s (Nat.le_refl _), det_tri fun a b ha hb => ?_]
  · refine pprod_congr fun a ha => ?_
    rw [hW]
    dsimp only
    by_cases e : a < t
    · rw [if_pos e, if_pos e, if_pos rfl, if_pos e]
    · rw [if_neg e, if_neg e, if_neg e]
  · rw [hW]
    dsimp only
    rw [if_pos (show b < t by omega)]
    by_cases e : a < t
    · rw [if_pos e]
      split
      · rw [if_neg (by omega)]
      · exact h.low a b (by omega) hb (by omega)
    · rw [if_neg e]; exact h.left ht hi (by omega)
/-- the product of the factors -/
theorem Lu.mul (h : Lu n n A U L o) {i c : Nat} (hi : i < n) (hc : c < n) : (ssum n fun j => L i j * U j c) = A (o i) c := by
  rw [ssum_cut (t := i + 1) hi fun j h1 h2 => by rw [h.sh i j hi h2 (.inl (by omega)), if_neg (by omega)]; grind, ssum, h.sh i i hi hi (.inl (Nat.le_refl _)), if_pos rfl, h.sum i c hi hc, Nat.min_eq_left (by omega)]
  grind
/-- what the product's parts are -/
theorem Lu.parts (h : Lu n n A U L o) {i c : Nat} (hi : i < n) (hc : c < n) (t : Nat) (ht : t ≤ n) : (ssum t fun j => L i j * U j c) = if t ≤ i then A (o i) c - Lr A U L o t i c else A (o i) c := by
  by_cases e : t ≤ i
  · rw [if_pos e]; unfold Lr; grind
  · rw [if_neg e, ssum_cut (t := i + 1) (by omega) fun j h1 h2 => by rw [h.sh i j hi (by omega) (.inl (by omega)), if_neg (by omega)]; grind, ssum, h.sh i i hi hi (.inl (Nat.le_refl _)), if_pos rfl, h.sum i c hi hc, Nat.min_eq_left (by omega)]
    grind
theorem Lu.fac (h : Lu n k A U L o) {i j : Nat} (hi : i < n) (hj : j < min i k) : Lr A U L o j i j = L i j * U j j := by
  unfold Lr
  rw [h.sum i j hi (by omega), h.low i j (by omega) (by omega) hi, ssum_cut (t := j + 1) (m := min i k) hj fun l h1 h2 => by rw [h.low l j (by omega) (by omega) (by omega)]; grind, ssum]
  grind
end
end Ek

namespace Ek
/-- an order of 0 .. n - 1 -/
def IsO (n : Nat) (o : List Nat) : Prop := o.length = n ∧ ∀ x, x < n → x ∈ o
theorem IsO.ord : ∀ {n : Nat} {o : List Nat}, IsO n o → o ∈ ordL n
  | 0, o, h => by rw [List.length_eq_zero_iff.mp h.1, ordL]; exact List.mem_singleton.mpr rfl
  | n + 1, o, h => by
    obtain ⟨a, b, rfl⟩ := List.append_of_mem (h.2 n (by omega))
    have h1 := h.1
    simp only [List.length_append, List.length_cons] at h1
    have := IsO.ord (n := n) (o := a ++ b) ⟨by simp; omega, fun x hx => by
      have := h.2 x (by omega)
      simp only [List.mem_append, List.mem_cons] at this ⊢
      rcases this with h | h | h
      · exact .inl h
      · omega
      · exact .inr h⟩
    rw [ordL, List.mem_flatMap]
    refine ⟨_, this, List.mem_map.mpr ⟨a.length, List.mem_range.mpr (by omega), ?_⟩⟩
    rw [List.take_left, List.drop_left]; simp
theorem IsO.range {n : Nat} : IsO n (List.range n) := ⟨List.length_range, fun x hx => List.mem_range.mpr hx⟩
theorem IsO.perm : ∀ {n : Nat} {o : List Nat}, IsO n o → o.Perm (List.range n)
  | 0, o, h => by rw [List.length_eq_zero_iff.mp h.1]; exact .refl _
  | n + 1, o, h => by
    obtain ⟨a, b, rfl⟩ := List.append_of_mem (h.2 n (by omega))
    have h1 := h.1
    simp only [List.length_append, List.length_cons] at h1
    have := IsO.perm (n := n) (o := a ++ b) ⟨by simp; omega, fun x hx => by
      have := h.2 x (by omega)
      simp only [List.mem_append, List.mem_cons] at this ⊢
      rcases this with h | h | h
      · exact .inl h
      · omega
      · exact .inr h⟩
    rw [List.range_succ]
    exact (List.perm_middle.trans (this.cons n)).trans (List.perm_append_comm (l₁ := [n]))
theorem IsO.lt {n : Nat} {o : List Nat} (h : IsO n o) {x : Nat} (hx : x ∈ o) : x < n := List.mem_range.mp (h.perm.mem_iff.mp hx)
/-- cut and turned -/
theorem IsO.turn {n : Nat} {o : List Nat} (h : IsO n o) (j : Nat) : IsO n (o.drop j ++ (o.take j).reverse) := by
  have h1 := h.1
  refine ⟨by simp; omega, fun x hx => ?_⟩
  have := h.2 x hx
  rw [← List.take_append_drop j o] at this
  simp only [List.mem_append, List.mem_reverse] at this ⊢
  exact this.symm
def sgj (o : List Nat) (i : Nat) (s : Int) : Nat → Int
  | 0 => s
  | j + 1 => if o.getD i 0 < o.getD j 0 then 0 - sgj o i s j else sgj o i s j
def sgi (o : List Nat) : Nat → Int
  | 0 => 1
  | i + 1 => sgj o i (sgi o i) i
def sgn (o : List Nat) : Int := sgi o o.length
theorem sgj_abs {o : List Nat} {i : Nat} {s : Int} (h : s.natAbs = 1) : ∀ j, (sgj o i s j).natAbs = 1
  | 0 => h
  | j + 1 => by
    have := sgj_abs (o := o) (i := i) h j
    rw [sgj]; split <;> omega
theorem sgi_abs {o : List Nat} : ∀ i, (sgi o i).natAbs = 1
  | 0 => rfl
  | i + 1 => sgj_abs (sgi_abs i) i
section
variable {R : Type} [Lean.Grind.CommRing R] [DecidableEq R]
end
section
variable {K : Fl}
theorem Bz.add {H H' : Nat} {x y : K.T} (h : Bz K H x) (h' : Bz K H' y) : Bz K (2 * (H * H')) (x + y) := by
  obtain ⟨P, h0, h1, h⟩ := h
  obtain ⟨P', h0', h1', h'⟩ := h'
  have a := nd_scale (c := P') h
  have b := nd_scale (c := P) h'
  rw [Nat.mul_comm P' P] at b
  have s1 : P * P' ≤ H * H' := Nat.mul_le_mul h1 h1'
  have s2 : H * P' ≤ H * H' := Nat.mul_le_mul_left _ h1'
  have s3 : H' * P ≤ H' * H := Nat.mul_le_mul_left _ h1
  rw [Nat.mul_comm H' H] at s3
  exact ⟨P * P', Nat.mul_pos h0 h0', by omega, nd_mono (nd_add a b) (by omega)⟩
variable {n k D N H : Nat} {A U L : Nat → Nat → K.T} {o : Nat → Nat}
end
end Ek

namespace Ek
section
variable {R : Type} [Lean.Grind.CommRing R] [DecidableEq R]
/-- elimination goes through -/
theorem rf_ex (hinv : ∀ p : R, p ≠ 0 → ∃ v, v * p = 1) {m w : Nat} {W M0 : Nat → Nat → R} (h : Rch m w W M0) : ∀ j, j ≤ w → ∃ (r : Nat) (p : Nat → Nat) (M : Nat → Nat → R), Es m w W M0 M ∧ Rf m j r p M
  | 0, _ => ⟨0, fun _ => 0, M0, Es.start h, Rf.start⟩
  | j + 1, hj => by
    obtain ⟨r, p, M, hE, hF⟩ := rf_ex hinv h j (by omega)
    by_cases hz : ∀ i, r ≤ i → i < m → M i j = 0
    · exact ⟨r, p, M, hE, hF.skip hz⟩
    · obtain ⟨f, h1, h2, h3⟩ : ∃ f, r ≤ f ∧ f < m ∧ M f j ≠ 0 := Classical.byContradiction fun w => hz fun i a b => Classical.byContradiction fun c => w ⟨i, a, b, c⟩
      obtain ⟨v, hv⟩ := hinv _ h3
      refine ⟨r + 1, upd p r j, clr r j v fun i => M (sw r f i), (hE.sw (by omega) h2).clr (by omega) (by omega) ?_, hF.step h1 h2 (sw_shf h1 h2) hv⟩
      show v * M (sw r f r) j = 1
      unfold sw; rw [if_pos rfl]; exact hv
/-- the rank -/
def Rk (m n : Nat) (A : Nat → Nat → R) (r : Nat) : Prop := ∃ (p : Nat → Nat) (M : Nat → Nat → R), Rf m n r p M ∧ ∀ x, Ker m n M x ↔ Ker m n A x
theorem Rk.uniq (h10 : (1 : R) ≠ 0) {m n r s : Nat} {A : Nat → Nat → R} (h : Rk m n A r) (g : Rk m n A s) : r = s := by
  obtain ⟨p, M, h1, h2⟩ := h
  obtain ⟨q, N, g1, g2⟩ := g
  exact (h1.uniq h10 g1 fun x => (h2 x).trans (g2 x).symm).eR
theorem Rk.of {m n w r : Nat} {A W M0 M : Nat → Nat → R} {p : Nat → Nat} (hE : Es m w W M0 M) (hF : Rf m n r p M) (h0 : ∀ i k, i < m → k < n → M0 i k = A i k) : Rk m n A r := by
  refine ⟨p, M, hF, fun x => (hE.ker x).trans ?_⟩
  constructor
  · intro h i hi
    rw [← h i hi]; exact dt_congr (fun k hk => (h0 i k hi hk).symm) fun _ _ => rfl
  · intro h i hi
    rw [← h i hi]; exact dt_congr (fun k hk => h0 i k hi hk) fun _ _ => rfl
/-- with the identity behind -/
theorem aug_ex (hinv : ∀ p : R, p ≠ 0 → ∃ v, v * p = 1) (m n : Nat) (A : Nat → Nat → R) : ∃ (r : Nat) (p : Nat → Nat) (M : Nat → Nat → R), Es m (n + m) (aug n A) (aug n A) M ∧ Rf m n r p M := rf_ex hinv aug_rch n (by omega)
theorem aug_rk {m n r : Nat} {A M : Nat → Nat → R} {p : Nat → Nat} (hE : Es m (n + m) (aug n A) (aug n A) M) (hF : Rf m n r p M) : Rk m n A r := Rk.of hE hF fun i k _ hk => aug_lo hk
/-- fewer pivots than columns: a column without one -/
theorem free_col {r s : Nat} {p : Nat → Nat} (hm : ∀ i i', i < i' → i' < r → p i < p i') (h : r < s) : ∃ k, k < s ∧ ∀ i, i < r → p i ≠ k := by
  refine Classical.byContradiction fun w => ?_
  have := sorted_le (r := s) (r' := r) (p := fun i => i) (p' := p) (fun _ _ h _ => h) hm (fun i hi => Classical.byContradiction fun c => w ⟨i, hi, fun j hj e => c ⟨j, hj, e⟩⟩) r h
  omega
/-- more columns than rows: something that is not zero is taken to zero -/
theorem ker_ex (h10 : (1 : R) ≠ 0) (hinv : ∀ p : R, p ≠ 0 → ∃ v, v * p = 1) {r s : Nat} (h : r < s) (A : Nat → Nat → R) : ∃ x : Nat → R, Ker r s A x ∧ ∃ k, k < s ∧ x k ≠ 0 := by
  obtain ⟨q, p, M, hE, hF⟩ := aug_ex hinv r s A
  have rm := hF.rm
  obtain ⟨k, hk, hk2⟩ := free_col hF.mono (show q < s by omega)
  refine ⟨kv q p M k, ker_aug.mp ((hE.ker _).mp (hF.kvk hk)), k, hk, ?_⟩
  rw [Rf.kv_no hk2]; exact h10
/-- a determinant that is not zero: nothing else is taken to zero -/
theorem det_inj (hinv : ∀ p : R, p ≠ 0 → ∃ v, v * p = 1) {s : Nat} {B : Nat → Nat → R} (hd : det s B ≠ 0) {x : Nat → R} (hx : Ker s s B x) : ∀ k, k < s → x k = 0 := fun k hk => by
  obtain ⟨q, p, M, hE, hF⟩ := aug_ex hinv s s B
  have e : q = s := by
    rcases Nat.lt_or_ge q s with w | w
    · exact absurd (hE.det_low hF w) hd
    · have := hF.rm; omega
  subst e
  have h1 := (hE.ker (w' := q) x).mpr (ker_aug.mpr hx) k hk
  unfold dt at h1
  rw [ssum_one' (k := k) hk fun i hi hne => by
    have := hF.unit i k hi hk
    rw [hF.full i hi, if_neg (Ne.symm hne)] at this
    rw [this]; grind] at h1
  have := hF.unit k k hk hk
  rw [hF.full k hk, if_pos rfl] at this
  rw [this] at h1
  rw [← h1]; grind
/-- minors above the rank are zero -/
theorem Rk.hi (h10 : (1 : R) ≠ 0) (hinv : ∀ p : R, p ≠ 0 → ∃ v, v * p = 1) {m n r s : Nat} {A : Nat → Nat → R} (h : Rk m n A r) (hs : r < s) {ρ σ : Nat → Nat} (hρ : ∀ i, i < s → ρ i < m) (hσ : ∀ i, i < s → σ i < n) : det s (fun a b => A (ρ b) (σ a)) = 0 := by
  refine Classical.byContradiction fun hd => ?_
  obtain ⟨q, p, M, hE, hF⟩ := aug_ex hinv m n A
  have e := h.uniq h10 (aug_rk hE hF)
  subst e
  have rm := hF.rm
  obtain ⟨V, hV⟩ := hE.nil
  have hA := (Lin.nil_aug hV).1
  have hA : ∀ i k, i < m → k < n → A i k = ssum r fun a => V i a * M a k := fun i k hi hk => by
    rw [hA i k hi hk]
    exact ssum_cut rm fun a h1 h2 => by rw [hF.below a k h1 h2 hk]; grind
  obtain ⟨x, hx, k, hk, hne⟩ := ker_ex h10 hinv hs fun i b => V (ρ b) i
  refine hne (det_inj hinv hd (x := x) (fun a ha => ?_) k hk)
  unfold dt
  rw [ssum_congr (g := fun b => ssum r fun i => M i (σ a) * (V (ρ b) i * x b)) fun b hb => by
    show A (ρ b) (σ a) * x b = _
    rw [hA _ _ (hρ b hb) (hσ a ha), ← ssum_mul]; exact ssum_congr fun i _ => by grind, ssum_swap]
  refine ssum_zero fun i hi => ?_
  rw [mul_ssum]
  have := hx i hi
  unfold dt at this
  rw [this]; grind
/-- a minor of the rank's size that is not zero -/
theorem Rk.lo (h10 : (1 : R) ≠ 0) (hinv : ∀ p : R, p ≠ 0 → ∃ v, v * p = 1) {m n r : Nat} {A : Nat → Nat → R} (h : Rk m n A r) : ∃ ρ σ : Nat → Nat, (∀ i, i < r → ρ i < m) ∧ (∀ i, i < r → σ i < n) ∧ det r (fun a b => A (ρ b) (σ a)) ≠ 0 := by
  obtain ⟨q, p, M, hE, hF⟩ := aug_ex hinv m n A
  have e := h.uniq h10 (aug_rk hE hF)
  subst e
  have rm := hF.rm
  have hL := hE.lin.aug
  -- the columns with pivots
  have inj : ∀ x : Nat → R, (∀ a, a < m → (ssum r fun j => A a (p j) * x j) = 0) → ∀ i, i < r → x i = 0 := fun x hx i hi => by
    have h1 : (ssum r fun j => M i (p j) * x j) = 0 := by
      rw [ssum_congr (g := fun j => ssum m fun a => M i (n + a) * (A a (p j) * x j)) fun j hj => by
        rw [hL i _ (by omega) (hF.lt j hj), ← ssum_mul]; exact ssum_congr fun a _ => by grind, ssum_swap]
      exact ssum_zero fun a ha => by rw [mul_ssum, hx a ha]; grind
    rw [ssum_one' (k := i) hi fun j hj hne => by rw [hF.unit j i hj (by omega), if_neg (Ne.symm hne)]; grind, hF.unit i i hi (by omega), if_pos rfl] at h1
    rw [← h1]; grind
  obtain ⟨D, hD⟩ : ∃ D : Nat → Nat → R, D = fun j a => A a (p j) := ⟨_, rfl⟩
  obtain ⟨t, ρ, N, hE', hF'⟩ := aug_ex hinv r m D
  have hL' := hE'.lin.aug
  obtain ⟨S, ⟨c, d, hdc, hc⟩, _⟩ := hE'.rch
  have tr := hF'.rm
  have c0 : c ≠ 0 := fun e => h10 (by rw [← hdc, e]; grind)
  have et : t = r := by
    rcases Nat.lt_or_ge t r with w | w
    · exfalso
      have y0 := inj (fun j => N (r - 1) (m + j)) fun a ha => by
        have h1 := hL' (r - 1) a (by omega) ha
        rw [hF'.below (r - 1) a (by omega) (by omega) ha, hD] at h1
        rw [h1]; exact ssum_congr fun j _ => by grind
      have h2 := hc fun b => m + b
      rw [det_zrow (r := r - 1) (by omega) fun k hk => y0 k hk, det_idn fun i j _ _ => by
        show aug m D i (m + j) = _
        rw [aug_hi]
        by_cases e : i = j
        · rw [if_pos e, if_pos e.symm]
        · rw [if_neg e, if_neg (Ne.symm e)]] at h2
      exact c0 (by grind)
    · omega
  subst et
  refine ⟨ρ, p, fun i hi => hF'.lt i hi, fun i hi => hF.lt i hi, fun e => ?_⟩
  have h2 := hc ρ
  rw [det_idn fun i j hi hj => by rw [hF'.unit j i hj hi], det_congr (N := fun a b => A (ρ b) (p a)) fun i j _ hj => by
    show aug m D i (ρ j) = _
    rw [aug_lo (hF'.lt j hj), hD], e] at h2
  exact h10 (by rw [h2]; grind)
end
section
variable {m n r t q : Nat} {A : Nat → Nat → Int}
theorem inv_ex {K : Fl} (hw : Fp K) : ∀ p : K.T, p ≠ 0 → ∃ v, v * p = 1 := fun p hp => ⟨K.inv p, by rw [← mul_inv hw hp]; grind⟩
theorem homQ : Hom (Fl.q).of where
  add := fun a b => by show (((a + b : Int) : Rat)) = (a : Rat) + (b : Rat); exact Rat.intCast_add a b
  mul := fun a b => by show (((a * b : Int) : Rat)) = (a : Rat) * (b : Rat); exact Rat.intCast_mul a b
  zero := rfl
  one := rfl
theorem fp_q : Fp .q := fun n e => by cases e
theorem oneQ : (1 : (Fl.q).T) ≠ 0 := by show (1 : Rat) ≠ 0; decide
theorem ofQ_ne {i : Int} : (Fl.q).of i ≠ 0 ↔ i ≠ 0 := ⟨fun h e => h (by rw [e]; rfl), fun h e => h (Rat.intCast_inj.mp e)⟩
/-- over the fractions a minor of integers that is not zero -/
theorem Rk.minor (h : Rk m n (fun i j => (Fl.q).of (A i j)) r) : ∃ ρ σ : Nat → Nat, (∀ i, i < r → ρ i < m) ∧ (∀ i, i < r → σ i < n) ∧ det r (fun a b => A (ρ b) (σ a)) ≠ 0 := by
  obtain ⟨ρ, σ, h1, h2, h3⟩ := h.lo oneQ (inv_ex fp_q)
  refine ⟨ρ, σ, h1, h2, ofQ_ne.mp ?_⟩
  rw [homQ.det]; exact h3
end
end Ek

namespace Ek
section
variable {R : Type} [Lean.Grind.CommRing R] [DecidableEq R]
/-- the product of two rows -/
def dotn (n : Nat) (f g : Nat → R) : R := ssum n fun k => f k * g k
theorem dotn_comm {n : Nat} {f g : Nat → R} : dotn n f g = dotn n g f := ssum_congr fun k _ => by grind
theorem dotn_congr {n : Nat} {f g f' g' : Nat → R} (h : ∀ k, k < n → f k = f' k) (h' : ∀ k, k < n → g k = g' k) : dotn n f g = dotn n f' g' := ssum_congr fun k hk => by rw [h k hk, h' k hk]
theorem dotn_sub {n : Nat} {f h g : Nat → R} {c : R} : dotn n (fun k => f k + -(c * h k)) g = dotn n f g + -(c * dotn n h g) := by
  unfold dotn
  rw [← mul_ssum, ← ssum_neg, ← ssum_add]
  exact ssum_congr fun k _ => by grind
theorem dotn_sum {n m : Nat} {y : Nat → R} {b : Nat → Nat → R} {g : Nat → R} : dotn n (fun k => ssum m fun a => y a * b a k) g = ssum m fun a => y a * dotn n (b a) g := by
  unfold dotn
  rw [ssum_congr (g := fun k => ssum m fun a => y a * (b a k * g k)) fun k _ => by rw [← ssum_mul]; exact ssum_congr fun a _ => by grind, ssum_swap]
  exact ssum_congr fun a _ => by rw [mul_ssum]
theorem dotn_zero {n : Nat} {f g : Nat → R} (h : ∀ k, k < n → g k = 0) : dotn n f g = 0 := ssum_zero fun k hk => by rw [h k hk]; grind
variable (inv : R → R) (n : Nat) (r : Nat → Nat → R)
/-- how much of the row r l is in v -/
def muq (v : Nat → R) (l : Nat) : R := if dotn n (r l) (r l) = 0 then 0 else dotn n v (r l) * inv (dotn n (r l) (r l))
/-- what is left of v beside the first l rows -/
def prj (v : Nat → R) : Nat → Nat → R
  | 0 => v
  | l + 1 => fun k => prj v l k + -(muq inv n r v l * r l k)
/-- each row is what is left of its own beside those ahead -/
def Gs (m : Nat) (b : Nat → Nat → R) : Prop := ∀ i, i < m → ∀ k, k < n → r i k = prj inv n r (b i) i k
variable {inv : R → R} {n : Nat} {r : Nat → Nat → R}
theorem pr_sum (v : Nat → R) : ∀ l k, v k = prj inv n r v l k + ssum l fun a => muq inv n r v a * r a k
  | 0, k => by show v k = v k + 0; grind
  | l + 1, k => by
    have := pr_sum v l k
    show v k = (prj inv n r v l k + -(muq inv n r v l * r l k)) + ((ssum l fun a => muq inv n r v a * r a k) + muq inv n r v l * r l k)
    grind
variable (hinv : ∀ x : R, x ≠ 0 → x * inv x = 1) (hsq : ∀ f : Nat → R, dotn n f f = 0 → ∀ k, k < n → f k = 0)
include hinv hsq in
theorem pr_orth {v : Nat → R} : ∀ {l : Nat}, (∀ i k, k < i → i < l → dotn n (r i) (r k) = 0) → ∀ k, k < l → dotn n (prj inv n r v l) (r k) = 0
  | 0, _, k, hk => absurd hk (by omega)
  | l + 1, ho, k, hk => by
    have ih := pr_orth (l := l) (v := v) fun i k a b => ho i k a (by omega)
    show dotn n (fun c => prj inv n r v l c + -(muq inv n r v l * r l c)) (r k) = 0
    rw [dotn_sub]
    by_cases e : k = l
    · subst e
      have hv : dotn n v (r k) = dotn n (prj inv n r v k) (r k) := by
        rw [dotn_congr (f' := fun c => prj inv n r v k c + -((-1 : R) * ssum k fun a => muq inv n r v a * r a c)) (fun c _ => by have := pr_sum (inv := inv) (n := n) (r := r) v k c; grind) (fun _ _ => rfl), dotn_sub, dotn_sum, ssum_zero fun a ha => by rw [dotn_comm, ho k a ha (by omega)]; grind]
        grind
      unfold muq
      by_cases z : dotn n (r k) (r k) = 0
      · rw [if_pos z, dotn_zero (hsq _ z)]; grind
      · rw [if_neg z, hv]
        have := hinv _ z
        grind
    · rw [ih k (by omega), ho l k (by omega) (by omega)]; grind
include hinv hsq in
theorem Gs.orth {m : Nat} {b : Nat → Nat → R} (h : Gs inv n r m b) : ∀ i, i < m → ∀ k, k < i → dotn n (r i) (r k) = 0 := by
  intro i
  induction i using Nat.strongRecOn with
  | _ i ih =>
    intro hi k hk
    rw [dotn_congr (h i hi) (fun _ _ => rfl)]
    exact pr_orth hinv hsq (fun a c h1 h2 => ih a h2 (by omega) c h1) k hk
include hinv hsq in
theorem Gs.up {m : Nat} {b : Nat → Nat → R} (h : Gs inv n r m b) {a l : Nat} (hl : l < m) (ha : a < l) : dotn n (b a) (r l) = 0 := by
  rw [dotn_congr (f' := fun c => r a c + -((-1 : R) * ssum a fun i => muq inv n r (b a) i * r i c)) (fun c hc => by have := pr_sum (inv := inv) (n := n) (r := r) (b a) a c; have := h a (by omega) c hc; grind) (fun _ _ => rfl), dotn_sub, dotn_sum, ssum_zero fun i hi => by rw [dotn_comm, h.orth hinv hsq l hl i (by omega)]; grind, dotn_comm, h.orth hinv hsq l hl a ha]
  grind
include hinv hsq in
theorem Gs.own {m : Nat} {b : Nat → Nat → R} (h : Gs inv n r m b) {l : Nat} (hl : l < m) : dotn n (b l) (r l) = dotn n (r l) (r l) := by
  rw [dotn_congr (f := b l) (f' := fun c => r l c + -((-1 : R) * ssum l fun i => muq inv n r (b l) i * r i c)) (fun c hc => by have := pr_sum (inv := inv) (n := n) (r := r) (b l) l c; have := h l (by omega) c hc; grind) (fun _ _ => rfl), dotn_sub, dotn_sum, ssum_zero fun i hi => by rw [dotn_comm, h.orth hinv hsq l hl i (by omega)]; grind]
  grind
/-- a row is dead when nothing was left of it -/
def Dead (n : Nat) (r : Nat → Nat → R) (a : Nat) : Prop := dotn n (r a) (r a) = 0
theorem Gs.span {m : Nat} {b : Nat → Nat → R} (h : Gs inv n r m b) : ∀ {l : Nat}, l ≤ m → ∀ v : Nat → R, ∃ x : Nat → R, (∀ k, k < n → prj inv n r v l k = v k + -(ssum l fun a => x a * b a k)) ∧ ∀ a, a < l → Dead n r a → x a = 0
  | 0, _, v => ⟨fun _ => 0, fun k _ => by show v k = v k + -0; grind, fun a ha => absurd ha (by omega)⟩
  | l + 1, hl, v => by
    obtain ⟨x, hx, dx⟩ := h.span (l := l) (by omega) v
    obtain ⟨y, hy, dy⟩ := h.span (l := l) (by omega) (b l)
    refine ⟨fun a => if a < l then x a + -(muq inv n r v l * y a) else muq inv n r v l, fun k hk => ?_, fun a ha da => ?_⟩
    · show prj inv n r v l k + -(muq inv n r v l * r l k) = v k + -((ssum l fun a => (if a < l then x a + -(muq inv n r v l * y a) else muq inv n r v l) * b a k) + (if l < l then x l + -(muq inv n r v l * y l) else muq inv n r v l) * b l k)
      rw [if_neg (Nat.lt_irrefl l), ssum_congr (g := fun a => x a * b a k + -(muq inv n r v l * (y a * b a k))) fun a ha => by rw [if_pos ha]; grind, ssum_add, ssum_neg, mul_ssum, hx k hk, h l (by omega) k hk, hy k hk]
      grind
    · by_cases e : a < l
      · show (if a < l then _ else _) = _
        rw [if_pos e, dx a e da, dy a e da]; grind
      · have : a = l := by omega
        subst this
        show (if a < a then _ else _) = _
        rw [if_neg e]; unfold muq; exact if_pos da
include hinv hsq in
theorem Gs.free {m : Nat} {b : Nat → Nat → R} (h : Gs inv n r m b) {y : Nat → R} : ∀ {l : Nat}, l ≤ m → (∀ a, a < l → Dead n r a → y a = 0) → (∀ k, k < n → (ssum l fun a => y a * b a k) = 0) → ∀ a, a < l → y a = 0
  | 0, _, _, _, a, ha => absurd ha (by omega)
  | l + 1, hl, hd, hz, a, ha => by
    have yl : y l = 0 := by
      by_cases e : Dead n r l
      · exact hd l (by omega) e
      · have h0 : dotn n (fun k => ssum (l + 1) fun a => y a * b a k) (r l) = 0 := by rw [dotn_comm]; exact dotn_zero hz
        rw [dotn_sum] at h0
        have h0 : (ssum l fun a => y a * dotn n (b a) (r l)) + y l * dotn n (b l) (r l) = 0 := h0
        rw [ssum_zero fun a ha => by rw [h.up hinv hsq (by omega) ha]; grind, h.own hinv hsq (by omega)] at h0
        have := hinv _ e
        have e2 : y l = (0 + y l * dotn n (r l) (r l)) * inv (dotn n (r l) (r l)) := by grind
        rw [e2, h0]; grind
    by_cases e : a = l
    · rw [e]; exact yl
    · refine h.free (l := l) (by omega) (fun a ha => hd a (by omega)) (fun k hk => ?_) a (by omega)
      have := hz k hk
      have : (ssum l fun a => y a * b a k) + y l * b l k = 0 := this
      rw [yl] at this
      rw [← this]; grind
/-- Cramer, by rows -/
theorem cramR {l : Nat} {A : Nat → Nat → R} {x : Nat → R} {i : Nat} (hi : i < l) : x i * det l A = det l (upd A i fun c => ssum l fun a => x a * A a c) := by
  have key : ∀ j, j ≤ l → det l (upd A i fun c => ssum j fun a => x a * A a c) = if i < j then x i * det l A else 0 := by
    intro j
    induction j with
    | zero =>
      intro _
      rw [if_neg (by omega)]
      exact det_zrow hi fun k _ => by unfold upd; rw [if_pos rfl]; rfl
    | succ j ih =>
      intro hj
      have e : (fun c => ssum (j + 1) fun a => x a * A a c) = fun c => 1 * (ssum j fun a => x a * A a c) + x j * A j c := by
        funext c; show (ssum j _) + _ = _; grind
      rw [e, det_lin hi, ih (by omega)]
      by_cases e2 : i = j
      · subst e2
        rw [if_neg (by omega), if_pos (by omega), upd_self]; grind
      · have : det l (upd A i (A j)) = 0 := det_alike hi (by omega : j < l) e2 fun k => by unfold upd; rw [if_pos rfl, if_neg (fun h => e2 h.symm)]
        rw [this]
        by_cases e3 : i < j
        · rw [if_pos e3, if_pos (by omega)]; grind
        · rw [if_neg e3, if_neg (by omega)]; grind
  rw [key l (Nat.le_refl l), if_pos hi]

/-- fewer pivots than rows: the rows depend -/
theorem aug_dep {m n r : Nat} {A M : Nat → Nat → R} {p : Nat → Nat} (h10 : (1 : R) ≠ 0) (hE : Es m (n + m) (aug n A) (aug n A) M) (hF : Rf m n r p M) (hr : r < m) : ∃ y : Nat → R, (∃ i, i < m ∧ y i ≠ 0) ∧ ∀ k, k < n → (ssum m fun a => y a * A a k) = 0 := by
  obtain ⟨S, _, hu⟩ := hE.rch
  refine ⟨fun a => M r (n + a), ?_, fun k hk => ?_⟩
  · obtain ⟨h1, h2⟩ := hu r hr
    have h3 := h2 r hr
    rw [if_pos rfl] at h3
    by_cases e : S r < n
    · rw [hF.below r (S r) (Nat.le_refl _) hr e] at h3; exact absurd h3.symm h10
    · refine ⟨S r - n, by omega, ?_⟩
      show M r (n + (S r - n)) ≠ 0
      rw [show n + (S r - n) = S r by omega, h3]; exact h10
  · rw [← hE.lin.aug r k hr hk]; exact hF.below r k (Nat.le_refl _) hr hk
/-- a determinant is not zero when no row depends -/
theorem det_free {n : Nat} {A : Nat → Nat → R} (h10 : (1 : R) ≠ 0) (hinv : ∀ p : R, p ≠ 0 → ∃ v, v * p = 1) (h : ∀ y : Nat → R, (∀ k, k < n → (ssum n fun a => y a * A a k) = 0) → ∀ i, i < n → y i = 0) : det n A ≠ 0 := by
  obtain ⟨r, p, M, hE, hF⟩ := aug_ex hinv n n A
  by_cases e : r = n
  · subst e; exact hE.det_full h10 hF
  · obtain ⟨y, ⟨i, hi, hne⟩, hy⟩ := aug_dep h10 hE hF (by have := hF.rm; omega)
    exact absurd (h y hy i hi) hne
/-- the products of the rows that are not dead -/
def gram (n : Nat) (r b : Nat → Nat → R) (a c : Nat) : R := if dotn n (r a) (r a) = 0 ∨ dotn n (r c) (r c) = 0 then (if a = c then 1 else 0) else dotn n (b a) (b c)
def gramv (n : Nat) (r b : Nat → Nat → R) (v : Nat → R) (c : Nat) : R := if dotn n (r c) (r c) = 0 then 0 else dotn n v (b c)
theorem gram_mul {m l : Nat} {b : Nat → Nat → R} {y : Nat → R} (hy : ∀ a, a < l → Dead n r a → y a = 0) {c : Nat} (hc : c < l) : (ssum l fun a => y a * gram n r b a c) = if dotn n (r c) (r c) = 0 then 0 else ssum l fun a => y a * dotn n (b a) (b c) := by
  by_cases e : dotn n (r c) (r c) = 0
  · rw [if_pos e, ssum_zero fun a ha => ?_]
    unfold gram
    rw [if_pos (Or.inr e)]
    by_cases e2 : a = c
    · rw [if_pos e2, e2, hy c hc e]; grind
    · rw [if_neg e2]; grind
  · rw [if_neg e]
    refine ssum_congr fun a ha => ?_
    by_cases e2 : dotn n (r a) (r a) = 0
    · rw [hy a ha e2]; grind
    · unfold gram; rw [if_neg (fun w => w.elim e2 e)]
theorem gram_dead {l : Nat} {b : Nat → Nat → R} {y : Nat → R} {c : Nat} (hc : c < l) (hd : Dead n r c) : (ssum l fun a => y a * gram n r b a c) = y c := by
  have hd : dotn n (r c) (r c) = 0 := hd
  rw [ssum_one' (k := c) hc fun a ha hne => by unfold gram; rw [if_pos (Or.inr hd), if_neg hne]; grind]
  unfold gram; rw [if_pos (Or.inr hd), if_pos rfl]; grind
include hinv hsq in
theorem Gs.gram_ne (h10 : (1 : R) ≠ 0) {m : Nat} {b : Nat → Nat → R} (h : Gs inv n r m b) {l : Nat} (hl : l ≤ m) : det l (gram n r b) ≠ 0 := by
  refine det_free h10 (fun p hp => ⟨inv p, by have := hinv p hp; grind⟩) fun y hy => ?_
  have hd : ∀ a, a < l → Dead n r a → y a = 0 := fun a ha da => by have h1 := hy a ha; rw [gram_dead ha da] at h1; exact h1
  refine h.free hinv hsq hl hd ?_
  refine hsq _ ?_
  rw [dotn_sum]
  refine ssum_zero fun c hc => ?_
  by_cases e : dotn n (r c) (r c) = 0
  · rw [hd c hc e]; grind
  · have := hy c hc
    rw [gram_mul (m := m) hd hc, if_neg e] at this
    rw [dotn_comm, dotn_sum, this]; grind
include hinv hsq in
/-- what is left, without fractions -/
theorem Gs.clear {m : Nat} {b : Nat → Nat → R} (h : Gs inv n r m b) {l : Nat} (hl : l ≤ m) (v : Nat → R) : ∀ k, k < n → prj inv n r v l k * det l (gram n r b) = v k * det l (gram n r b) + -(ssum l fun a => det l (upd (gram n r b) a (gramv n r b v)) * b a k) := by
  obtain ⟨x, hx, dx⟩ := h.span hl v
  have hb : ∀ c, c < l → dotn n (prj inv n r v l) (b c) = 0 := fun c hc => by
    rw [dotn_comm, dotn_congr (f := b c) (f' := fun k => r c k + -((-1 : R) * ssum c fun i => muq inv n r (b c) i * r i k)) (fun k hk => by have := pr_sum (inv := inv) (n := n) (r := r) (b c) c k; have := h c (by omega) k hk; grind) (fun _ _ => rfl), dotn_sub, dotn_sum, ssum_zero fun i hi => by rw [dotn_comm, pr_orth hinv hsq (fun i k h1 h2 => h.orth hinv hsq i (by omega) k h1) i (by omega)]; grind, dotn_comm, pr_orth hinv hsq (fun i k h1 h2 => h.orth hinv hsq i (by omega) k h1) c hc]
    grind
  have hg : ∀ c, c < l → (ssum l fun a => x a * gram n r b a c) = gramv n r b v c := fun c hc => by
    rw [gram_mul (m := m) dx hc]
    unfold gramv
    by_cases e : dotn n (r c) (r c) = 0
    · rw [if_pos e, if_pos e]
    · rw [if_neg e, if_neg e]
      have h1 := hb c hc
      rw [dotn_congr (f' := fun k => v k + -((1 : R) * ssum l fun a => x a * b a k)) (fun k hk => by rw [hx k hk]; grind) (fun _ _ => rfl), dotn_sub, dotn_sum] at h1
      grind
  have hc : ∀ a, a < l → x a * det l (gram n r b) = det l (upd (gram n r b) a (gramv n r b v)) := fun a ha => by
    rw [cramR ha]
    refine det_congr fun i j hi hj => ?_
    unfold upd
    split
    · exact hg j hj
    · rfl
  intro k hk
  have e : (ssum l fun a => det l (upd (gram n r b) a (gramv n r b v)) * b a k) = (ssum l fun a => x a * b a k) * det l (gram n r b) := by
    rw [← ssum_mul]; exact ssum_congr fun a ha => by rw [← hc a ha]; grind
  rw [hx k hk, e]; grind
end
section
theorem ratsq (x : Rat) : 0 ≤ x * x := by
  rcases Rat.le_total (a := 0) (b := x) with h | h
  · exact Rat.mul_nonneg h h
  · have : x * x = (-x) * (-x) := by grind
    rw [this]; have h : 0 ≤ -x := by grind
    exact Rat.mul_nonneg h h
theorem ratz (x : Rat) (h : x * x = 0) : x = 0 := by grind
theorem sq_nn (f : Nat → Rat) : ∀ n, 0 ≤ ssum n fun k => f k * f k
  | 0 => by show (0 : Rat) ≤ 0; grind
  | n + 1 => by
    have h1 := sq_nn f n
    have h2 := ratsq (f n)
    show 0 ≤ (ssum n fun k => f k * f k) + f n * f n
    grind
theorem sq_z (f : Nat → Rat) : ∀ n, (ssum n fun k => f k * f k) = 0 → ∀ k, k < n → f k = 0
  | 0, _, k, hk => absurd hk (by omega)
  | n + 1, h, k, hk => by
    have h1 := sq_nn f n
    have h2 := ratsq (f n)
    have h : (ssum n fun k => f k * f k) + f n * f n = 0 := h
    by_cases e : k = n
    · rw [e]; exact ratz _ (by grind)
    · exact sq_z f n (by grind) k (by omega)
theorem hsqQ {n : Nat} (f : Nat → (Fl.q).T) (h : dotn n f f = 0) : ∀ k, k < n → f k = 0 := sq_z f n h
theorem hinvQ (x : (Fl.q).T) (h : x ≠ 0) : x * (Fl.q).inv x = 1 := mul_inv fp_q h
/-- the sizes of what is left -/
theorem Gs.nd {n m N N' H : Nat} {b r : Nat → Nat → (Fl.q).T} (h : Gs (Fl.q).inv n r m b) (hN' : n * (N * N) ≤ N') (h1 : 1 ≤ N') (hb : ∀ i k, i < m → k < n → (Fl.q).nd 1 N (b i k)) {l : Nat} (hl : l ≤ m) (hH : fac l * N' ^ l ≤ H) {v : Nat → (Fl.q).T} (hv : ∀ k, k < n → (Fl.q).nd 1 N (v k)) :
    ∃ P, 0 < P ∧ P ≤ H ∧ ∀ k, k < n → (Fl.q).nd P (N * H + l * (H * N)) (prj (Fl.q).inv n r v l k) := by
  have hw : ∀ n, (Fl.q) = .f n → n < 2 ^ 60 := fun n e => by cases e
  have hd0 : ∀ f g : Nat → (Fl.q).T, (∀ k, k < n → (Fl.q).nd 1 N (f k)) → (∀ k, k < n → (Fl.q).nd 1 N (g k)) → (Fl.q).nd 1 N' (dotn n f g) := fun f g hf hg => nd_mono (nd_dot hw hf hg n (Nat.le_refl _)) hN'
  have hG : ∀ a c, a < l → c < l → (Fl.q).nd 1 N' (gram n r b a c) := fun a c ha hc => by
    unfold gram
    split
    · split
      · exact nd_mono (nd_one hw) h1
      · exact nd_zero hw
    · exact hd0 _ _ (fun k hk => hb a k (by omega) hk) fun k hk => hb c k (by omega) hk
  have hV : ∀ c, c < l → (Fl.q).nd 1 N' (gramv n r b v c) := fun c hc => by
    unfold gramv
    split
    · exact nd_zero hw
    · exact hd0 _ _ hv fun k hk => hb c k (by omega) hk
  have hdet : ∀ M : Nat → Nat → (Fl.q).T, (∀ i j, i < l → j < l → (Fl.q).nd 1 N' (M i j)) → (Fl.q).nd 1 H (det l M) := fun M hM => by
    have := nd_det hw hM
    rw [Nat.one_pow] at this
    exact nd_mono this hH
  have hp := hdet _ hG
  have hne := h.gram_ne hinvQ hsqQ oneQ hl
  have H0 : 0 < H := by
    refine Nat.lt_of_lt_of_le ?_ hH
    have : 0 < N' ^ l := Nat.pow_pos (by omega)
    have f0 : ∀ l, 0 < fac l := fun l => by induction l with
      | zero => exact Nat.one_pos
      | succ l ih => exact Nat.mul_pos (by omega) ih
    exact Nat.mul_pos (f0 l) this
  obtain ⟨P, hP⟩ := nd_piv (by omega) H0 hne hp
  refine ⟨P, hP.pos, hP.le, fun k hk => ?_⟩
  have hx : (Fl.q).nd 1 (N * H + l * (H * N)) (prj (Fl.q).inv n r v l k * det l (gram n r b)) := by
    rw [h.clear hinvQ hsqQ hl v k hk]
    refine nd_add (nd_mul (D := 1) (D' := 1) (hv k hk) hp) (nd_neg (nd_sum hw fun a ha => nd_mul (D := 1) (D' := 1) (hdet _ fun i j hi hj => ?_) (hb a k (by omega) hk)))
    unfold upd
    split
    · exact hV j hj
    · exact hG i j hi hj
  have e : prj (Fl.q).inv n r v l k = (Fl.q).inv (det l (gram n r b)) * (prj (Fl.q).inv n r v l k * det l (gram n r b)) := by
    have := hinvQ _ hne
    grind
  rw [e]; exact hP.quo hx
end
end Ek

namespace Ek
section
/-- in the lattice of the rows -/
def InL (m n : Nat) (A : Nat → Nat → Int) (v : Nat → Int) : Prop := ∃ x : Nat → Int, ∀ c, c < n → v c = ssum m fun a => x a * A a c
variable {m m' n r r' : Nat} {A B H H' : Nat → Nat → Int} {p p' : Nat → Nat} {v w : Nat → Int}
theorem InL.row {a : Nat} (h : a < m) : InL m n A (A a) := ⟨fun i => if i = a then 1 else 0, fun c _ => by
  rw [ssum_one' (k := a) h fun i _ hne => by show (if i = a then (1 : Int) else 0) * _ = 0; rw [if_neg hne]; grind]
  show _ = (if a = a then (1 : Int) else 0) * _
  rw [if_pos rfl]; grind⟩
theorem InL.sub (h : InL m n A v) (h' : InL m n A w) : InL m n A fun c => v c - w c := by
  obtain ⟨x, hx⟩ := h
  obtain ⟨y, hy⟩ := h'
  refine ⟨fun a => x a + -y a, fun c hc => ?_⟩
  have e : (ssum m fun a => (x a + -y a) * A a c) = ssum m fun a => x a * A a c + -(y a * A a c) := ssum_congr fun a _ => by grind
  show v c - w c = ssum m fun a => (x a + -y a) * A a c
  rw [e, ssum_add, ssum_neg, hx c hc, hy c hc]; omega
theorem InL.trans (hB : ∀ a, a < m → InL m' n B (A a)) (h : InL m n A v) : InL m' n B v := by
  obtain ⟨x, hx⟩ := h
  have : ∃ Y : Nat → Nat → Int, ∀ a, a < m → ∀ c, c < n → A a c = ssum m' fun b => Y a b * B b c := by
    refine ⟨fun a => if h : a < m then (hB a h).choose else fun _ => 0, fun a ha c hc => ?_⟩
    show A a c = ssum m' fun b => (if h : a < m then (hB a h).choose else fun _ => 0) b * B b c
    rw [dif_pos ha]
    exact (hB a ha).choose_spec c hc
  obtain ⟨Y, hY⟩ := this
  refine ⟨fun b => ssum m fun a => x a * Y a b, fun c hc => ?_⟩
  rw [hx c hc, ssum_congr (g := fun a => ssum m' fun b => x a * Y a b * B b c) fun a ha => by rw [hY a ha c hc, ← mul_ssum]; exact ssum_congr fun b _ => by grind, ssum_swap]
  exact ssum_congr fun b _ => by rw [← ssum_mul]
/-- Hermite form -/
structure Hf (m n r : Nat) (p : Nat → Nat) (H : Nat → Nat → Int) : Prop where
  rm : r ≤ m
  lt : ∀ a, a < r → p a < n
  mono : ∀ a b, a < b → b < r → p a < p b
  pos : ∀ a, a < r → 0 < H a (p a)
  lead : ∀ a c, a < r → c < p a → H a c = 0
  red : ∀ a b, b < a → a < r → 0 ≤ H b (p a) ∧ H b (p a) < H a (p a)
  low : ∀ a c, r ≤ a → a < m → c < n → H a c = 0
theorem least {P : Nat → Prop} : ∀ {r : Nat}, (∃ a, a < r ∧ P a) → ∃ a, a < r ∧ P a ∧ ∀ b, b < a → ¬ P b
  | 0, ⟨a, h, _⟩ => absurd h (by omega)
  | r + 1, ⟨a, h, hp⟩ => by
    by_cases e : ∃ a, a < r ∧ P a
    · obtain ⟨b, h1, h2, h3⟩ := least e
      exact ⟨b, by omega, h2, h3⟩
    · have : a = r := Classical.byContradiction fun z => e ⟨a, by omega, hp⟩
      subst this
      exact ⟨a, h, hp, fun b hb hb' => e ⟨b, hb, hb'⟩⟩
/-- the first entry of a vector of the lattice -/
theorem Hf.first (h : Hf m n r p H) (hv : InL m n H v) {c : Nat} (hc : c < n) (hz : ∀ k, k < c → v k = 0) (hne : v c ≠ 0) : ∃ b, b < r ∧ p b = c ∧ H b c ∣ v c := by
  obtain ⟨x, hx⟩ := hv
  have ex : ∃ a, a < r ∧ x a ≠ 0 := Classical.byContradiction fun w => hne (by
    rw [hx c hc]
    refine ssum_zero fun a ha => ?_
    by_cases e : a < r
    · have : x a = 0 := Classical.byContradiction fun z => w ⟨a, e, z⟩
      rw [this]; grind
    · rw [h.low a c (by omega) ha hc]; grind)
  obtain ⟨a, ha, hxa, hmin⟩ := least ex
  have val : ∀ k, k ≤ p a → v k = x a * H a k := fun k hk => by
    have := h.lt a ha
    have := h.rm
    rw [hx k (by omega), ssum_one' (k := a) (by omega) fun b hb hne => ?_]
    by_cases e : b < a
    · have : x b = 0 := Classical.byContradiction fun z => hmin b e z
      rw [this]; grind
    · by_cases e2 : b < r
      · rw [h.lead b k e2 (by have := h.mono a b (by omega) e2; omega)]; grind
      · rw [h.low b k (by omega) hb (by omega)]; grind
  have ep : c = p a := by
    rcases Nat.lt_trichotomy c (p a) with w | w | w
    · exact absurd (by rw [val c (by omega), h.lead a c ha w]; grind) hne
    · exact w
    · have h1 := hz (p a) w
      rw [val (p a) (Nat.le_refl _)] at h1
      have h2 := h.pos a ha
      rcases Int.mul_eq_zero.mp h1 with z | z
      · exact absurd z hxa
      · omega
  exact ⟨a, ha, ep.symm, x a, by rw [val c (by omega)]; grind⟩
theorem same_pivots (mo : ∀ a b, a < b → b < r → p a < p b) (mo' : ∀ a b, a < b → b < r' → p' a < p' b) (h : ∀ a, a < r → ∃ b, b < r' ∧ p' b = p a) (h' : ∀ a, a < r' → ∃ b, b < r ∧ p b = p' a) : ∀ a, a < r → a < r' ∧ p' a = p a := by
  intro a
  induction a using Nat.strongRecOn with
  | ind a ih =>
    intro ha
    obtain ⟨b, hb, e⟩ := h a ha
    rcases Nat.lt_trichotomy b a with w | w | w
    · obtain ⟨h1, h2⟩ := ih b w (by omega)
      have := mo b a w ha
      omega
    · subst w; exact ⟨hb, e⟩
    · have h1 := mo' a b w hb
      obtain ⟨c, hc, e2⟩ := h' a (by omega)
      rcases Nat.lt_trichotomy c a with z | z | z
      · obtain ⟨h3, h4⟩ := ih c z hc
        have := mo' c a z (by omega)
        omega
      · subst z; omega
      · have := mo a c z hc; omega
theorem dvd_small {a b : Int} (h : a ∣ b) (h1 : -a < b) (h2 : b < a) : b = 0 := by
  obtain ⟨k, rfl⟩ := h
  rcases Int.lt_trichotomy k 0 with w | w | w
  · exfalso
    have : a * k ≤ a * (-1) := Int.mul_le_mul_of_nonneg_left (by omega) (by omega)
    omega
  · rw [w]; grind
  · exfalso
    have : a * 1 ≤ a * k := Int.mul_le_mul_of_nonneg_left (by omega) (by omega)
    omega
theorem dvd_eq {a b : Int} (h : a ∣ b) (h' : b ∣ a) (ha : 0 < a) (hb : 0 < b) : a = b := by
  have h1 := Int.le_of_dvd hb h
  have h2 := Int.le_of_dvd ha h'
  omega
/-- the Hermite form of a lattice is one -/
theorem Hf.uniq (h : Hf m n r p H) (h' : Hf m' n r' p' H') (hl : ∀ a, a < m → InL m' n H' (H a)) (hl' : ∀ a, a < m' → InL m n H (H' a)) : r = r' ∧ ∀ a, a < r → p' a = p a ∧ ∀ c, c < n → H a c = H' a c := by
  have rm := h.rm
  have rm' := h'.rm
  have f : ∀ a, a < r → ∃ b, b < r' ∧ p' b = p a ∧ H' b (p a) ∣ H a (p a) := fun a ha => h'.first (hl a (by omega)) (h.lt a ha) (fun k hk => h.lead a k ha hk) (by have := h.pos a ha; omega)
  have f' : ∀ a, a < r' → ∃ b, b < r ∧ p b = p' a ∧ H b (p' a) ∣ H' a (p' a) := fun a ha => h.first (hl' a (by omega)) (h'.lt a ha) (fun k hk => h'.lead a k ha hk) (by have := h'.pos a ha; omega)
  have g : ∀ a, a < r → ∃ b, b < r' ∧ p' b = p a := fun a ha => let ⟨b, h1, h2, _⟩ := f a ha; ⟨b, h1, h2⟩
  have g' : ∀ a, a < r' → ∃ b, b < r ∧ p b = p' a := fun a ha => let ⟨b, h1, h2, _⟩ := f' a ha; ⟨b, h1, h2⟩
  have s := same_pivots h.mono h'.mono g g'
  have s' := same_pivots h'.mono h.mono g' g
  have er : r = r' := by
    rcases Nat.lt_trichotomy r r' with w | w | w
    · have := (s' r w).1; omega
    · exact w
    · have := (s r' w).1; omega
  have inj : ∀ {p : Nat → Nat} {r a b : Nat}, (∀ a b, a < b → b < r → p a < p b) → a < r → b < r → p a = p b → a = b := fun {p r a b} mo ha hb e => by
    rcases Nat.lt_trichotomy a b with w | w | w
    · have := mo a b w hb; omega
    · exact w
    · have := mo b a w ha; omega
  have pv : ∀ a, a < r → H' a (p a) = H a (p a) := fun a ha => by
    obtain ⟨h1, h2⟩ := s a ha
    obtain ⟨b, hb, e, d⟩ := f a ha
    have : b = a := inj h'.mono hb h1 (by omega)
    subst this
    obtain ⟨c, hc, e2, d2⟩ := f' b h1
    have : c = b := inj h.mono hc ha (by omega)
    subst this
    rw [h2] at d2
    have p1 := h.pos c ha
    have p2 := h'.pos c h1
    rw [h2] at p2
    exact dvd_eq d d2 p2 p1
  refine ⟨er, fun a ha => ⟨(s a ha).2, fun c => ?_⟩⟩
  induction c using Nat.strongRecOn with
  | ind c ih =>
    intro hc
    refine Classical.byContradiction fun hne => ?_
    have hv : InL m' n H' fun c => H a c - H' a c := (hl a (by omega)).sub (.row (by omega))
    obtain ⟨b, hb, e, d⟩ := h'.first hv hc (fun k hk => by have := ih k hk (by omega); show H a k - H' a k = 0; omega) (by show H a c - H' a c ≠ 0; omega)
    have d : H' b c ∣ H a c - H' a c := d
    obtain ⟨h1, h2⟩ := s a ha
    have hbr : b < r := by omega
    have h3 := (s b hbr).2
    rcases Nat.lt_trichotomy b a with w | w | w
    · have q1 := h.mono b a w ha
      have q2 := h.lead a c ha (by omega)
      have q3 := h'.lead a c h1 (by omega)
      omega
    · subst w
      have := pv b ha
      rw [show c = p b by omega] at hne
      omega
    · have q1 := h.red b a w hbr
      have q2 := h'.red b a w hb
      have q3 := pv b hbr
      rw [show p b = c by omega] at q1 q3
      rw [show p' b = c by omega] at q2
      have := dvd_small d (by omega) (by omega)
      omega
end
section
variable {m n : Nat} {A H U X : Nat → Nat → Int}
/-- two places of a sum change, their sum does not -/
theorem ssum_two {f g : Nat → Int} {i j : Nat} : ∀ {m : Nat}, i < m → j < m → i ≠ j → (∀ a, a < m → a ≠ i → a ≠ j → f a = g a) → f i + f j = g i + g j → ssum m f = ssum m g := fun {m} hi hj hij h e => by
  have e1 : ∀ k, k ≤ m → ssum k f = ssum k g + (if i < k then f i - g i else 0) + (if j < k then f j - g j else 0) := by
    intro k
    induction k with
    | zero => intro _; rw [if_neg (by omega), if_neg (by omega)]; rfl
    | succ k ih =>
      intro hk
      show ssum k f + f k = (ssum k g + g k) + _ + _
      rw [ih (by omega)]
      by_cases a1 : k = i
      · subst a1
        by_cases a2 : j < k
        · simp only [a2, Nat.lt_irrefl, Nat.lt_succ_self, show j < k + 1 by omega, if_true, if_false]; omega
        · simp only [a2, Nat.lt_irrefl, Nat.lt_succ_self, show ¬ j < k + 1 by omega, if_true, if_false]; omega
      · by_cases a2 : k = j
        · subst a2
          by_cases a3 : i < k
          · simp only [a3, Nat.lt_irrefl, Nat.lt_succ_self, show i < k + 1 by omega, if_true, if_false]; omega
          · simp only [a3, Nat.lt_irrefl, Nat.lt_succ_self, show ¬ i < k + 1 by omega, if_true, if_false]; omega
        · rw [h k (by omega) a1 a2]
          have b1 : i < k + 1 ↔ i < k := by omega
          have b2 : j < k + 1 ↔ j < k := by omega
          simp only [b1, b2]; omega
  have := e1 m (Nat.le_refl _)
  rw [if_pos hi, if_pos hj] at this
  omega
def mixR (p q r s : Int) (i j : Nat) (A : Nat → Nat → Int) : Nat → Nat → Int := fun a c => if a = i then p * A i c + q * A j c else if a = j then r * A i c + s * A j c else A a c
def mixC (p q r s : Int) (i j : Nat) (A : Nat → Nat → Int) : Nat → Nat → Int := fun a c => if c = i then p * A a i + q * A a j else if c = j then r * A a i + s * A a j else A a c
/-- u a is h, x u and u x are identities -/
structure Tf (m n : Nat) (A H U X : Nat → Nat → Int) : Prop where
  ua : ∀ i c, i < m → c < n → H i c = ssum m fun a => U i a * A a c
  xu : ∀ i k, i < m → k < m → (ssum m fun a => X i a * U a k) = if i = k then 1 else 0
  ux : ∀ i k, i < m → k < m → (ssum m fun a => U i a * X a k) = if i = k then 1 else 0
theorem Tf.mix (t : Tf m n A H U X) {p q r s : Int} {i j : Nat} (hi : i < m) (hj : j < m) (hij : i ≠ j) (hd : p * s - q * r = 1) : Tf m n A (mixR p q r s i j H) (mixR p q r s i j U) (mixC s (-r) (-q) p i j X) where
  ua a c ha hc := by
    unfold mixR
    by_cases e1 : a = i
    · subst e1
      rw [if_pos rfl, t.ua a c ha hc, t.ua j c hj hc, ← mul_ssum, ← mul_ssum, ← ssum_add]
      exact ssum_congr fun k _ => by rw [if_pos rfl]; grind
    · by_cases e2 : a = j
      · subst e2
        rw [if_neg e1, if_pos rfl, t.ua i c hi hc, t.ua a c ha hc, ← mul_ssum, ← mul_ssum, ← ssum_add]
        exact ssum_congr fun k _ => by rw [if_neg e1, if_pos rfl]; grind
      · rw [if_neg e1, if_neg e2, t.ua a c ha hc]
        exact ssum_congr fun k _ => by rw [if_neg e1, if_neg e2]
  xu a k ha hk := by
    rw [← t.xu a k ha hk]
    refine ssum_two hi hj hij (fun b _ h1 h2 => ?_) ?_
    · unfold mixR mixC; rw [if_neg h1, if_neg h2, if_neg h1, if_neg h2]
    · unfold mixR mixC
      rw [if_pos rfl, if_pos rfl, if_neg (Ne.symm hij), if_neg (Ne.symm hij), if_pos rfl, if_pos rfl]
      grind
  ux a k ha hk := by
    have u : ∀ a k, a < m → k < m → (ssum m fun b => U a b * X b k) = if a = k then 1 else 0 := t.ux
    have row : ∀ k, k < m → ∀ Y : Nat → Int, (∀ b, Y b = X b k) → ∀ a, a < m → (ssum m fun b => mixR p q r s i j U a b * Y b) = if a = i then p * (if i = k then 1 else 0) + q * (if j = k then 1 else 0) else if a = j then r * (if i = k then 1 else 0) + s * (if j = k then 1 else 0) else if a = k then 1 else 0 := fun k hk Y hY a ha => by
      unfold mixR
      by_cases e1 : a = i
      · rw [if_pos e1, ← u i k hi hk, ← u j k hj hk, ← mul_ssum, ← mul_ssum, ← ssum_add]
        exact ssum_congr fun b _ => by rw [if_pos e1, hY]; grind
      · by_cases e2 : a = j
        · rw [if_neg e1, if_pos e2, ← u i k hi hk, ← u j k hj hk, ← mul_ssum, ← mul_ssum, ← ssum_add]
          exact ssum_congr fun b _ => by rw [if_neg e1, if_pos e2, hY]; grind
        · rw [if_neg e1, if_neg e2, ← u a k ha hk]
          exact ssum_congr fun b _ => by rw [if_neg e1, if_neg e2, hY]
    have col : (ssum m fun b => mixR p q r s i j U a b * mixC s (-r) (-q) p i j X b k) = if k = i then s * (ssum m fun b => mixR p q r s i j U a b * X b i) + -r * (ssum m fun b => mixR p q r s i j U a b * X b j) else if k = j then -q * (ssum m fun b => mixR p q r s i j U a b * X b i) + p * (ssum m fun b => mixR p q r s i j U a b * X b j) else ssum m fun b => mixR p q r s i j U a b * X b k := by
      by_cases e1 : k = i
      · rw [if_pos e1, ← mul_ssum, ← mul_ssum, ← ssum_add]
        exact ssum_congr fun b _ => by unfold mixC; rw [if_pos e1]; grind
      · by_cases e2 : k = j
        · rw [if_neg e1, if_pos e2, ← mul_ssum, ← mul_ssum, ← ssum_add]
          exact ssum_congr fun b _ => by unfold mixC; rw [if_neg e1, if_pos e2]; grind
        · rw [if_neg e1, if_neg e2]
          exact ssum_congr fun b _ => by unfold mixC; rw [if_neg e1, if_neg e2]
    rw [col, row i hi (fun b => X b i) (fun _ => rfl) a ha, row j hj (fun b => X b j) (fun _ => rfl) a ha, row k hk (fun b => X b k) (fun _ => rfl) a ha]
    rw [if_pos (rfl : i = i), if_pos (rfl : j = j), if_neg hij, if_neg (Ne.symm hij)]
    by_cases a1 : a = i
    · subst a1
      by_cases k1 : k = a
      · subst k1
        rw [if_pos rfl]; simp; grind
      · by_cases k2 : k = j
        · subst k2; simp [k1, hij]; grind
        · simp [k1, k2, Ne.symm k1, Ne.symm k2]
    · by_cases a2 : a = j
      · subst a2
        by_cases k1 : k = i
        · subst k1; simp [a1]; grind
        · by_cases k2 : k = a
          · subst k2; simp [a1]; grind
          · simp [k1, k2, Ne.symm k1, Ne.symm k2, a1]
      · by_cases k1 : k = i
        · subst k1; simp [a1, a2]
        · by_cases k2 : k = j
          · subst k2; simp [a1, a2, k1]
          · simp [a1, a2, k1, k2]
def sclR (u : Int) (i : Nat) (A : Nat → Nat → Int) : Nat → Nat → Int := fun a c => if a = i then u * A a c else A a c
def sclC (u : Int) (i : Nat) (A : Nat → Nat → Int) : Nat → Nat → Int := fun a c => if c = i then u * A a c else A a c
theorem Tf.scale (t : Tf m n A H U X) {u w : Int} {i : Nat} (hi : i < m) (hu : u * w = 1) : Tf m n A (sclR u i H) (sclR u i U) (sclC w i X) where
  ua a c ha hc := by
    unfold sclR
    by_cases e : a = i
    · rw [if_pos e, t.ua a c ha hc, ← mul_ssum]
      exact ssum_congr fun k _ => by rw [if_pos e]; grind
    · rw [if_neg e, t.ua a c ha hc]
      exact ssum_congr fun k _ => by rw [if_neg e]
  xu a k ha hk := by
    rw [← t.xu a k ha hk]
    refine ssum_congr fun b _ => ?_
    unfold sclR sclC
    by_cases e : b = i
    · rw [if_pos e, if_pos e]; grind
    · rw [if_neg e, if_neg e]
  ux a k ha hk := by
    have e : (ssum m fun b => sclR u i U a b * sclC w i X b k) = (if a = i then u else 1) * (if k = i then w else 1) * ssum m fun b => U a b * X b k := by
      rw [← mul_ssum]
      refine ssum_congr fun b _ => ?_
      unfold sclR sclC
      by_cases e1 : a = i <;> by_cases e2 : k = i
      · rw [if_pos e1, if_pos e2, if_pos e1, if_pos e2]; grind
      · rw [if_pos e1, if_neg e2, if_pos e1, if_neg e2]; grind
      · rw [if_neg e1, if_pos e2, if_neg e1, if_pos e2]; grind
      · rw [if_neg e1, if_neg e2, if_neg e1, if_neg e2]; grind
    rw [e, t.ux a k ha hk]
    by_cases e1 : a = k
    · subst e1
      rw [if_pos rfl]
      by_cases e2 : a = i
      · rw [if_pos e2, if_pos e2]; grind
      · rw [if_neg e2, if_neg e2]; grind
    · rw [if_neg e1]; grind
theorem Tf.back (t : Tf m n A H U X) {a : Nat} (ha : a < m) : InL m n H (A a) := ⟨X a, fun c hc => by
  rw [ssum_congr (g := fun k => ssum m fun b => X a k * U k b * A b c) fun k hk => by rw [t.ua k c hk hc, ← mul_ssum]; exact ssum_congr fun b _ => by grind, ssum_swap]
  rw [ssum_congr (g := fun b => (if a = b then 1 else 0) * A b c) fun b hb => by rw [← t.xu a b ha hb, ← ssum_mul]]
  rw [ssum_one' (k := a) ha fun b _ hne => by rw [if_neg (Ne.symm hne)]; grind, if_pos rfl]; grind⟩
theorem Tf.refl : Tf m n A A (fun i k => if i = k then 1 else 0) (fun i k => if i = k then 1 else 0) where
  ua i c hi hc := by
    rw [ssum_one' (k := i) hi fun b _ hne => by show (if i = b then (1 : Int) else 0) * _ = 0; rw [if_neg (Ne.symm hne)]; grind]
    show _ = (if i = i then (1 : Int) else 0) * _
    rw [if_pos rfl]; grind
  xu i k hi hk := by
    rw [ssum_one' (k := i) hi fun b _ hne => by show (if i = b then (1 : Int) else 0) * _ = 0; rw [if_neg (Ne.symm hne)]; grind]
    show (if i = i then (1 : Int) else 0) * _ = _
    rw [if_pos rfl]; grind
  ux i k hi hk := by
    rw [ssum_one' (k := i) hi fun b _ hne => by show (if i = b then (1 : Int) else 0) * _ = 0; rw [if_neg (Ne.symm hne)]; grind]
    show (if i = i then (1 : Int) else 0) * _ = _
    rw [if_pos rfl]; grind
end
end Ek

namespace Ek
def Rwt (w : Nat) (f : Nat → Int) : Prop := ∀ c, 2 * (f c).natAbs ≤ 2 ^ w
theorem Rwt.up {w w' : Nat} {f : Nat → Int} (h : Rwt w f) (hw : w ≤ w') : Rwt w' f := fun c => Nat.le_trans (h c) (Nat.pow_le_pow_right (by omega) hw)
theorem mixb {a b : Nat} {p q x y : Int} (hp : 2 * p.natAbs ≤ 2 ^ b) (hx : 2 * x.natAbs ≤ 2 ^ a) (hq : 2 * q.natAbs ≤ 2 ^ a) (hy : 2 * y.natAbs ≤ 2 ^ b) : 2 * (p * x + q * y).natAbs ≤ 2 ^ (a + b) := by
  have h1 := Int.natAbs_add_le (p * x) (q * y)
  rw [Int.natAbs_mul, Int.natAbs_mul] at h1
  have h2 : (2 * p.natAbs) * (2 * x.natAbs) ≤ 2 ^ b * 2 ^ a := Nat.mul_le_mul hp hx
  have h3 : (2 * q.natAbs) * (2 * y.natAbs) ≤ 2 ^ a * 2 ^ b := Nat.mul_le_mul hq hy
  rw [Nat.pow_add]
  have e1 : (2 * p.natAbs) * (2 * x.natAbs) = 4 * (p.natAbs * x.natAbs) := by grind
  have e2 : (2 * q.natAbs) * (2 * y.natAbs) = 4 * (q.natAbs * y.natAbs) := by grind
  have e3 : 2 ^ b * 2 ^ a = 2 ^ a * 2 ^ b := Nat.mul_comm _ _
  rw [e1, e3] at h2
  rw [e2] at h3
  omega
/-- the weights of the rows of two tables -/
def Wt (w : Nat → Nat) (H U : Nat → Nat → Int) : Prop := ∀ i, 1 ≤ w i ∧ Rwt (w i) (H i) ∧ Rwt (w i) (U i)
theorem one_w {w : Nat} (h : 1 ≤ w) : 2 * (1 : Int).natAbs ≤ 2 ^ w := by
  have : 2 ^ 1 ≤ 2 ^ w := Nat.pow_le_pow_right (by omega) h
  show 2 * 1 ≤ 2 ^ w
  omega
def upw (w : Nat → Nat) (i j : Nat) : Nat → Nat := fun k => if k = i then w i + w j else if k = j then w i + w j else w k
theorem Wt.mix {w : Nat → Nat} {H U : Nat → Nat → Int} (h : Wt w H U) {i j : Nat} {p q r s : Int} (hp : 2 * p.natAbs ≤ 2 ^ w j) (hq : 2 * q.natAbs ≤ 2 ^ w i) (hr : 2 * r.natAbs ≤ 2 ^ w j) (hs : 2 * s.natAbs ≤ 2 ^ w i) :
    Wt (upw w i j) (mixR p q r s i j H) (mixR p q r s i j U) := by
  intro k
  unfold upw mixR Rwt
  by_cases e : k = i
  · simp only [if_pos e]
    exact ⟨by have := (h i).1; omega, fun c => mixb hp ((h i).2.1 c) hq ((h j).2.1 c), fun c => mixb hp ((h i).2.2 c) hq ((h j).2.2 c)⟩
  · simp only [if_neg e]
    by_cases e2 : k = j
    · simp only [if_pos e2]
      exact ⟨by have := (h i).1; omega, fun c => mixb hr ((h i).2.1 c) hs ((h j).2.1 c), fun c => mixb hr ((h i).2.2 c) hs ((h j).2.2 c)⟩
    · simp only [if_neg e2]
      exact h k
theorem Wt.scale {w : Nat → Nat} {H U : Nat → Nat → Int} (h : Wt w H U) {i : Nat} {u : Int} (hu : u = 1 ∨ u = -1) : Wt w (sclR u i H) (sclR u i U) := by
  intro k
  unfold sclR Rwt
  by_cases e : k = i
  · simp only [if_pos e]
    rcases hu with rfl | rfl
    · simp only [Int.one_mul]
      rw [e]; exact h i
    · simp only [Int.neg_mul, Int.one_mul, Int.natAbs_neg]
      rw [e]; exact h i
  · simp only [if_neg e]
    exact h k
theorem Wt.up {w w' : Nat → Nat} {H U : Nat → Nat → Int} (h : Wt w H U) (hw : ∀ k, w k ≤ w' k) : Wt w' H U := fun k => ⟨Nat.le_trans (h k).1 (hw k), (h k).2.1.up (hw k), (h k).2.2.up (hw k)⟩
def pre (v : Nat → Nat) (lo : Nat) : Nat → Nat
  | 0 => 0
  | n + 1 => pre v lo n + v (lo + n)
theorem pre_mono {v : Nat → Nat} {lo : Nat} : ∀ {n m : Nat}, n ≤ m → pre v lo n ≤ pre v lo m
  | n, m, h => by
    induction m with
    | zero => rw [show n = 0 by omega]; exact Nat.le_refl _
    | succ m ih =>
      rcases Nat.lt_or_ge m n with w | w
      · rw [show n = m + 1 by omega]; exact Nat.le_refl _
      · exact Nat.le_trans (ih w) (Nat.le_add_right _ _)
theorem pre_last {v : Nat → Nat} {lo i : Nat} (h : lo ≤ i) : pre v lo (i + 1 - lo) = pre v lo (i - lo) + v i := by
  rw [show i + 1 - lo = (i - lo) + 1 by omega, pre, show lo + (i - lo) = i by omega]
theorem pre_has {v : Nat → Nat} {lo i n : Nat} (h : lo ≤ i) (hn : i - lo < n) : v i ≤ pre v lo n := by
  have := pre_mono (v := v) (lo := lo) (show i + 1 - lo ≤ n by omega)
  rw [pre_last h] at this
  omega
/-- the weights while the rows below r are joined to row r, f the row that came to r -/
structure Jw (v w : Nat → Nat) (r f i : Nat) : Prop where
  a : w r ≤ pre v r (max i (f + 1) - r)
  b : ∀ k, r < k → k < i → w k ≤ pre v r (k + 1 - r)
  c : ∀ k, r < k → i ≤ k → k ≠ f → w k ≤ v k
  d : r < f → i ≤ f → w f ≤ v r
theorem Jw.start {v w : Nat → Nat} {r : Nat} (h : ∀ k, r ≤ k → w k ≤ v k) : Jw v w r r (r + 1) where
  a := by
    rw [Nat.max_self, pre_last (Nat.le_refl r)]
    have := h r (Nat.le_refl r)
    omega
  b := fun k h1 h2 => absurd h1 (by omega)
  c := fun k h1 _ _ => h k (by omega)
  d := fun h1 _ => absurd h1 (by omega)
theorem Jw.skip {v w : Nat → Nat} {r f i : Nat} (j : Jw v w r f i) (hi : r < i) (hf : r ≤ f) : Jw v w r f (i + 1) where
  a := Nat.le_trans j.a (pre_mono (by omega))
  b := fun k h1 h2 => by
    rcases Nat.lt_or_ge k i with z | z
    · exact j.b k h1 z
    · rw [show k = i by omega]
      by_cases e : i = f
      · rw [e]
        exact Nat.le_trans (j.d (by omega) (by omega)) (pre_has (Nat.le_refl r) (by omega))
      · exact Nat.le_trans (j.c i hi (Nat.le_refl i) e) (pre_has (by omega) (by omega))
  c := fun k h1 h2 h3 => j.c k h1 (by omega) h3
  d := fun h1 h2 => j.d h1 (by omega)
theorem Jw.fin {v w : Nat → Nat} {r f m : Nat} (j : Jw v w r f m) (hf : f < m) (hr : r ≤ f) : w r ≤ pre v r (m - r) ∧ ∀ k, r < k → k < m → w k ≤ pre v r (k + 1 - r) := by
  have h1 := j.a
  rw [Nat.max_eq_left (by omega)] at h1
  exact ⟨h1, j.b⟩
/-- the weights of the rows that are left after r stages -/
def vv (b : Nat) : Nat → Nat → Nat
  | 0, _ => b
  | r + 1, i => pre (vv b r) r (i + 1 - r)
end Ek

namespace Ek
section
variable {m n r j : Nat} {p : Nat → Nat} {H U X A : Nat → Nat → Int}
/-- Hermite form as far as column j, with r pivots -/
structure Hcp (m r : Nat) (p : Nat → Nat) (j : Nat) (H : Nat → Nat → Int) : Prop where
  rm : r ≤ m
  lt : ∀ a, a < r → p a < j
  mono : ∀ a b, a < b → b < r → p a < p b
  pos : ∀ a, a < r → 0 < H a (p a)
  lead : ∀ a c, a < r → c < p a → H a c = 0
  red : ∀ a b, b < a → a < r → 0 ≤ H b (p a) ∧ H b (p a) < H a (p a)
  low : ∀ a c, r ≤ a → a < m → c < j → H a c = 0
theorem Hcp.start : Hcp m 0 p 0 H where
  rm := by omega
  lt := fun a h => absurd h (by omega)
  mono := fun a b _ h => absurd h (by omega)
  pos := fun a h => absurd h (by omega)
  lead := fun a c h => absurd h (by omega)
  red := fun a b _ h => absurd h (by omega)
  low := fun a c _ _ h => absurd h (by omega)
theorem Hcp.hf (h : Hcp m r p n H) : Hf m n r p H := ⟨h.rm, h.lt, h.mono, h.pos, h.lead, h.red, h.low⟩
/-- no pivot in this column -/
theorem Hcp.skip (h : Hcp m r p j H) (hz : ∀ a, r ≤ a → a < m → H a j = 0) : Hcp m r p (j + 1) H where
  rm := h.rm
  lt := fun a ha => by have := h.lt a ha; omega
  mono := h.mono
  pos := h.pos
  lead := h.lead
  red := h.red
  low := fun a c h1 h2 h3 => by
    rcases Nat.lt_or_ge c j with w | w
    · exact h.low a c h1 h2 w
    · rw [show c = j by omega]; exact hz a h1 h2
/-- rows that have no pivot yet are mixed -/
theorem Hcp.mix (h : Hcp m r p j H) {x y z w : Int} {i k : Nat} (hi : r ≤ i) (hk : r ≤ k) (him : i < m) (hkm : k < m) : Hcp m r p j (mixR x y z w i k H) := by
  have e : ∀ a c, a < r → mixR x y z w i k H a c = H a c := fun a c ha => by
    unfold mixR
    rw [if_neg (by omega), if_neg (by omega)]
  refine ⟨h.rm, h.lt, h.mono, fun a ha => ?_, fun a c ha hc => ?_, fun a b hb ha => ?_, fun a c h1 h2 h3 => ?_⟩
  · rw [e a _ ha]; exact h.pos a ha
  · rw [e a _ ha]; exact h.lead a c ha hc
  · rw [e a _ ha, e b _ (by omega)]; exact h.red a b hb ha
  · unfold mixR
    rw [h.low i c hi him h3, h.low k c hk hkm h3, h.low a c h1 h2 h3]
    split
    · simp
    · split <;> simp
theorem Hcp.scale (h : Hcp m r p j H) {u : Int} {i : Nat} (hi : r ≤ i) : Hcp m r p j (sclR u i H) := by
  have e : ∀ a c, a < r → sclR u i H a c = H a c := fun a c ha => by
    unfold sclR
    rw [if_neg (by omega)]
  refine ⟨h.rm, h.lt, h.mono, fun a ha => ?_, fun a c ha hc => ?_, fun a b hb ha => ?_, fun a c h1 h2 h3 => ?_⟩
  · rw [e a _ ha]; exact h.pos a ha
  · rw [e a _ ha]; exact h.lead a c ha hc
  · rw [e a _ ha, e b _ (by omega)]; exact h.red a b hb ha
  · unfold sclR
    rw [h.low a c h1 h2 h3]
    split <;> simp
/-- the rows above the new pivot are made small: the first a of them are done -/
structure Hrd (m r : Nat) (p : Nat → Nat) (j a : Nat) (H : Nat → Nat → Int) : Prop where
  hc : Hcp m r p j H
  rl : r < m
  ps : 0 < H r j
  zr : ∀ b, r < b → b < m → H b j = 0
  dn : ∀ b, b < a → 0 ≤ H b j ∧ H b j < H r j
theorem Hrd.step (h : Hrd m r p j a H) {q : Int} (ha : a < r) (h0 : 0 ≤ H a j - q * H r j) (h1 : H a j - q * H r j < H r j) : Hrd m r p j (a + 1) (mixR 1 (-q) 0 1 a r H) := by
  have er : ∀ b c, b ≠ a → mixR 1 (-q) 0 1 a r H b c = H b c := fun b c hb => by
    unfold mixR
    rw [if_neg hb]
    split
    · rename_i e
      rw [e]; simp
    · rfl
  have ea : ∀ c, mixR 1 (-q) 0 1 a r H a c = H a c - q * H r c := fun c => by
    unfold mixR
    rw [if_pos rfl, Int.one_mul, Int.neg_mul]; omega
  have eb : ∀ b c, c < j → mixR 1 (-q) 0 1 a r H b c = H b c := fun b c hc => by
    by_cases e : b = a
    · rw [e, ea, h.hc.low r c (Nat.le_refl r) h.rl hc]; simp
    · exact er b c e
  refine ⟨⟨h.hc.rm, h.hc.lt, h.hc.mono, fun b hb => ?_, fun b c hb hc => ?_, fun b d hd hb => ?_, fun b c h2 h3 h4 => ?_⟩, h.rl, ?_, fun b h2 h3 => ?_, fun b hb => ?_⟩
  · rw [eb _ _ (h.hc.lt b hb)]; exact h.hc.pos b hb
  · rw [eb _ _ (by have := h.hc.lt b hb; omega)]; exact h.hc.lead b c hb hc
  · rw [eb _ _ (h.hc.lt b hb), eb _ _ (h.hc.lt b hb)]; exact h.hc.red b d hd hb
  · rw [eb _ _ h4]; exact h.hc.low b c h2 h3 h4
  · rw [er r j (by omega)]; exact h.ps
  · rw [er b j (by omega)]; exact h.zr b h2 h3
  · rw [er r j (by omega)]
    by_cases e : b = a
    · rw [e, ea]; exact ⟨h0, h1⟩
    · rw [er b j e]; exact h.dn b (by omega)
theorem Hrd.skip (h : Hrd m r p j a H) (h0 : 0 ≤ H a j) (h1 : H a j < H r j) : Hrd m r p j (a + 1) H :=
  ⟨h.hc, h.rl, h.ps, h.zr, fun b hb => by
    by_cases e : b = a
    · rw [e]; exact ⟨h0, h1⟩
    · exact h.dn b (by omega)⟩
def updp (p : Nat → Nat) (r j : Nat) : Nat → Nat := fun a => if a = r then j else p a
theorem Hrd.fin (h : Hrd m r p j r H) : Hcp m (r + 1) (updp p r j) (j + 1) H := by
  have hp : ∀ a, a < r → updp p r j a = p a := fun a ha => by unfold updp; rw [if_neg (by omega)]
  have hr : updp p r j r = j := by simp [updp]
  refine ⟨h.rl, fun a ha => ?_, fun a b h1 h2 => ?_, fun a ha => ?_, fun a c ha hc => ?_, fun a b hb ha => ?_, fun a c h1 h2 h3 => ?_⟩
  · rcases Nat.lt_or_ge a r with w | w
    · rw [hp a w]; have := h.hc.lt a w; omega
    · rw [show a = r by omega, hr]; omega
  · rw [hp a (by omega)]
    rcases Nat.lt_or_ge b r with w | w
    · rw [hp b w]; exact h.hc.mono a b h1 w
    · rw [show b = r by omega, hr]; exact h.hc.lt a (by omega)
  · rcases Nat.lt_or_ge a r with w | w
    · rw [hp a w]; exact h.hc.pos a w
    · rw [show a = r by omega, hr]; exact h.ps
  · rcases Nat.lt_or_ge a r with w | w
    · rw [hp a w] at hc; exact h.hc.lead a c w hc
    · have e : a = r := by omega
      subst e
      rw [hr] at hc
      exact h.hc.low a c (Nat.le_refl _) h.rl hc
  · rcases Nat.lt_or_ge a r with w | w
    · rw [hp a w]; exact h.hc.red a b hb w
    · have e : a = r := by omega
      subst e
      rw [hr]
      exact h.dn b hb
  · rcases Nat.lt_or_ge c j with w | w
    · exact h.hc.low a c (by omega) h2 w
    · rw [show c = j by omega]; exact h.zr a (by omega) h2
end
theorem Wt.red {w : Nat → Nat} {H U : Nat → Nat → Int} (h : Wt w H U) {i j : Nat} (hij : i ≠ j) {q : Int} (hq : 2 * q.natAbs ≤ 2 ^ w i) : Wt (fun k => if k = i then w i + w j else w k) (mixR 1 (-q) 0 1 i j H) (mixR 1 (-q) 0 1 i j U) := by
  intro k
  unfold mixR Rwt
  by_cases e : k = i
  · simp only [if_pos e]
    have hn : 2 * (-q).natAbs ≤ 2 ^ w i := by rw [Int.natAbs_neg]; exact hq
    exact ⟨by have := (h i).1; omega, fun c => mixb (one_w (h j).1) ((h i).2.1 c) hn ((h j).2.1 c), fun c => mixb (one_w (h j).1) ((h i).2.2 c) hn ((h j).2.2 c)⟩
  · simp only [if_neg e]
    by_cases e2 : k = j
    · simp only [if_pos e2, Int.zero_mul, Int.one_mul, Int.zero_add]
      rw [e2]; exact h j
    · simp only [if_neg e2]
      exact h k
/-- whole quotients are no greater -/
theorem quot_le {x y q : Int} (hy : 0 < y) (h0 : 0 ≤ x - q * y) (h1 : x - q * y < y) : q.natAbs ≤ x.natAbs := by
  by_cases hq : 0 ≤ q
  · have h2 : q * 1 ≤ q * y := Int.mul_le_mul_of_nonneg_left (by omega) hq
    omega
  · have h2 : (q + 1) * y ≤ (q + 1) * 1 := Int.mul_le_mul_of_nonpos_left (by omega) (by omega)
    have h3 : (q + 1) * y = q * y + y := by grind
    omega
def Xb (P : Nat) (X : Nat → Nat → Int) : Prop := ∀ i c, (X i c).natAbs ≤ 2 ^ P
theorem Xb.up {P P' : Nat} {X : Nat → Nat → Int} (h : Xb P X) (hp : P ≤ P') : Xb P' X := fun i c => Nat.le_trans (h i c) (Nat.pow_le_pow_right (by omega) hp)
theorem xmix {P W : Nat} {s r x y : Int} (hs : 2 * s.natAbs ≤ 2 ^ W) (hr : 2 * r.natAbs ≤ 2 ^ W) (hx : x.natAbs ≤ 2 ^ P) (hy : y.natAbs ≤ 2 ^ P) : (s * x + r * y).natAbs ≤ 2 ^ (P + W) := by
  have h1 := Int.natAbs_add_le (s * x) (r * y)
  rw [Int.natAbs_mul, Int.natAbs_mul] at h1
  have h2 : (2 * s.natAbs) * x.natAbs ≤ 2 ^ W * 2 ^ P := Nat.mul_le_mul hs hx
  have h3 : (2 * r.natAbs) * y.natAbs ≤ 2 ^ W * 2 ^ P := Nat.mul_le_mul hr hy
  rw [Nat.pow_add, Nat.mul_comm (2 ^ P)]
  rw [Nat.mul_assoc] at h2 h3
  omega
theorem Xb.mix {P W : Nat} {X : Nat → Nat → Int} (h : Xb P X) {p q r s : Int} {i j : Nat} (hp : 2 * p.natAbs ≤ 2 ^ W) (hq : 2 * q.natAbs ≤ 2 ^ W) (hr : 2 * r.natAbs ≤ 2 ^ W) (hs : 2 * s.natAbs ≤ 2 ^ W) : Xb (P + W) (mixC p q r s i j X) := by
  intro a c
  unfold mixC
  split
  · exact xmix hp hq (h a i) (h a j)
  · split
    · exact xmix hr hs (h a i) (h a j)
    · exact h.up (Nat.le_add_right _ _) a c
theorem Xb.scale {P : Nat} {X : Nat → Nat → Int} (h : Xb P X) {u : Int} {i : Nat} (hu : u = 1 ∨ u = -1) : Xb P (sclC u i X) := by
  intro a c
  unfold sclC
  split
  · rcases hu with rfl | rfl
    · rw [Int.one_mul]; exact h a c
    · rw [Int.neg_mul, Int.one_mul, Int.natAbs_neg]; exact h a c
  · exact h a c
end Ek

namespace Ek
def iRow (w : Nat) (f : Nat → Int) : Ob := .lst ((List.range w).map fun c => U.int (f c))
def refs (m : Nat) (r : Nat → Nat) : Ob := .lst ((List.range m).map fun i => U.ref (r i))
def wdt (m n t : Nat) : Nat := if t = 0 then n else m
/-- hd t: the list of the rows of table t; ro t i: its row i -/
structure Wk (S : Sto) (fs : List U) (o : Nat) (hd : Nat → Nat) (ro : Nat → Nat → Nat) (m n : Nat) (M : Nat → Nat → Nat → Int) : Prop where
  ob : S[o]? = some (.lst fs)
  head : ∀ t, t < 3 → S[hd t]? = some (refs m (ro t))
  row : ∀ t i, t < 3 → i < m → S[ro t i]? = some (iRow (wdt m n t) (M t i))
  inj : ∀ t i t' i', t < 3 → i < m → t' < 3 → i' < m → ro t i = ro t' i' → t = t' ∧ i = i'
  hinj : ∀ t t', t < 3 → t' < 3 → hd t = hd t' → t = t'
  hr : ∀ t t' i, t < 3 → t' < 3 → i < m → hd t ≠ ro t' i
  oh : ∀ t, t < 3 → o ≠ hd t
  orw : ∀ t i, t < 3 → i < m → o ≠ ro t i
section
variable {S : Sto} {fs : List U} {o : Nat} {hd : Nat → Nat} {ro : Nat → Nat → Nat} {m n : Nat} {M : Nat → Nat → Nat → Int}
/-- what a store keeps -/
theorem Wk.keep {S' : Sto} (h : Wk S fs o hd ro m n M) (k : ∀ (b : Nat) (x : Ob), S[b]? = some x → S'[b]? = some x) : Wk S' fs o hd ro m n M :=
  ⟨k _ _ h.ob, fun t ht => k _ _ (h.head t ht), fun t i ht hi => k _ _ (h.row t i ht hi), h.inj, h.hinj, h.hr, h.oh, h.orw⟩
theorem Wk.app (h : Wk S fs o hd ro m n M) (T : Sto) : Wk (S ++ T) fs o hd ro m n M := h.keep fun b x e => by
  have hl : b < S.length := (List.getElem?_eq_some_iff.mp e).1
  rw [List.getElem?_append_left hl]; exact e
theorem Wk.congr {M' : Nat → Nat → Nat → Int} (h : Wk S fs o hd ro m n M) (e : ∀ t i c, t < 3 → i < m → c < wdt m n t → M t i c = M' t i c) : Wk S fs o hd ro m n M' :=
  ⟨h.ob, h.head, fun t i ht hi => (h.row t i ht hi).trans (by
    unfold iRow
    rw [List.map_congr_left (g := fun c => U.int (M' t i c)) fun c hc => by rw [e t i c ht hi (List.mem_range.mp hc)]]), h.inj, h.hinj, h.hr, h.oh, h.orw⟩
def up2 {α : Type} (f : Nat → Nat → α) (t i : Nat) (x : α) : Nat → Nat → α := fun t' i' => if t' = t ∧ i' = i then x else f t' i'
theorem set_map {α : Type} {m i : Nat} {f : Nat → α} {x : α} (hi : i < m) : ((List.range m).map f).set i x = (List.range m).map fun k => if k = i then x else f k := by
  apply List.ext_getElem?
  intro k
  rw [List.getElem?_set]
  simp only [List.length_map, List.length_range, List.getElem?_map]
  by_cases e : i = k
  · subst e
    rw [if_pos rfl, if_pos hi, List.getElem?_range hi]
    simp
  · rw [if_neg e]
    by_cases hk : k < m
    · rw [List.getElem?_range hk]
      simp only [Option.map_some]
      rw [if_neg (fun q => e q.symm)]
    · rw [List.getElem?_eq_none (by rw [List.length_range]; omega)]
      rfl
/-- a row changed in place -/
theorem Wk.put (h : Wk S fs o hd ro m n M) {t i : Nat} (ht : t < 3) (hi : i < m) (f : Nat → Int) : Wk (S.set (ro t i) (iRow (wdt m n t) f)) fs o hd ro m n (up2 M t i f) where
  ob := by rw [List.getElem?_set_ne (fun e => h.orw t i ht hi e.symm)]; exact h.ob
  head t' ht' := by rw [List.getElem?_set_ne (fun e => h.hr t' t i ht' ht hi e.symm)]; exact h.head t' ht'
  row t' i' ht' hi' := by
    unfold up2
    by_cases e : t' = t ∧ i' = i
    · rw [if_pos e, e.1, e.2]
      have hl := (List.getElem?_eq_some_iff.mp (h.row t i ht hi)).1
      rw [List.getElem?_set_self hl]
    · rw [if_neg e, List.getElem?_set_ne fun q => e (by
        obtain ⟨a, b⟩ := h.inj t i t' i' ht hi ht' hi' q
        exact ⟨a.symm, b.symm⟩)]
      exact h.row t' i' ht' hi'
  inj := h.inj
  hinj := h.hinj
  hr := h.hr
  oh := h.oh
  orw := h.orw
/-- another list becomes a row -/
theorem Wk.link (h : Wk S fs o hd ro m n M) {t i b : Nat} (ht : t < 3) (hi : i < m) (f : Nat → Int) (hb : S[b]? = some (iRow (wdt m n t) f)) (b1 : b ≠ o) (b2 : ∀ t, t < 3 → b ≠ hd t) (b3 : ∀ t i, t < 3 → i < m → b ≠ ro t i) :
    Wk (S.set (hd t) (refs m fun k => if k = i then b else ro t k)) fs o hd (up2 ro t i b) m n (up2 M t i f) where
  ob := by rw [List.getElem?_set_ne (fun e => h.oh t ht e.symm)]; exact h.ob
  head t' ht' := by
    by_cases e : t' = t
    · subst e
      have hl := (List.getElem?_eq_some_iff.mp (h.head t' ht)).1
      rw [List.getElem?_set_self hl]
      unfold refs up2
      congr 2
      refine List.map_congr_left fun k _ => ?_
      show U.ref (if k = i then b else ro t' k) = _
      by_cases q : k = i
      · rw [if_pos q, if_pos ⟨rfl, q⟩]
      · rw [if_neg q, if_neg (fun z => q z.2)]
    · rw [List.getElem?_set_ne (fun q => e (h.hinj t t' ht ht' q).symm), h.head t' ht']
      unfold refs up2
      congr 2
      refine List.map_congr_left fun k _ => ?_
      rw [if_neg (fun z => e z.1)]
  row t' i' ht' hi' := by
    unfold up2
    by_cases e : t' = t ∧ i' = i
    · rw [if_pos e, if_pos e, e.1, List.getElem?_set_ne (fun q => b2 t ht q.symm)]
      exact hb
    · rw [if_neg e, if_neg e, List.getElem?_set_ne (h.hr t t' i' ht ht' hi')]
      exact h.row t' i' ht' hi'
  inj t1 i1 t2 i2 h1 h2 h3 h4 e := by
    unfold up2 at e
    by_cases q1 : t1 = t ∧ i1 = i
    · by_cases q2 : t2 = t ∧ i2 = i
      · exact ⟨by omega, by omega⟩
      · rw [if_pos q1, if_neg q2] at e
        exact absurd e (b3 t2 i2 h3 h4)
    · by_cases q2 : t2 = t ∧ i2 = i
      · rw [if_neg q1, if_pos q2] at e
        exact absurd e.symm (b3 t1 i1 h1 h2)
      · rw [if_neg q1, if_neg q2] at e
        exact h.inj t1 i1 t2 i2 h1 h2 h3 h4 e
  hinj := h.hinj
  hr t1 t2 i2 h1 h2 h3 := by
    unfold up2
    split
    · exact fun e => b2 t1 h1 e.symm
    · exact h.hr t1 t2 i2 h1 h2 h3
  oh := h.oh
  orw t1 i1 h1 h2 := by
    unfold up2
    split
    · exact fun e => b1 e.symm
    · exact h.orw t1 i1 h1 h2
/-- all of it lies in the store -/
theorem Wk.fresh (h : Wk S fs o hd ro m n M) : o < S.length ∧ (∀ t, t < 3 → hd t < S.length) ∧ ∀ t i, t < 3 → i < m → ro t i < S.length :=
  ⟨(List.getElem?_eq_some_iff.mp h.ob).1, fun t ht => (List.getElem?_eq_some_iff.mp (h.head t ht)).1, fun t i ht hi => (List.getElem?_eq_some_iff.mp (h.row t i ht hi)).1⟩
end
/-- all of it lies behind S0, which stands as it was -/
structure Wx (S0 S : Sto) (fs : List U) (o : Nat) (hd : Nat → Nat) (ro : Nat → Nat → Nat) (m n : Nat) (M : Nat → Nat → Nat → Int) : Prop where
  wk : Wk S fs o hd ro m n M
  fr : ∃ T, S = S0 ++ T
  bo : S0.length ≤ o
  bh : ∀ t, t < 3 → S0.length ≤ hd t
  br : ∀ t i, t < 3 → i < m → S0.length ≤ ro t i
section
variable {S0 S : Sto} {fs : List U} {o : Nat} {hd : Nat → Nat} {ro : Nat → Nat → Nat} {m n : Nat} {M : Nat → Nat → Nat → Int}
theorem fr_set {S0 T : Sto} {h : Nat} {x : Ob} (hh : S0.length ≤ h) : ∃ T', (S0 ++ T).set h x = S0 ++ T' := ⟨T.set (h - S0.length) x, by rw [List.set_append_right _ _ hh]⟩
theorem Wx.app (w : Wx S0 S fs o hd ro m n M) (T : Sto) : Wx S0 (S ++ T) fs o hd ro m n M := by
  obtain ⟨a, ⟨T0, e⟩, b, c, d⟩ := w
  exact ⟨a.app T, ⟨T0 ++ T, by rw [e, List.append_assoc]⟩, b, c, d⟩
theorem Wx.put (w : Wx S0 S fs o hd ro m n M) {t i : Nat} (ht : t < 3) (hi : i < m) (f : Nat → Int) : Wx S0 (S.set (ro t i) (iRow (wdt m n t) f)) fs o hd ro m n (up2 M t i f) := by
  obtain ⟨a, ⟨T0, e⟩, b, c, d⟩ := w
  exact ⟨a.put ht hi f, by rw [e]; exact fr_set (d t i ht hi), b, c, d⟩
/-- a list made by now becomes a row -/
theorem Wx.link (w : Wx S0 S fs o hd ro m n M) {t i b : Nat} (ht : t < 3) (hi : i < m) (f : Nat → Int) (hb : S[b]? = some (iRow (wdt m n t) f)) (b0 : S0.length ≤ b) (b1 : b ≠ o) (b2 : ∀ t, t < 3 → b ≠ hd t) (b3 : ∀ t i, t < 3 → i < m → b ≠ ro t i) :
    Wx S0 (S.set (hd t) (refs m fun k => if k = i then b else ro t k)) fs o hd (up2 ro t i b) m n (up2 M t i f) := by
  obtain ⟨a, ⟨T0, e⟩, x, c, d⟩ := w
  refine ⟨a.link ht hi f hb b1 b2 b3, by rw [e]; exact fr_set (c t ht), x, c, fun t' i' h1 h2 => ?_⟩
  unfold up2
  split
  · exact b0
  · exact d t' i' h1 h2
theorem Wx.congr {M' : Nat → Nat → Nat → Int} (w : Wx S0 S fs o hd ro m n M) (e : ∀ t i c, t < 3 → i < m → c < wdt m n t → M t i c = M' t i c) : Wx S0 S fs o hd ro m n M' := ⟨w.wk.congr e, w.fr, w.bo, w.bh, w.br⟩
end
end Ek

namespace Ek
/-- numbers that may be multiplied -/
def Bg (x : Int) : Prop := x.natAbs < 2 ^ 400000
/-- what mixing does to the three tables -/
def mixM (p q r s : Int) (i j : Nat) (M : Nat → Nat → Nat → Int) : Nat → Nat → Nat → Int := fun t => if t = 2 then mixC s (-r) (-q) p i j (M 2) else mixR p q r s i j (M t)
def sclM (u : Int) (i : Nat) (M : Nat → Nat → Nat → Int) : Nat → Nat → Nat → Int := fun t => if t = 2 then sclC u i (M 2) else sclR u i (M t)
section
variable {b m n r j k c i : Nat} {A : Nat → Nat → Int} {w : Nat → Nat} {M : Nat → Nat → Nat → Int}
theorem vv_b : ∀ {r : Nat}, r ≤ k → b ≤ vv b r k
  | 0, _ => Nat.le_refl b
  | r + 1, h => Nat.le_trans (vv_b (r := r) (by omega)) (by
    show vv b r k ≤ pre (vv b r) r (k + 1 - r)
    exact pre_has (by omega) (by omega))
theorem vv_up (h : r ≤ k) : vv b r k ≤ vv b (r + 1) k := by
  show vv b r k ≤ pre (vv b r) r (k + 1 - r)
  exact pre_has h (by omega)
theorem vv_last (h : k < m) : vv b (r + 1) k ≤ vv b (r + 1) (m - 1) := by
  show pre (vv b r) r (k + 1 - r) ≤ pre (vv b r) r (m - 1 + 1 - r)
  exact pre_mono (by omega)
/-- the weights of all pivot rows together -/
def tot (b m : Nat) : Nat → Nat
  | 0 => 0
  | r + 1 => tot b m r + vv b (r + 1) (m - 1)
theorem tot_up : tot b m r ≤ tot b m (r + 1) := Nat.le_add_right _ _
theorem tot_vv : vv b (r + 1) (m - 1) ≤ tot b m (r + 1) := Nat.le_add_left _ _
/-- the line that all weights keep -/
def LWt : Nat := 7999
structure Cmn (b m n : Nat) (A : Nat → Nat → Int) (w : Nat → Nat) (c : Nat) (M : Nat → Nat → Nat → Int) : Prop where
  tf : Tf m n A (M 0) (M 1) (M 2)
  wt : Wt w (M 0) (M 1)
  far : ∀ k, m ≤ k → w k ≤ b
  xb : Xb (LWt * c) (M 2)
  oth : ∀ t, 3 ≤ t → M t = M 1
theorem mixM0 {p q s t : Int} : mixM p q s t i j M 0 = mixR p q s t i j (M 0) := if_neg (by omega)
theorem mixM1 {p q s t : Int} : mixM p q s t i j M 1 = mixR p q s t i j (M 1) := if_neg (by omega)
theorem mixM2 {p q s t : Int} : mixM p q s t i j M 2 = mixC t (-s) (-q) p i j (M 2) := if_pos rfl
theorem sclM0 {u : Int} : sclM u i M 0 = sclR u i (M 0) := if_neg (by omega)
theorem sclM1 {u : Int} : sclM u i M 1 = sclR u i (M 1) := if_neg (by omega)
theorem sclM2 {u : Int} : sclM u i M 2 = sclC u i (M 2) := if_pos rfl
theorem lw_of {x : Int} {w : Nat} (h : 2 * x.natAbs ≤ 2 ^ w) (hw : w ≤ LWt) : 2 * x.natAbs ≤ 2 ^ LWt := Nat.le_trans h (Nat.pow_le_pow_right (by omega) hw)
theorem Cmn.mixW (h : Cmn b m n A w c M) {p q s t : Int} {w' : Nat → Nat} (hi : i < m) (hj : j < m) (hij : i ≠ j) (hd : p * t - q * s = 1) (hw : Wt w' (mixR p q s t i j (M 0)) (mixR p q s t i j (M 1))) (hf : ∀ k, m ≤ k → w' k ≤ b)
    (hp : 2 * p.natAbs ≤ 2 ^ LWt) (hq : 2 * q.natAbs ≤ 2 ^ LWt) (hs : 2 * s.natAbs ≤ 2 ^ LWt) (ht : 2 * t.natAbs ≤ 2 ^ LWt) : Cmn b m n A w' (c + 1) (mixM p q s t i j M) where
  tf := by rw [mixM0, mixM1, mixM2]; exact h.tf.mix hi hj hij hd
  wt := by rw [mixM0, mixM1]; exact hw
  far := hf
  xb := by
    rw [mixM2, Nat.mul_succ]
    exact h.xb.mix ht (by rw [Int.natAbs_neg]; exact hs) (by rw [Int.natAbs_neg]; exact hq) hp
  oth := fun k hk => by
    rw [mixM1]
    show (if k = 2 then _ else mixR p q s t i j (M k)) = _
    rw [if_neg (by omega), h.oth k hk]
theorem Cmn.mix (h : Cmn b m n A w c M) {p q s t : Int} (hi : i < m) (hj : j < m) (hij : i ≠ j) (hd : p * t - q * s = 1) (hp : 2 * p.natAbs ≤ 2 ^ w j) (hq : 2 * q.natAbs ≤ 2 ^ w i) (hs : 2 * s.natAbs ≤ 2 ^ w j) (ht : 2 * t.natAbs ≤ 2 ^ w i)
    (li : w i ≤ LWt) (lj : w j ≤ LWt) : Cmn b m n A (upw w i j) (c + 1) (mixM p q s t i j M) :=
  h.mixW hi hj hij hd (h.wt.mix hp hq hs ht) (fun k hk => by
    unfold upw
    rw [if_neg (by omega), if_neg (by omega)]
    exact h.far k hk) (lw_of hp lj) (lw_of hq li) (lw_of hs lj) (lw_of ht li)
theorem Cmn.red (h : Cmn b m n A w c M) {q : Int} (hi : i < m) (hj : j < m) (hij : i ≠ j) (hq : 2 * q.natAbs ≤ 2 ^ w i) (li : w i ≤ LWt) : Cmn b m n A (fun k => if k = i then w i + w j else w k) (c + 1) (mixM 1 (-q) 0 1 i j M) :=
  have l1 : 2 ≤ 2 ^ LWt := Nat.le_trans (by decide : 2 ≤ 2 ^ 1) (Nat.pow_le_pow_right (by omega) (by decide))
  h.mixW hi hj hij (by omega) (h.wt.red hij hq) (fun k hk => by
    show (if k = i then w i + w j else w k) ≤ b
    rw [if_neg (by omega)]
    exact h.far k hk) l1 (by rw [Int.natAbs_neg]; exact lw_of hq li) (by show 0 ≤ _; omega) l1
theorem Cmn.scale (h : Cmn b m n A w c M) {u : Int} (hi : i < m) (hu : u = 1 ∨ u = -1) : Cmn b m n A w c (sclM u i M) where
  tf := by rw [sclM0, sclM1, sclM2]; exact h.tf.scale hi (by rcases hu with rfl | rfl <;> rfl)
  wt := by rw [sclM0, sclM1]; exact h.wt.scale hu
  far := h.far
  xb := by rw [sclM2]; exact h.xb.scale hu
  oth := fun k hk => by
    rw [sclM1]
    show (if k = 2 then _ else sclR u i (M k)) = _
    rw [if_neg (by omega), h.oth k hk]
theorem bg_of {x : Int} {w : Nat} (h : 2 * x.natAbs ≤ 2 ^ w) (hw : w ≤ LWt) : Bg x := by
  have h1 := lw_of h hw
  have h2 : 2 ^ LWt ≤ 2 ^ 399999 := Nat.pow_le_pow_right (by omega) (by decide)
  have h3 : 2 ^ 400000 = 2 ^ 399999 * 2 := Nat.pow_succ ..
  have h4 : 0 < 2 ^ 399999 := Nat.pow_pos (by omega)
  unfold Bg
  omega
theorem Cmn.bg (h : Cmn b m n A w c M) (hw : ∀ k, k < m → w k ≤ LWt) (hb : b ≤ LWt) (hc : LWt * c < 400000) : ∀ t a d, Bg (M t a d) := by
  have hW : ∀ k, w k ≤ LWt := fun k => by
    rcases Nat.lt_or_ge k m with z | z
    · exact hw k z
    · exact Nat.le_trans (h.far k z) hb
  have h1 : ∀ a d, Bg (M 1 a d) := fun a d => bg_of ((h.wt a).2.2 d) (hW a)
  intro t a d
  rcases (show t = 0 ∨ t = 1 ∨ t = 2 ∨ 3 ≤ t by omega) with e | e | e | e
  · rw [e]; exact bg_of ((h.wt a).2.1 d) (hW a)
  · rw [e]; exact h1 a d
  · rw [e]; exact Nat.lt_of_le_of_lt (h.xb a d) (Nat.pow_lt_pow_right (by omega) hc)
  · rw [h.oth t e]; exact h1 a d
structure Hs (b m n : Nat) (A : Nat → Nat → Int) (r j c : Nat) (M : Nat → Nat → Nat → Int) : Prop where
  hc : ∃ p, Hcp m r p j (M 0)
  cm : ∃ w, Cmn b m n A w c M ∧ (∀ k, r ≤ k → k < m → w k ≤ vv b r k) ∧ ∀ k, k < r → w k ≤ tot b m r
  rj : r ≤ j
/-- rows are joined to row r; f the row that came to it; the rows ahead of i are done -/
structure Js (b m n : Nat) (A : Nat → Nat → Int) (r j f i c : Nat) (M : Nat → Nat → Nat → Int) : Prop where
  hc : ∃ p, Hcp m r p j (M 0)
  cm : ∃ w, Cmn b m n A w c M ∧ Jw (vv b r) w r f i ∧ ∀ k, k < r → w k ≤ tot b m r
  rj : r ≤ j
  rf : r ≤ f
  fm : f < m
  zr : ∀ k, r < k → k < i → M 0 k j = 0
  zf : ∀ k, r < k → k ≤ f → M 0 k j = 0
  nz : M 0 r j ≠ 0
/-- the rows above row r are made small -/
structure Rs (b m n : Nat) (A : Nat → Nat → Int) (r j a c : Nat) (M : Nat → Nat → Nat → Int) : Prop where
  hr : ∃ p, Hrd m r p j a (M 0)
  cm : ∃ w, Cmn b m n A w c M ∧ (∀ k, r < k → k < m → w k ≤ vv b (r + 1) k) ∧ w r ≤ vv b (r + 1) (m - 1) ∧ (∀ k, k < a → w k ≤ tot b m (r + 1)) ∧ ∀ k, a ≤ k → k < r → w k ≤ tot b m r
  rj : r ≤ j
/-- what the sizes may be -/
def Bud (b m n : Nat) : Prop := ∀ r, r < m → r < n → tot b m (r + 1) ≤ LWt
theorem Bud.lo (h : Bud b m n) (hm : 0 < m) (hn : 0 < n) : b ≤ LWt := by
  have h1 := h 0 hm hn
  have h2 : b ≤ vv b 1 (m - 1) := Nat.le_trans (vv_b (r := 0) (Nat.zero_le _)) (vv_up (Nat.zero_le _))
  have h3 : vv b (0 + 1) (m - 1) ≤ tot b m (0 + 1) := tot_vv
  exact Nat.le_trans h2 (Nat.le_trans h3 h1)
theorem Hs.start (h : Cmn b m n A w c M) (hw : ∀ k, k < m → w k ≤ b) : Hs b m n A 0 0 c M :=
  ⟨⟨fun _ => 0, Hcp.start⟩, ⟨w, h, fun k _ hk => hw k hk, fun k hk => absurd hk (by omega)⟩, Nat.le_refl _⟩
theorem Hs.skip (h : Hs b m n A r j c M) (hz : ∀ a, r ≤ a → a < m → M 0 a j = 0) : Hs b m n A r (j + 1) c M := by
  obtain ⟨⟨p, hc⟩, cm, rj⟩ := h
  exact ⟨⟨p, hc.skip hz⟩, cm, by omega⟩
theorem Js.skip {f : Nat} (h : Js b m n A r j f i c M) (hi : r < i) (hz : M 0 i j = 0) : Js b m n A r j f (i + 1) c M := by
  obtain ⟨hc, ⟨w, cm, h1, h2⟩, rj, rf, fm, zr, zf, nz⟩ := h
  exact ⟨hc, ⟨w, cm, h1.skip hi rf, h2⟩, rj, rf, fm, fun k h3 h4 => by
    by_cases e : k = i
    · rw [e]; exact hz
    · exact zr k h3 (by omega), zf, nz⟩
/-- the weights while joining -/
theorem Js.le {f : Nat} (h : Js b m n A r j f i c M) (hi : i ≤ m) (hB : tot b m (r + 1) ≤ LWt) : ∃ w, Cmn b m n A w c M ∧ Jw (vv b r) w r f i ∧ (∀ k, k < r → w k ≤ tot b m r) ∧ ∀ k, k < m → w k ≤ LWt := by
  obtain ⟨hc, ⟨w, cm, h1, h2⟩, rj, rf, fm, zr, zf, nz⟩ := h
  refine ⟨w, cm, h1, h2, fun k hk => ?_⟩
  have hv : vv b (r + 1) (m - 1) ≤ LWt := Nat.le_trans tot_vv hB
  have hp : ∀ x, x ≤ m - r → pre (vv b r) r x ≤ LWt := fun x hx => Nat.le_trans (pre_mono (by omega)) hv
  rcases Nat.lt_trichotomy k r with z | z | z
  · exact Nat.le_trans (h2 k z) (Nat.le_trans tot_up hB)
  · rw [z]
    exact Nat.le_trans h1.a (hp _ (by omega))
  · rcases Nat.lt_or_ge k i with y | y
    · exact Nat.le_trans (h1.b k z y) (hp _ (by omega))
    · by_cases e : k = f
      · rw [e]
        exact Nat.le_trans (h1.d (by omega) (by omega)) (Nat.le_trans (pre_has (Nat.le_refl r) (n := m - r) (by omega)) (hp _ (Nat.le_refl _)))
      · exact Nat.le_trans (h1.c k z y e) (Nat.le_trans (pre_has (by omega) (n := m - r) (by omega)) (hp _ (Nat.le_refl _)))
theorem Js.fin {f : Nat} {u : Int} (h : Js b m n A r j f m c M) (hu : u = if M 0 r j < 0 then -1 else 1) : Rs b m n A r j 0 c (sclM u r M) := by
  obtain ⟨⟨p, hc⟩, ⟨w, cm, h1, h2⟩, rj, rf, fm, zr, zf, nz⟩ := h
  have hu2 : u = 1 ∨ u = -1 := by rw [hu]; split <;> simp
  obtain ⟨f1, f2⟩ := h1.fin fm rf
  have e : ∀ a d, sclM u r M 0 a d = sclR u r (M 0) a d := fun a d => by rw [sclM0]
  refine ⟨⟨p, by rw [sclM0]; exact hc.scale (Nat.le_refl r), by omega, ?_, fun k h3 h4 => ?_, fun k hk => absurd hk (by omega)⟩, ⟨w, cm.scale (by omega) hu2, fun k h3 h4 => f2 k h3 h4, ?_, fun k hk => absurd hk (by omega), fun k _ hk => h2 k hk⟩, rj⟩
  · rw [e]
    unfold sclR
    rw [if_pos rfl, hu]
    split <;> omega
  · rw [e]
    unfold sclR
    rw [if_neg (by omega)]
    exact zr k h3 h4
  · show w r ≤ pre (vv b r) r (m - 1 + 1 - r)
    rw [show m - 1 + 1 - r = m - r by omega]
    exact f1
theorem Rs.le {a : Nat} (h : Rs b m n A r j a c M) (ha : a ≤ r) (hB : tot b m (r + 1) ≤ LWt) : ∃ w, Cmn b m n A w c M ∧ ∀ k, k < m → w k ≤ LWt := by
  obtain ⟨_, ⟨w, cm, h1, h2, h3, h4⟩, rj⟩ := h
  refine ⟨w, cm, fun k hk => ?_⟩
  rcases Nat.lt_trichotomy k r with z | z | z
  · rcases Nat.lt_or_ge k a with y | y
    · exact Nat.le_trans (h3 k y) hB
    · exact Nat.le_trans (h4 k y z) (Nat.le_trans tot_up hB)
  · rw [z]; exact Nat.le_trans h2 (Nat.le_trans tot_vv hB)
  · exact Nat.le_trans (h1 k z hk) (Nat.le_trans (vv_last hk) (Nat.le_trans tot_vv hB))
theorem Rs.step {a : Nat} {q : Int} (h : Rs b m n A r j a c M) (ha : a < r) (hB : tot b m (r + 1) ≤ LWt) (h0 : 0 ≤ M 0 a j - q * M 0 r j) (h1 : M 0 a j - q * M 0 r j < M 0 r j) : Rs b m n A r j (a + 1) (c + 1) (mixM 1 (-q) 0 1 a r M) := by
  obtain ⟨⟨p, hr⟩, ⟨w, cm, g1, g2, g3, g4⟩, rj⟩ := h
  have hq := quot_le hr.ps h0 h1
  have w1 := (cm.wt a).2.1 j
  have la : w a ≤ tot b m r := g4 a (Nat.le_refl a) ha
  refine ⟨⟨p, by rw [mixM0]; exact hr.step ha h0 h1⟩, ⟨_, cm.red (by have := hr.rl; omega) hr.rl (by omega) (by omega) (Nat.le_trans la (Nat.le_trans tot_up hB)), fun k h2 h3 => ?_, ?_, fun k hk => ?_, fun k h2 h3 => ?_⟩, rj⟩
  · show (if k = a then w a + w r else w k) ≤ _
    rw [if_neg (by omega)]; exact g1 k h2 h3
  · show (if r = a then w a + w r else w r) ≤ _
    rw [if_neg (by omega)]; exact g2
  · show (if k = a then w a + w r else w k) ≤ _
    by_cases e : k = a
    · rw [if_pos e]
      show _ ≤ tot b m r + vv b (r + 1) (m - 1)
      omega
    · rw [if_neg e]; exact g3 k (by omega)
  · show (if k = a then w a + w r else w k) ≤ _
    rw [if_neg (by omega)]; exact g4 k (by omega) h3
theorem Rs.skip {a : Nat} (h : Rs b m n A r j a c M) (h0 : 0 ≤ M 0 a j) (h1 : M 0 a j < M 0 r j) (ha : a < r) : Rs b m n A r j (a + 1) c M := by
  obtain ⟨⟨p, hr⟩, ⟨w, cm, g1, g2, g3, g4⟩, rj⟩ := h
  refine ⟨⟨p, hr.skip h0 h1⟩, ⟨w, cm, g1, g2, fun k hk => ?_, fun k h2 h3 => g4 k (by omega) h3⟩, rj⟩
  by_cases e : k = a
  · rw [e]; exact Nat.le_trans (g4 a (Nat.le_refl a) ha) tot_up
  · exact g3 k (by omega)
theorem Rs.fin (h : Rs b m n A r j r c M) : Hs b m n A (r + 1) (j + 1) c M := by
  obtain ⟨⟨p, hr⟩, ⟨w, cm, g1, g2, g3, g4⟩, rj⟩ := h
  refine ⟨⟨_, hr.fin⟩, ⟨w, cm, fun k h2 h3 => g1 k (by omega) h3, fun k hk => ?_⟩, by omega⟩
  by_cases e : k = r
  · rw [e]; exact Nat.le_trans g2 tot_vv
  · exact g3 k (by omega)
end
end Ek

namespace Ek
section
variable {R : Type} [Lean.Grind.CommRing R]
def m2 (A : Nat → Nat → R) (i j : Nat) : R := A i i * A j j - A i j * A j i
def d3m (A : Nat → Nat → R) (a b c x y z : Nat) : R := A a x * (A b y * A c z - A b z * A c y) - A a y * (A b x * A c z - A b z * A c x) + A a z * (A b x * A c y - A b y * A c x)
def m3 (A : Nat → Nat → R) (i j k : Nat) : R := d3m A i j k i j k
def m4 (A : Nat → Nat → R) : R := A 0 0 * d3m A 1 2 3 1 2 3 - A 0 1 * d3m A 1 2 3 0 2 3 + A 0 2 * d3m A 1 2 3 0 1 3 - A 0 3 * d3m A 1 2 3 0 1 2
/-- the coefficients of the characteristic polynomial -/
def ch (A : Nat → Nat → R) : Nat → Nat → R
  | 0, 0 => 1
  | 1, 0 => -A 0 0
  | 1, 1 => 1
  | 2, 0 => m2 A 0 1
  | 2, 1 => -(A 0 0 + A 1 1)
  | 2, 2 => 1
  | 3, 0 => -m3 A 0 1 2
  | 3, 1 => m2 A 0 1 + m2 A 0 2 + m2 A 1 2
  | 3, 2 => -(A 0 0 + A 1 1 + A 2 2)
  | 3, 3 => 1
  | 4, 0 => m4 A
  | 4, 1 => -(m3 A 0 1 2 + m3 A 0 1 3 + m3 A 0 2 3 + m3 A 1 2 3)
  | 4, 2 => m2 A 0 1 + m2 A 0 2 + m2 A 1 2 + m2 A 0 3 + m2 A 1 3 + m2 A 2 3
  | 4, 3 => -(A 0 0 + A 1 1 + A 2 2 + A 3 3)
  | 4, 4 => 1
  | _, _ => 0
/-- numbers i and j exchanged -/
def xcn (i j a : Nat) : Nat := if a = i then j else if a = j then i else a
def swpM (i j : Nat) (A : Nat → Nat → R) : Nat → Nat → R := fun a b => A (xcn i j a) (xcn i j b)
def clrR (f : R) (i m : Nat) (A : Nat → Nat → R) : Nat → Nat → R := fun a b => if a = i then A a b - f * A m b else A a b
def clrC (f : R) (i m : Nat) (A : Nat → Nat → R) : Nat → Nat → R := fun a b => if b = m then A a m + f * A a i else A a b
theorem ch_swp {A : Nat → Nat → R} {n i m k : Nat} (hn : n ≤ 4) (hm : 1 ≤ m) (hi : m < i) (hin : i < n) : ch (swpM i m A) n k = ch A n k := by
  have : (n = 3 ∧ m = 1 ∧ i = 2) ∨ (n = 4 ∧ m = 1 ∧ i = 2) ∨ (n = 4 ∧ m = 1 ∧ i = 3) ∨ (n = 4 ∧ m = 2 ∧ i = 3) := by omega
  rcases this with ⟨rfl, rfl, rfl⟩ | ⟨rfl, rfl, rfl⟩ | ⟨rfl, rfl, rfl⟩ | ⟨rfl, rfl, rfl⟩
  · match k with
    | 0 => simp [ch, m3, d3m, swpM, xcn]; grind
    | 1 => simp [ch, m2, swpM, xcn]; grind
    | 2 => simp [ch, swpM, xcn]; grind
    | 3 => simp [ch]
    | k + 4 => simp [ch]
  all_goals
    match k with
    | 0 => simp [ch, m4, d3m, swpM, xcn]; grind
    | 1 => simp [ch, m3, d3m, swpM, xcn]; grind
    | 2 => simp [ch, m2, swpM, xcn]; grind
    | 3 => simp [ch, swpM, xcn]; grind
    | 4 => simp [ch]
    | k + 5 => simp [ch]
theorem ch_clr {A : Nat → Nat → R} {n i m k : Nat} {f : R} (hn : n ≤ 4) (hm : 1 ≤ m) (hi : m < i) (hin : i < n) : ch (clrC f i m (clrR f i m A)) n k = ch A n k := by
  have : (n = 3 ∧ m = 1 ∧ i = 2) ∨ (n = 4 ∧ m = 1 ∧ i = 2) ∨ (n = 4 ∧ m = 1 ∧ i = 3) ∨ (n = 4 ∧ m = 2 ∧ i = 3) := by omega
  rcases this with ⟨rfl, rfl, rfl⟩ | ⟨rfl, rfl, rfl⟩ | ⟨rfl, rfl, rfl⟩ | ⟨rfl, rfl, rfl⟩
  · match k with
    | 0 => simp [ch, m3, d3m, clrC, clrR]; grind
    | 1 => simp [ch, m2, clrC, clrR]; grind
    | 2 => simp [ch, clrC, clrR]; grind
    | 3 => simp [ch]
    | k + 4 => simp [ch]
  all_goals
    match k with
    | 0 => simp [ch, m4, d3m, clrC, clrR]; grind
    | 1 => simp [ch, m3, d3m, clrC, clrR]; grind
    | 2 => simp [ch, m2, clrC, clrR]; grind
    | 3 => simp [ch, clrC, clrR]; grind
    | 4 => simp [ch]
    | k + 5 => simp [ch]
end
section
variable {R : Type} [Lean.Grind.CommRing R] [DecidableEq R]
def Cc (c : R) : Pol R := ⟨strip [c], strip_nrm⟩
def Xx : Pol R := ⟨strip [0, 1], strip_nrm⟩
theorem co_Cc {c : R} {n : Nat} : co (Cc c).1 n = if n = 0 then c else 0 := by
  show co (strip [c]) n = _
  rw [co_strip]
  cases n with
  | zero => rfl
  | succ n => rw [if_neg (by omega), co_succ, co_nil]
theorem co_Xx {n : Nat} : co (Xx : Pol R).1 n = if n = 1 then 1 else 0 := by
  show co (strip [0, 1]) n = _
  rw [co_strip]
  match n with
  | 0 => rfl
  | 1 => rfl
  | n + 2 => rw [if_neg (by omega), co_succ, co_succ, co_nil]
theorem co_add' {a b : Pol R} {n : Nat} : co (a + b).1 n = co a.1 n + co b.1 n := co_padd
theorem co_neg' {a : Pol R} {n : Nat} : co (-a).1 n = -co a.1 n := co_pneg
theorem co_Cmul {c : R} {a : Pol R} {n : Nat} : co (Cc c * a).1 n = c * co a.1 n := by
  show co (pmul (Cc c).1 a.1) n = _
  rw [co_pmul, cv_full, ssum_one' (k := 0) (by omega) fun i _ hne => by rw [co_Cc, if_neg hne]; grind, co_Cc, if_pos rfl, Nat.sub_zero]
theorem co_Xmul {a : Pol R} {n : Nat} : co (Xx * a).1 n = if n = 0 then 0 else co a.1 (n - 1) := by
  show co (pmul (Xx : Pol R).1 a.1) n = _
  rw [co_pmul, cv_full]
  by_cases h : n = 0
  · subst h
    rw [if_pos rfl]
    refine ssum_zero fun i hi => ?_
    rw [co_Xx, if_neg (by omega)]; grind
  · rw [if_neg h, ssum_one' (k := 1) (by omega) fun i _ hne => by rw [co_Xx, if_neg hne]; grind, co_Xx, if_pos rfl]
    grind
theorem co_one' {n : Nat} : co (1 : Pol R).1 n = if n = 0 then 1 else 0 := by
  rw [Pol.one_val, co_strip]
  cases n with
  | zero => rfl
  | succ n => rw [if_neg (by omega), co_succ, co_nil]
theorem Cc_add {a b : R} : Cc (a + b) = Cc a + Cc b := Pol.ext fun n => by
  rw [co_add', co_Cc, co_Cc, co_Cc]
  split <;> grind
theorem Cc_mul {a b : R} : Cc (a * b) = Cc a * Cc b := Pol.ext fun n => by
  rw [co_Cmul, co_Cc, co_Cc]
  split <;> grind
theorem Cc_neg {a : R} : Cc (-a) = -Cc a := Pol.ext fun n => by
  rw [co_neg', co_Cc, co_Cc]
  split <;> grind
theorem Cc_sub {a b : R} : Cc (a - b) = Cc a - Cc b := by
  have e : a - b = a + -b := by grind
  rw [e, Cc_add, Cc_neg]; grind
theorem Cc_zero : Cc (0 : R) = 0 := Pol.ext fun n => by
  rw [co_Cc, Pol.zero_val, co_nil]
  split <;> rfl
theorem Cc_one : Cc (1 : R) = 1 := Pol.ext fun n => by
  rw [co_Cc, co_one']
/-- x less h -/
def lin (h : R) : Pol R := ⟨strip [-h, 1], strip_nrm⟩
theorem lin_eq {h : R} : lin h = Xx + -Cc h := Pol.ext fun n => by
  rw [co_add', co_neg', co_Xx, co_Cc]
  show co (strip [-h, 1]) n = _
  rw [co_strip]
  match n with
  | 0 => rw [if_neg (by omega), if_pos rfl, co_zero]; grind
  | 1 => rw [if_pos rfl, if_neg (by omega), co_succ, co_zero]; grind
  | n + 2 => rw [if_neg (by omega), if_neg (by omega), co_succ, co_succ, co_nil]; grind
/-- the products of the entries below the diagonal -/
def prd (H : Nat → Nat → R) (k : Nat) : Nat → R
  | 0 => 1
  | j + 1 => prd H k j * H (k - j) (k - 1 - j)
def cur (H : Nat → Nat → R) (F : Nat → Pol R) (k : Nat) : Nat → Pol R
  | 0 => F k * lin (H k k)
  | j + 1 => cur H F k j + -(Cc (prd H k (j + 1) * H (k - 1 - j) k) * F (k - 1 - j))
theorem cur_congr {H : Nat → Nat → R} {F F' : Nat → Pol R} {k : Nat} (h : ∀ i, i ≤ k → F i = F' i) : ∀ j, cur H F k j = cur H F' k j
  | 0 => by
    unfold cur
    rw [h k (Nat.le_refl k)]
  | j + 1 => by
    unfold cur
    rw [cur_congr h j, h (k - 1 - j) (by omega)]
theorem hess_ch {H : Nat → Nat → R} {F : Nat → Pol R} {n : Nat} (hn : n ≤ 4) (h0 : F 0 = 1) (hs : ∀ k, k < n → F (k + 1) = cur H F k k) (hz : ∀ i j, i < n → j + 1 < i → H i j = 0) (k : Nat) : co (F n).1 k = ch H n k := by
  have e1 : 1 ≤ n → F 1 = Xx + -Cc (H 0 0) := fun h => by
    rw [hs 0 (by omega)]
    simp only [cur, h0, lin_eq]
    grind
  have e2 : 2 ≤ n → F 2 = Xx * Xx + -Cc (H 0 0 + H 1 1) * Xx + Cc (m2 H 0 1) := fun h => by
    rw [hs 1 (by omega)]
    simp only [cur, prd, h0, lin_eq, e1 (by omega), m2, Cc_add, Cc_mul, Cc_neg, Cc_sub, Cc_one, Nat.sub_zero, Nat.sub_self, Nat.add_sub_cancel]
    grind
  have e3 : 3 ≤ n → F 3 = Xx * Xx * Xx + -Cc (H 0 0 + H 1 1 + H 2 2) * (Xx * Xx) + Cc (m2 H 0 1 + m2 H 0 2 + m2 H 1 2) * Xx + -Cc (m3 H 0 1 2) := fun h => by
    have z := hz 2 0 (by omega) (by omega)
    rw [hs 2 (by omega)]
    simp only [cur, prd, h0, lin_eq, e1 (by omega), e2 (by omega), m2, m3, d3m, z, Cc_add, Cc_mul, Cc_neg, Cc_sub, Cc_one, Cc_zero, Nat.sub_zero, Nat.sub_self, Nat.add_sub_cancel, Nat.reduceSub]
    grind
  have e4 : 4 ≤ n → F 4 = Xx * Xx * Xx * Xx + -Cc (H 0 0 + H 1 1 + H 2 2 + H 3 3) * (Xx * Xx * Xx) + Cc (m2 H 0 1 + m2 H 0 2 + m2 H 1 2 + m2 H 0 3 + m2 H 1 3 + m2 H 2 3) * (Xx * Xx) + -Cc (m3 H 0 1 2 + m3 H 0 1 3 + m3 H 0 2 3 + m3 H 1 2 3) * Xx + Cc (m4 H) := fun h => by
    have z := hz 2 0 (by omega) (by omega)
    have z2 := hz 3 0 (by omega) (by omega)
    have z3 := hz 3 1 (by omega) (by omega)
    rw [hs 3 (by omega)]
    simp only [cur, prd, h0, lin_eq, e1 (by omega), e2 (by omega), e3 (by omega), m2, m3, m4, d3m, z, z2, z3, Cc_add, Cc_mul, Cc_neg, Cc_sub, Cc_one, Cc_zero, Nat.sub_zero, Nat.sub_self, Nat.add_sub_cancel, Nat.reduceSub]
    grind
  rcases (show n = 0 ∨ n = 1 ∨ n = 2 ∨ n = 3 ∨ n = 4 by omega) with rfl | rfl | rfl | rfl | rfl
  · rw [h0, co_one']
    match k with
    | 0 => rfl
    | k + 1 => rfl
  · rw [e1 (by omega)]
    simp only [← Cc_neg, co_add', co_Cmul, co_Xmul, co_Xx, co_Cc]
    match k with
    | 0 => simp [ch]; try grind
    | 1 => simp [ch]; try grind
    | k + 2 => simp [ch]; try grind
  · rw [e2 (by omega)]
    simp only [← Cc_neg, co_add', co_Cmul, co_Xmul, co_Xx, co_Cc]
    match k with
    | 0 => simp [ch]; try grind
    | 1 => simp [ch]; try grind
    | 2 => simp [ch]; try grind
    | k + 3 => simp [ch]; try grind
  · rw [e3 (by omega), show (Xx : Pol R) * Xx * Xx = Xx * (Xx * Xx) by grind]
    simp only [← Cc_neg, co_add', co_Cmul, co_Xmul, co_Xx, co_Cc]
    match k with
    | 0 => simp [ch]; try grind
    | 1 => simp [ch]; try grind
    | 2 => simp [ch]; try grind
    | 3 => simp [ch]; try grind
    | k + 4 => simp [ch]; try grind
  · rw [e4 (by omega), show (Xx : Pol R) * Xx * Xx * Xx = Xx * (Xx * (Xx * Xx)) by grind, show (Xx : Pol R) * Xx * Xx = Xx * (Xx * Xx) by grind]
    simp only [← Cc_neg, co_add', co_Cmul, co_Xmul, co_Xx, co_Cc]
    match k with
    | 0 => simp [ch]; try grind
    | 1 => simp [ch]; try grind
    | 2 => simp [ch]; try grind
    | 3 => simp [ch]; try grind
    | 4 => simp [ch]; try grind
    | k + 5 => simp [ch]; try grind
end
end Ek

namespace Lw
open Ek PySem PySem.Spec PyProof.Rows
def topS (i : Nat) : Stmt := PySem.Challenge.pw_echelon_k52_characteristic_by_primes.main.body.getD i (.Pass ⟨0, 0, 0, 0⟩)
abbrev f_common : Nat := 0
abbrev f_divisor : Nat := 1
abbrev f_combine : Nat := 2
abbrev f_is_prime : Nat := 3
abbrev f_next_prime : Nat := 4
abbrev f_fraction : Nat := 5
abbrev f_root : Nat := 6
abbrev f_symmetric : Nat := 7
abbrev f_is_integer : Nat := 8
abbrev f_is_domain : Nat := 9
abbrev f_is_field : Nat := 10
abbrev f_need_field : Nat := 11
abbrev f_zero : Nat := 12
abbrev f_one : Nat := 13
abbrev f_from_integer : Nat := 14
abbrev f_trimmed : Nat := 15
abbrev f_add : Nat := 16
abbrev f_negate : Nat := 17
abbrev f_subtract : Nat := 18
abbrev f_multiply : Nat := 19
abbrev f_inverse : Nat := 20
abbrev f_quotient : Nat := 21
abbrev f_need_shape : Nat := 22
abbrev f_need_square : Nat := 23
abbrev f_may_change : Nat := 24
abbrev f_changed : Nat := 25
abbrev f_change : Nat := 26
abbrev f_hessenberg : Nat := 27
abbrev f_exchange : Nat := 28
abbrev f_clear_entry : Nat := 29
abbrev f_characteristic : Nat := 30
abbrev f_row_square : Nat := 31
abbrev f_coefficient_bound : Nat := 32
abbrev f_primes_for : Nat := 33
abbrev f_characteristic_by_primes : Nat := 34
abbrev f_law_start : Nat := 35
abbrev f_law_fill : Nat := 36
abbrev f_law_take : Nat := 37
abbrev f_law_common : Nat := 38
abbrev f_law_fraction : Nat := 39
abbrev f_law_zero : Nat := 40
abbrev f_law_strip : Nat := 41
abbrev f_law_number : Nat := 42
abbrev f_law_part : Nat := 43
abbrev f_law_add : Nat := 44
abbrev f_law_multiply : Nat := 45
abbrev f_law_small : Nat := 46
abbrev f_law_matrix : Nat := 47
abbrev f_law_dot : Nat := 48
abbrev f_law_column : Nat := 49
abbrev f_law_product : Nat := 50
abbrev f_law_low : Nat := 51
abbrev f_law_orders : Nat := 52
abbrev f_law_sign : Nat := 53
abbrev f_law_determinant : Nat := 54
abbrev f_law_by_minors : Nat := 55
abbrev f_law_choices : Nat := 56
abbrev f_law_whole : Nat := 57
abbrev f_law_exact : Nat := 58
abbrev f_law_wide : Nat := 59
abbrev f_law : Nat := 60
abbrev FN : List Str := [("common" : Str), ("divisor" : Str), ("combine" : Str), ("is_prime" : Str), ("next_prime" : Str), ("fraction" : Str), ("root" : Str), ("symmetric" : Str), ("is_integer" : Str), ("is_domain" : Str), ("is_field" : Str), ("need_field" : Str), ("zero" : Str), ("one" : Str), ("from_integer" : Str), ("trimmed" : Str), ("add" : Str), ("negate" : Str), ("subtract" : Str), ("multiply" : Str), ("inverse" : Str), ("quotient" : Str), ("need_shape" : Str), ("need_square" : Str), ("may_change" : Str), ("changed" : Str), ("change" : Str), ("hessenberg" : Str), ("exchange" : Str), ("clear_entry" : Str), ("characteristic" : Str), ("row_square" : Str), ("coefficient_bound" : Str), ("primes_for" : Str), ("characteristic_by_primes" : Str), ("_law_start" : Str), ("_law_fill" : Str), ("_law_take" : Str), ("_law_common" : Str), ("_law_fraction" : Str), ("_law_zero" : Str), ("_law_strip" : Str), ("_law_number" : Str), ("_law_part" : Str), ("_law_add" : Str), ("_law_multiply" : Str), ("_law_small" : Str), ("_law_matrix" : Str), ("_law_dot" : Str), ("_law_column" : Str), ("_law_product" : Str), ("_law_low" : Str), ("_law_orders" : Str), ("_law_sign" : Str), ("_law_determinant" : Str), ("_law_by_minors" : Str), ("_law_choices" : Str), ("_law_whole" : Str), ("_law_exact" : Str), ("_law_wide" : Str), ("law" : Str)]
abbrev KL : List (Str × Cl) := []
abbrev ML : List (Str × Str) := []
def d_common : Df := ⟨"common", ["a", "b"], ["a", "b", "first", "second", "q", "g", "s", "t"],
  [.ifs (.and (.cmp .eq (.var 0) (.cint 0)) (.cmp .eq (.var 1) (.cint 0)))
     [.ret (.tup [(.cint 0), (.cint 0), (.cint 0)])]
     [],
   .ifs (.cmp .eq (.var 1) (.cint 0))
     [.ret (.tup [(.bi .abs [(.var 0)]), (.ife (.cmp .gt (.var 0) (.cint 0)) (.cint 1) (.neg (.cint 1))), (.cint 0)])]
     [],
   .ifs (.cmp .eq (.var 0) (.cint 0))
     [.ret (.tup [(.bi .abs [(.var 1)]), (.cint 0), (.ife (.cmp .gt (.var 1) (.cint 0)) (.cint 1) (.neg (.cint 1)))])]
     [],
   .set (.var 2) (.tup [(.bi .abs [(.var 0)]), (.cint 1), (.cint 0)]),
   .set (.var 3) (.tup [(.bi .abs [(.var 1)]), (.cint 0), (.cint 1)]),
   .whl (.cmp .ne (.ix (.var 3) (.cint 0)) (.cint 0))
     [.set (.var 4) (.op .fdiv (.ix (.var 2) (.cint 0)) (.ix (.var 3) (.cint 0))),
      .par2 2 3 (.var 3) (.tup [(.op .sub (.ix (.var 2) (.cint 0)) (.op .mul (.var 4) (.ix (.var 3) (.cint 0)))), (.op .sub (.ix (.var 2) (.cint 1)) (.op .mul (.var 4) (.ix (.var 3) (.cint 1)))), (.op .sub (.ix (.var 2) (.cint 2)) (.op .mul (.var 4) (.ix (.var 3) (.cint 2))))])],
   .set (.tup [(.var 5), (.var 6), (.var 7)]) (.var 2),
   .ret (.tup [(.var 5), (.ife (.cmp .gt (.var 0) (.cint 0)) (.var 6) (.neg (.var 6))), (.ife (.cmp .gt (.var 1) (.cint 0)) (.var 7) (.neg (.var 7)))])], "common", [], false⟩
def d_divisor : Df := ⟨"divisor", ["a", "b"], ["a", "b"],
  [.set (.var 0) (.bi .abs [(.var 0)]),
   .set (.var 1) (.bi .abs [(.var 1)]),
   .whl (.cmp .ne (.var 1) (.cint 0))
     [.par2 0 1 (.var 1) (.op .mod (.var 0) (.var 1))],
   .ret (.var 0)], "divisor", [], false⟩
def d_combine : Df := ⟨"combine", ["pairs"], ["pairs", "r", "m", "other", "modulus", "g", "s", "t", "steps"],
  [.set (.var 1) (.cint 0),
   .set (.var 2) (.cint 1),
   .for_ (.tup [(.var 3), (.var 4)]) 0 [(.var 0)]
     [.set (.tup [(.var 5), (.var 6), (.var 7)]) (.call f_common [(.var 2), (.var 4)]),
      .ifs (.cmp .ne (.op .mod (.op .sub (.var 3) (.var 1)) (.var 5)) (.cint 0))
        [.ret .cnon]
        [],
      .set (.var 8) (.op .mod (.op .mul (.op .fdiv (.op .sub (.var 3) (.var 1)) (.var 5)) (.var 6)) (.op .fdiv (.var 4) (.var 5))),
      .set (.var 1) (.op .add (.var 1) (.op .mul (.var 2) (.var 8))),
      .set (.var 2) (.op .mul (.var 2) (.op .fdiv (.var 4) (.var 5))),
      .set (.var 1) (.op .mod (.var 1) (.var 2))],
   .ret (.tup [(.var 1), (.var 2)])], "combine", [], false⟩
def d_is_prime : Df := ⟨"is_prime", ["n"], ["n", "k"],
  [.ifs (.cmp .lt (.var 0) (.cint 4))
     [.ret (.cmp .gt (.var 0) (.cint 1))]
     [],
   .ifs (.cmp .eq (.op .mod (.var 0) (.cint 2)) (.cint 0))
     [.ret (.cbl false)]
     [],
   .set (.var 1) (.cint 3),
   .whl (.cmp .le (.op .mul (.var 1) (.var 1)) (.var 0))
     [.ifs (.cmp .eq (.op .mod (.var 0) (.var 1)) (.cint 0))
        [.ret (.cbl false)]
        [],
      .aug 1 .add (.cint 2)],
   .ret (.cbl true)], "is_prime", [], false⟩
def d_next_prime : Df := ⟨"next_prime", ["n"], ["n"],
  [.aug 0 .add (.cint 1),
   .whl (.not (.call f_is_prime [(.var 0)]))
     [.aug 0 .add (.cint 1)],
   .ret (.var 0)], "next_prime", [], false⟩
def d_fraction : Df := ⟨"fraction", ["n", "d"], ["n", "d", "g"],
  [.set (.var 2) (.call f_divisor [(.var 0), (.var 1)]),
   .ifs (.cmp .lt (.var 1) (.cint 0))
     [.set (.var 2) (.neg (.var 2))]
     [],
   .ret (.tup [(.op .fdiv (.var 0) (.var 2)), (.op .fdiv (.var 1) (.var 2))])], "fraction", [], false⟩
def d_root : Df := ⟨"root", ["n"], ["n", "guess"],
  [.ifs (.cmp .lt (.var 0) (.cint 2))
     [.ret (.var 0)]
     [],
   .set (.var 1) (.op .shl (.cint 1) (.op .fdiv (.op .add (.bi .bits [(.var 0)]) (.cint 1)) (.cint 2))),
   .whl (.cmp .gt (.op .mul (.var 1) (.var 1)) (.var 0))
     [.set (.var 1) (.op .fdiv (.op .add (.var 1) (.op .fdiv (.var 0) (.var 1))) (.cint 2))],
   .ret (.var 1)], "root", [], false⟩
def d_symmetric : Df := ⟨"symmetric", ["r", "m"], ["r", "m"],
  [.set (.var 0) (.op .mod (.var 0) (.var 1)),
   .ifs (.cmp .gt (.op .mul (.cint 2) (.var 0)) (.var 1))
     [.ret (.op .sub (.var 0) (.var 1))]
     [],
   .ret (.var 0)], "symmetric", [], false⟩
def d_is_integer : Df := ⟨"is_integer", ["x"], ["x"],
  [.ret (.and (.bi (.isi .int) [(.var 0)]) (.not (.bi (.isi .bool) [(.var 0)])))], "is_integer", [], false⟩
def d_is_domain : Df := ⟨"is_domain", ["d"], ["d"],
  [.ifs (.or (.not (.bi (.isi .tuple) [(.var 0)])) (.or (.cmp .eq (.bi .len [(.var 0)]) (.cint 0)) (.not (.bi (.isi .str) [(.ix (.var 0) (.cint 0))]))))
     [.ret (.cbl false)]
     [],
   .ifs (.cmp .eq (.ix (.var 0) (.cint 0)) (.cstr "P"))
     [.ret (.and (.cmp .eq (.bi .len [(.var 0)]) (.cint 2)) (.call f_is_field [(.ix (.var 0) (.cint 1))]))]
     [],
   .ret (.or (.cmp .eq (.var 0) (.tup [(.cstr "Z")])) (.call f_is_field [(.var 0)]))], "is_domain", [], false⟩
def d_is_field : Df := ⟨"is_field", ["d"], ["d"],
  [.ifs (.or (.not (.bi (.isi .tuple) [(.var 0)])) (.or (.cmp .eq (.bi .len [(.var 0)]) (.cint 0)) (.not (.bi (.isi .str) [(.ix (.var 0) (.cint 0))]))))
     [.ret (.cbl false)]
     [],
   .ifs (.cmp .eq (.ix (.var 0) (.cint 0)) (.cstr "Q"))
     [.ret (.cmp .eq (.bi .len [(.var 0)]) (.cint 1))]
     [],
   .ret (.and (.cmp .eq (.ix (.var 0) (.cint 0)) (.cstr "F")) (.and (.cmp .eq (.bi .len [(.var 0)]) (.cint 2)) (.and (.call f_is_integer [(.ix (.var 0) (.cint 1))]) (.and (.chn .lt .le (.cint 1) (.ix (.var 0) (.cint 1)) (.cint 65521)) (.call f_is_prime [(.ix (.var 0) (.cint 1))])))))], "is_field", [], false⟩
def d_need_field : Df := ⟨"need_field", ["d"], ["d"],
  [.ifs (.not (.call f_is_field [(.var 0)]))
     [.raise 0]
     []], "need_field", [], false⟩
def d_zero : Df := ⟨"zero", ["d"], ["d"],
  [.ifs (.cmp .eq (.ix (.var 0) (.cint 0)) (.cstr "Q"))
     [.ret (.tup [(.cint 0), (.cint 1)])]
     [],
   .ret (.ife (.cmp .eq (.ix (.var 0) (.cint 0)) (.cstr "P")) (.tup []) (.cint 0))], "zero", [], false⟩
def d_one : Df := ⟨"one", ["d"], ["d"],
  [.ifs (.cmp .eq (.ix (.var 0) (.cint 0)) (.cstr "Q"))
     [.ret (.tup [(.cint 1), (.cint 1)])]
     [],
   .ret (.ife (.cmp .eq (.ix (.var 0) (.cint 0)) (.cstr "P")) (.tup [(.call f_one [(.ix (.var 0) (.cint 1))])]) (.cint 1))], "one", [], false⟩
def d_from_integer : Df := ⟨"from_integer", ["d", "n"], ["d", "n"],
  [.ifs (.cmp .eq (.ix (.var 0) (.cint 0)) (.cstr "Z"))
     [.ret (.var 1)]
     [],
   .ifs (.cmp .eq (.ix (.var 0) (.cint 0)) (.cstr "Q"))
     [.ret (.tup [(.var 1), (.cint 1)])]
     [],
   .ifs (.cmp .eq (.ix (.var 0) (.cint 0)) (.cstr "F"))
     [.ret (.op .mod (.var 1) (.ix (.var 0) (.cint 1)))]
     [],
   .ret (.call f_trimmed [(.ix (.var 0) (.cint 1)), (.lst [(.call f_from_integer [(.ix (.var 0) (.cint 1)), (.var 1)])])])], "from_integer", [], false⟩
def d_trimmed : Df := ⟨"trimmed", ["f", "coefficients"], ["f", "coefficients", "many"],
  [.set (.var 2) (.bi .len [(.var 1)]),
   .whl (.and (.cmp .gt (.var 2) (.cint 0)) (.cmp .eq (.ix (.var 1) (.op .sub (.var 2) (.cint 1))) (.call f_zero [(.var 0)])))
     [.aug 2 .sub (.cint 1)],
   .ret (.bi .tup1 [(.sl (.var 1) .cnon (.var 2))])], "trimmed", [], false⟩
def d_add : Df := ⟨"add", ["d", "x", "y"], ["d", "x", "y", "f", "found", "k", "part"],
  [.ifs (.cmp .eq (.ix (.var 0) (.cint 0)) (.cstr "Z"))
     [.ret (.op .add (.var 1) (.var 2))]
     [],
   .ifs (.cmp .eq (.ix (.var 0) (.cint 0)) (.cstr "F"))
     [.ret (.op .mod (.op .add (.var 1) (.var 2)) (.ix (.var 0) (.cint 1)))]
     [],
   .ifs (.cmp .eq (.ix (.var 0) (.cint 0)) (.cstr "Q"))
     [.ret (.call f_fraction [(.op .add (.op .mul (.ix (.var 1) (.cint 0)) (.ix (.var 2) (.cint 1))) (.op .mul (.ix (.var 2) (.cint 0)) (.ix (.var 1) (.cint 1)))), (.op .mul (.ix (.var 1) (.cint 1)) (.ix (.var 2) (.cint 1)))])]
     [],
   .set (.var 3) (.ix (.var 0) (.cint 1)),
   .ifs (.cmp .lt (.bi .len [(.var 1)]) (.bi .len [(.var 2)]))
     [.par2 1 2 (.var 2) (.var 1)]
     [],
   .set (.var 4) (.bi .lst1 [(.var 1)]),
   .for_ (.tup [(.var 5), (.var 6)]) 2 [(.var 2)]
     [.set (.sub (.var 4) (.var 5)) (.call f_add [(.var 3), (.ix (.var 4) (.var 5)), (.var 6)])],
   .ret (.call f_trimmed [(.var 3), (.var 4)])], "add", [], false⟩
def d_negate : Df := ⟨"negate", ["d", "x"], ["d", "x", "part"],
  [.ifs (.cmp .eq (.ix (.var 0) (.cint 0)) (.cstr "Z"))
     [.ret (.neg (.var 1))]
     [],
   .ifs (.cmp .eq (.ix (.var 0) (.cint 0)) (.cstr "F"))
     [.ret (.op .mod (.neg (.var 1)) (.ix (.var 0) (.cint 1)))]
     [],
   .ifs (.cmp .eq (.ix (.var 0) (.cint 0)) (.cstr "Q"))
     [.ret (.tup [(.neg (.ix (.var 1) (.cint 0))), (.ix (.var 1) (.cint 1))])]
     [],
   .ret (.bi .tup1 [(.comp [2] [2] false 0 [(.var 1)] [] (.call f_negate [(.ix (.var 0) (.cint 1)), (.var 2)]))])], "negate", [], false⟩
def d_subtract : Df := ⟨"subtract", ["d", "x", "y"], ["d", "x", "y"],
  [.ret (.call f_add [(.var 0), (.var 1), (.call f_negate [(.var 0), (.var 2)])])], "subtract", [], false⟩
def d_multiply : Df := ⟨"multiply", ["d", "x", "y"], ["d", "x", "y", "f", "found", "k", "i", "left", "j", "right"],
  [.ifs (.cmp .eq (.ix (.var 0) (.cint 0)) (.cstr "Z"))
     [.ret (.op .mul (.var 1) (.var 2))]
     [],
   .ifs (.cmp .eq (.ix (.var 0) (.cint 0)) (.cstr "F"))
     [.ret (.op .mod (.op .mul (.var 1) (.var 2)) (.ix (.var 0) (.cint 1)))]
     [],
   .ifs (.cmp .eq (.ix (.var 0) (.cint 0)) (.cstr "Q"))
     [.ret (.call f_fraction [(.op .mul (.ix (.var 1) (.cint 0)) (.ix (.var 2) (.cint 0))), (.op .mul (.ix (.var 1) (.cint 1)) (.ix (.var 2) (.cint 1)))])]
     [],
   .ifs (.or (.cmp .eq (.bi .len [(.var 1)]) (.cint 0)) (.cmp .eq (.bi .len [(.var 2)]) (.cint 0)))
     [.ret (.tup [])]
     [],
   .set (.var 3) (.ix (.var 0) (.cint 1)),
   .set (.var 4) (.comp [5] [5] false 1 [(.op .sub (.op .add (.bi .len [(.var 1)]) (.bi .len [(.var 2)])) (.cint 1))] [] (.call f_zero [(.var 3)])),
   .for_ (.tup [(.var 6), (.var 7)]) 2 [(.var 1)]
     [.for_ (.tup [(.var 8), (.var 9)]) 2 [(.var 2)]
        [.set (.sub (.var 4) (.op .add (.var 6) (.var 8))) (.call f_add [(.var 3), (.ix (.var 4) (.op .add (.var 6) (.var 8))), (.call f_multiply [(.var 3), (.var 7), (.var 9)])])]],
   .ret (.call f_trimmed [(.var 3), (.var 4)])], "multiply", [], false⟩
def d_inverse : Df := ⟨"inverse", ["f", "x"], ["f", "x", "g", "s", "t"],
  [.exp (.call f_need_field [(.var 0)]),
   .ifs (.cmp .eq (.var 1) (.call f_zero [(.var 0)]))
     [.raise 2]
     [],
   .ifs (.cmp .eq (.ix (.var 0) (.cint 0)) (.cstr "Q"))
     [.ret (.call f_fraction [(.ix (.var 1) (.cint 1)), (.ix (.var 1) (.cint 0))])]
     [],
   .set (.tup [(.var 2), (.var 3), (.var 4)]) (.call f_common [(.var 1), (.ix (.var 0) (.cint 1))]),
   .ret (.op .mod (.var 3) (.ix (.var 0) (.cint 1)))], "inverse", [], false⟩
def d_quotient : Df := ⟨"quotient", ["f", "x", "y"], ["f", "x", "y"],
  [.ret (.call f_multiply [(.var 0), (.var 1), (.call f_inverse [(.var 0), (.var 2)])])], "quotient", [], false⟩
def d_need_shape : Df := ⟨"need_shape", ["holds"], ["holds"],
  [.ifs (.not (.var 0))
     [.raise 1]
     []], "need_shape", [], false⟩
def d_need_square : Df := ⟨"need_square", ["a"], ["a"],
  [.exp (.call f_need_shape [(.cmp .eq (.ix (.var 0) (.cint 0)) (.ix (.var 0) (.cint 1)))])], "need_square", [], false⟩
def d_may_change : Df := ⟨"may_change", ["d", "e"], ["d", "e"],
  [.ifs (.cmp .eq (.ix (.var 0) (.cint 0)) (.cstr "Z"))
     [.ret (.call f_is_field [(.var 1)])]
     [],
   .ret (.or (.and (.cmp .eq (.ix (.var 0) (.cint 0)) (.cstr "Q")) (.cmp .mem (.ix (.var 1) (.cint 0)) (.tup [(.cstr "Z"), (.cstr "F")]))) (.cmp .eq (.var 1) (.tup [(.cstr "P"), (.var 0)])))], "may_change", [], false⟩
def d_changed : Df := ⟨"changed", ["d", "e", "x"], ["d", "e", "x"],
  [.ifs (.cmp .eq (.var 0) (.var 1))
     [.ret (.var 2)]
     [],
   .ifs (.and (.cmp .eq (.ix (.var 0) (.cint 0)) (.cstr "Z")) (.call f_is_field [(.var 1)]))
     [.ret (.call f_from_integer [(.var 1), (.var 2)])]
     [],
   .ifs (.and (.cmp .eq (.ix (.var 0) (.cint 0)) (.cstr "Q")) (.and (.cmp .eq (.ix (.var 1) (.cint 0)) (.cstr "Z")) (.cmp .eq (.ix (.var 2) (.cint 1)) (.cint 1))))
     [.ret (.ix (.var 2) (.cint 0))]
     [],
   .ifs (.and (.cmp .eq (.ix (.var 0) (.cint 0)) (.cstr "Q")) (.and (.cmp .eq (.ix (.var 1) (.cint 0)) (.cstr "F")) (.cmp .ne (.op .mod (.ix (.var 2) (.cint 1)) (.ix (.var 1) (.cint 1))) (.cint 0))))
     [.ret (.call f_quotient [(.var 1), (.op .mod (.ix (.var 2) (.cint 0)) (.ix (.var 1) (.cint 1))), (.op .mod (.ix (.var 2) (.cint 1)) (.ix (.var 1) (.cint 1)))])]
     [],
   .ifs (.cmp .eq (.var 1) (.tup [(.cstr "P"), (.var 0)]))
     [.ret (.call f_trimmed [(.var 0), (.lst [(.var 2)])])]
     [],
   .raise 0], "changed", [], false⟩
def d_change : Df := ⟨"change", ["d", "e", "a"], ["d", "e", "a", "row", "x"],
  [.ifs (.or (.not (.call f_is_domain [(.var 0)])) (.or (.not (.call f_is_domain [(.var 1)])) (.and (.cmp .ne (.var 0) (.var 1)) (.not (.call f_may_change [(.var 0), (.var 1)])))))
     [.raise 0]
     [],
   .ret (.tup [(.ix (.var 2) (.cint 0)), (.ix (.var 2) (.cint 1)), (.bi .tup1 [(.comp [3] [3] false 0 [(.ix (.var 2) (.cint 2))] [] (.bi .tup1 [(.comp [4] [4] false 0 [(.var 3)] [] (.call f_changed [(.var 0), (.var 1), (.var 4)]))]))])])], "change", [], false⟩
def d_hessenberg : Df := ⟨"hessenberg", ["f", "a"], ["f", "a", "rows", "row", "n", "m", "pivots", "i", "unit", "factor"],
  [.set (.var 2) (.comp [3] [3] false 0 [(.ix (.var 1) (.cint 2))] [] (.bi .lst1 [(.var 3)])),
   .set (.var 4) (.bi .len [(.var 2)]),
   .for_ (.var 5) 1 [(.cint 1), (.op .sub (.var 4) (.cint 1))]
     [.set (.var 6) (.comp [7] [7] false 1 [(.var 5), (.var 4)] [(.cmp .ne (.ix (.ix (.var 2) (.var 7)) (.op .sub (.var 5) (.cint 1))) (.call f_zero [(.var 0)]))] (.var 7)),
      .ifs (.var 6)
        [.exp (.call f_exchange [(.var 2), (.ix (.var 6) (.cint 0)), (.var 5)]),
         .set (.var 8) (.call f_inverse [(.var 0), (.ix (.ix (.var 2) (.var 5)) (.op .sub (.var 5) (.cint 1)))]),
         .for_ (.var 7) 1 [(.op .add (.var 5) (.cint 1)), (.var 4)]
           [.set (.var 9) (.call f_multiply [(.var 0), (.ix (.ix (.var 2) (.var 7)) (.op .sub (.var 5) (.cint 1))), (.var 8)]),
            .ifs (.cmp .ne (.var 9) (.call f_zero [(.var 0)]))
              [.exp (.call f_clear_entry [(.var 0), (.var 2), (.var 7), (.var 5), (.var 9)])]
              []]]
        []],
   .ret (.var 2)], "hessenberg", [], false⟩
def d_exchange : Df := ⟨"exchange", ["rows", "i", "j"], ["rows", "i", "j", "row"],
  [.set (.tup [(.sub (.var 0) (.var 1)), (.sub (.var 0) (.var 2))]) (.tup [(.ix (.var 0) (.var 2)), (.ix (.var 0) (.var 1))]),
   .for_ (.var 3) 0 [(.var 0)]
     [.set (.tup [(.sub (.var 3) (.var 1)), (.sub (.var 3) (.var 2))]) (.tup [(.ix (.var 3) (.var 2)), (.ix (.var 3) (.var 1))])]], "exchange", [], false⟩
def d_clear_entry : Df := ⟨"clear_entry", ["f", "rows", "i", "m", "factor"], ["f", "rows", "i", "m", "factor", "k", "row"],
  [.for_ (.var 5) 1 [(.bi .len [(.var 1)])]
     [.set (.sub (.ix (.var 1) (.var 2)) (.var 5)) (.call f_subtract [(.var 0), (.ix (.ix (.var 1) (.var 2)) (.var 5)), (.call f_multiply [(.var 0), (.var 4), (.ix (.ix (.var 1) (.var 3)) (.var 5))])])],
   .for_ (.var 6) 0 [(.var 1)]
     [.set (.sub (.var 6) (.var 3)) (.call f_add [(.var 0), (.ix (.var 6) (.var 3)), (.call f_multiply [(.var 0), (.var 4), (.ix (.var 6) (.var 2))])])]], "clear_entry", [], false⟩
def d_characteristic : Df := ⟨"characteristic", ["f", "a"], ["f", "a", "d", "rows", "found", "k", "current", "product", "i", "factor"],
  [.exp (.call f_need_field [(.var 0)]),
   .exp (.call f_need_square [(.var 1)]),
   .set (.var 2) (.tup [(.cstr "P"), (.var 0)]),
   .set (.var 3) (.call f_hessenberg [(.var 0), (.var 1)]),
   .set (.var 4) (.lst [(.call f_one [(.var 2)])]),
   .for_ (.var 5) 1 [(.bi .len [(.var 3)])]
     [.set (.var 6) (.call f_multiply [(.var 2), (.ix (.var 4) (.var 5)), (.tup [(.call f_negate [(.var 0), (.ix (.ix (.var 3) (.var 5)) (.var 5))]), (.call f_one [(.var 0)])])]),
      .set (.var 7) (.call f_one [(.var 0)]),
      .for_ (.var 8) 1 [(.op .sub (.var 5) (.cint 1)), (.neg (.cint 1)), (.neg (.cint 1))]
        [.set (.var 7) (.call f_multiply [(.var 0), (.var 7), (.ix (.ix (.var 3) (.op .add (.var 8) (.cint 1))) (.var 8))]),
         .set (.var 9) (.call f_trimmed [(.var 0), (.lst [(.call f_multiply [(.var 0), (.var 7), (.ix (.ix (.var 3) (.var 8)) (.var 5))])])]),
         .set (.var 6) (.call f_subtract [(.var 2), (.var 6), (.call f_multiply [(.var 2), (.var 9), (.ix (.var 4) (.var 8))])])],
      .app (.var 4) (.var 6)],
   .ret (.ix (.var 4) (.neg (.cint 1)))], "characteristic", [], false⟩
def d_row_square : Df := ⟨"row_square", ["row"], ["row", "x"],
  [.ret (.bi .sum [(.comp [1] [1] false 0 [(.var 0)] [] (.op .mul (.var 1) (.var 1)))])], "row_square", [], false⟩
def d_coefficient_bound : Df := ⟨"coefficient_bound", ["a"], ["a", "bound", "row"],
  [.exp (.call f_need_square [(.var 0)]),
   .set (.var 1) (.cint 1),
   .for_ (.var 2) 0 [(.ix (.var 0) (.cint 2))]
     [.set (.var 1) (.op .mul (.var 1) (.op .add (.call f_root [(.call f_row_square [(.var 2)])]) (.cint 2)))],
   .ret (.var 1)], "coefficient_bound", [], false⟩
def d_primes_for : Df := ⟨"primes_for", ["m"], ["m", "found", "product", "p"],
  [.set (.var 1) (.lst []),
   .set (.var 2) (.cint 1),
   .set (.var 3) (.cint 32768),
   .whl (.cmp .le (.var 2) (.var 0))
     [.set (.var 3) (.call f_next_prime [(.var 3)]),
      .app (.var 1) (.var 3),
      .set (.var 2) (.op .mul (.var 2) (.var 3))],
   .ret (.var 1)], "primes_for", [], false⟩
def d_characteristic_by_primes : Df := ⟨"characteristic_by_primes", ["a"], ["a", "primes", "images", "p", "found", "k", "r", "m", "index", "image"],
  [.set (.var 1) (.call f_primes_for [(.op .mul (.cint 2) (.call f_coefficient_bound [(.var 0)]))]),
   .set (.var 2) (.comp [3] [3] false 0 [(.var 1)] [] (.call f_characteristic [(.tup [(.cstr "F"), (.var 3)]), (.call f_change [(.tup [(.cstr "Z")]), (.tup [(.cstr "F"), (.var 3)]), (.var 0)])])),
   .set (.var 4) (.lst []),
   .for_ (.var 5) 1 [(.op .add (.ix (.var 0) (.cint 0)) (.cint 1))]
     [.set (.tup [(.var 6), (.var 7)]) (.call f_combine [(.comp [8, 9] [8, 9] true 2 [(.var 2)] [] (.tup [(.ix (.var 9) (.var 5)), (.ix (.var 1) (.var 8))]))]),
      .app (.var 4) (.call f_symmetric [(.var 6), (.var 7)])],
   .ret (.bi .tup1 [(.var 4)])], "characteristic_by_primes", [], false⟩
def d_law_start : Df := ⟨"_law_start", ["_law_script"], ["_law_script", "_law_cell"],
  [.ret (.lst [(.comp [1] [1] false 0 [(.sl (.var 0) .cnon (.cint 63))] [] (.bi .int1 [(.var 1)])), (.cint 0), (.cint 0), (.cint 0)])], "_law_start", [], false⟩
def d_law_fill : Df := ⟨"_law_fill", ["_law_c"], ["_law_c", "_law_number_here"],
  [.set (.sub (.var 0) (.cint 3)) (.op .add (.ix (.var 0) (.cint 3)) (.cint 1)),
   .set (.var 1) (.op .add (.op .mul (.ix (.var 0) (.cint 3)) (.cint 69621)) (.cint 12345)),
   .ifs (.cmp .lt (.ix (.var 0) (.cint 1)) (.bi .len [(.ix (.var 0) (.cint 0))]))
     [.set (.var 1) (.ix (.ix (.var 0) (.cint 0)) (.ix (.var 0) (.cint 1))),
      .set (.sub (.var 0) (.cint 1)) (.op .add (.ix (.var 0) (.cint 1)) (.cint 1)),
      .ifs (.cmp .lt (.var 1) (.cint 0))
        [.set (.var 1) (.op .sub (.op .sub (.cint 0) (.cint 1)) (.var 1))]
        [],
      .ifs (.cmp .ge (.var 1) (.op .pow (.cint 10) (.cint 18)))
        [.ret (.var 1)]
        []]
     [],
   .ifs (.and (.ix (.var 0) (.cint 0)) (.cmp .ge (.ix (.var 0) (.cint 1)) (.bi .len [(.ix (.var 0) (.cint 0))])))
     [.set (.var 1) (.op .add (.var 1) (.op .mod (.bi .int1 [(.ix (.ix (.var 0) (.cint 0)) (.neg (.cint 1)))]) (.cint 1000003)))]
     [],
   .set (.var 1) (.op .mod (.bi .int1 [(.op .add (.op .mul (.var 1) (.cint 48271)) (.op .mul (.ix (.var 0) (.cint 3)) (.cint 69621)))]) (.cint 2147483647)),
   .ret (.op .add (.op .mod (.bi .int1 [(.op .add (.op .add (.op .mul (.var 1) (.var 1)) (.op .mul (.ix (.var 0) (.cint 3)) (.cint 7919))) (.cint 11))]) (.cint 2305843009213693951)) (.cint 2305843009213693951))], "_law_fill", [], false⟩
def d_law_take : Df := ⟨"_law_take", ["_law_c", "_law_many"], ["_law_c", "_law_many", "_law_digit"],
  [.ifs (.cmp .lt (.ix (.var 0) (.cint 2)) (.var 1))
     [.set (.sub (.var 0) (.cint 2)) (.call f_law_fill [(.var 0)])]
     [],
   .set (.var 2) (.op .mod (.bi .int1 [(.ix (.var 0) (.cint 2))]) (.var 1)),
   .set (.sub (.var 0) (.cint 2)) (.op .fdiv (.ix (.var 0) (.cint 2)) (.var 1)),
   .ret (.var 2)], "_law_take", [], false⟩
def d_law_common : Df := ⟨"_law_common", ["_law_a", "_law_b"], ["_law_a", "_law_b", "_law_rest"],
  [.set (.var 0) (.bi .abs [(.var 0)]),
   .set (.var 1) (.bi .abs [(.var 1)]),
   .whl (.cmp .ne (.var 1) (.cint 0))
     [.set (.var 2) (.op .mod (.bi .int1 [(.var 0)]) (.var 1)),
      .set (.var 0) (.var 1),
      .set (.var 1) (.var 2)],
   .ret (.var 0)], "_law_common", [], false⟩
def d_law_fraction : Df := ⟨"_law_fraction", ["_law_n", "_law_m"], ["_law_n", "_law_m", "_law_g"],
  [.set (.var 2) (.call f_law_common [(.var 0), (.var 1)]),
   .ifs (.cmp .lt (.var 1) (.cint 0))
     [.set (.var 2) (.op .sub (.cint 0) (.var 2))]
     [],
   .ret (.tup [(.op .fdiv (.var 0) (.var 2)), (.op .fdiv (.var 1) (.var 2))])], "_law_fraction", [], false⟩
def d_law_zero : Df := ⟨"_law_zero", ["_law_d"], ["_law_d"],
  [.ifs (.cmp .eq (.ix (.var 0) (.cint 0)) (.cstr "Q"))
     [.ret (.tup [(.cint 0), (.cint 1)])]
     [],
   .ifs (.cmp .eq (.ix (.var 0) (.cint 0)) (.cstr "P"))
     [.ret (.tup [])]
     [],
   .ret (.cint 0)], "_law_zero", [], false⟩
def d_law_strip : Df := ⟨"_law_strip", ["_law_f", "_law_parts"], ["_law_f", "_law_parts", "_law_many"],
  [.set (.var 2) (.bi .len [(.var 1)]),
   .whl (.and (.cmp .gt (.var 2) (.cint 0)) (.cmp .eq (.ix (.var 1) (.op .sub (.var 2) (.cint 1))) (.call f_law_zero [(.var 0)])))
     [.set (.var 2) (.op .sub (.var 2) (.cint 1))],
   .ret (.bi .tup1 [(.sl (.var 1) .cnon (.var 2))])], "_law_strip", [], false⟩
def d_law_number : Df := ⟨"_law_number", ["_law_d", "_law_n"], ["_law_d", "_law_n"],
  [.ifs (.cmp .eq (.ix (.var 0) (.cint 0)) (.cstr "Q"))
     [.ret (.tup [(.var 1), (.cint 1)])]
     [],
   .ifs (.cmp .eq (.ix (.var 0) (.cint 0)) (.cstr "F"))
     [.ret (.op .mod (.bi .int1 [(.var 1)]) (.ix (.var 0) (.cint 1)))]
     [],
   .ifs (.cmp .eq (.ix (.var 0) (.cint 0)) (.cstr "P"))
     [.ret (.call f_law_strip [(.ix (.var 0) (.cint 1)), (.lst [(.call f_law_number [(.ix (.var 0) (.cint 1)), (.var 1)])])])]
     [],
   .ret (.var 1)], "_law_number", [], false⟩
def d_law_part : Df := ⟨"_law_part", ["_law_d", "_law_x", "_law_k"], ["_law_d", "_law_x", "_law_k"],
  [.ifs (.cmp .lt (.var 2) (.bi .len [(.var 1)]))
     [.ret (.ix (.var 1) (.var 2))]
     [],
   .ret (.call f_law_zero [(.var 0)])], "_law_part", [], false⟩
def d_law_add : Df := ⟨"_law_add", ["_law_d", "_law_x", "_law_y"], ["_law_d", "_law_x", "_law_y", "_law_long", "_law_k"],
  [.ifs (.cmp .eq (.ix (.var 0) (.cint 0)) (.cstr "Q"))
     [.ret (.call f_law_fraction [(.op .add (.op .mul (.ix (.var 1) (.cint 0)) (.ix (.var 2) (.cint 1))) (.op .mul (.ix (.var 2) (.cint 0)) (.ix (.var 1) (.cint 1)))), (.op .mul (.ix (.var 1) (.cint 1)) (.ix (.var 2) (.cint 1)))])]
     [],
   .ifs (.cmp .eq (.ix (.var 0) (.cint 0)) (.cstr "F"))
     [.ret (.op .mod (.bi .int1 [(.op .add (.var 1) (.var 2))]) (.ix (.var 0) (.cint 1)))]
     [],
   .ifs (.cmp .eq (.ix (.var 0) (.cint 0)) (.cstr "P"))
     [.set (.var 3) (.bi .max2 [(.bi .len [(.var 1)]), (.bi .len [(.var 2)])]),
      .ret (.call f_law_strip [(.ix (.var 0) (.cint 1)), (.comp [4] [4] false 1 [(.var 3)] [] (.call f_law_add [(.ix (.var 0) (.cint 1)), (.call f_law_part [(.ix (.var 0) (.cint 1)), (.var 1), (.var 4)]), (.call f_law_part [(.ix (.var 0) (.cint 1)), (.var 2), (.var 4)])]))])]
     [],
   .ret (.op .add (.var 1) (.var 2))], "_law_add", [], false⟩
def d_law_multiply : Df := ⟨"_law_multiply", ["_law_d", "_law_x", "_law_y"], ["_law_d", "_law_x", "_law_y", "_law_parts", "_law_i", "_law_j"],
  [.ifs (.cmp .eq (.ix (.var 0) (.cint 0)) (.cstr "Q"))
     [.ret (.call f_law_fraction [(.op .mul (.ix (.var 1) (.cint 0)) (.ix (.var 2) (.cint 0))), (.op .mul (.ix (.var 1) (.cint 1)) (.ix (.var 2) (.cint 1)))])]
     [],
   .ifs (.cmp .eq (.ix (.var 0) (.cint 0)) (.cstr "F"))
     [.ret (.op .mod (.bi .int1 [(.op .mul (.var 1) (.var 2))]) (.ix (.var 0) (.cint 1)))]
     [],
   .ifs (.cmp .eq (.ix (.var 0) (.cint 0)) (.cstr "P"))
     [.set (.var 3) (.op .mul (.lst [(.call f_law_zero [(.ix (.var 0) (.cint 1))])]) (.op .add (.bi .len [(.var 1)]) (.bi .len [(.var 2)]))),
      .for_ (.var 4) 1 [(.bi .len [(.var 1)])]
        [.for_ (.var 5) 1 [(.bi .len [(.var 2)])]
           [.set (.sub (.var 3) (.op .add (.var 4) (.var 5))) (.call f_law_add [(.ix (.var 0) (.cint 1)), (.ix (.var 3) (.op .add (.var 4) (.var 5))), (.call f_law_multiply [(.ix (.var 0) (.cint 1)), (.ix (.var 1) (.var 4)), (.ix (.var 2) (.var 5))])])]],
      .ret (.call f_law_strip [(.ix (.var 0) (.cint 1)), (.var 3)])]
     [],
   .ret (.op .mul (.var 1) (.var 2))], "_law_multiply", [], false⟩
def d_law_small : Df := ⟨"_law_small", ["_law_c", "_law_d"], ["_law_c", "_law_d", "_law_k"],
  [.ifs (.cmp .eq (.ix (.var 1) (.cint 0)) (.cstr "F"))
     [.ret (.op .mod (.bi .int1 [(.call f_law_take [(.var 0), (.cint 65536)])]) (.ix (.var 1) (.cint 1)))]
     [],
   .ifs (.cmp .eq (.ix (.var 1) (.cint 0)) (.cstr "Q"))
     [.ret (.call f_law_fraction [(.op .sub (.call f_law_take [(.var 0), (.cint 9)]) (.cint 4)), (.op .add (.cint 1) (.call f_law_take [(.var 0), (.cint 3)]))])]
     [],
   .ifs (.cmp .eq (.ix (.var 1) (.cint 0)) (.cstr "P"))
     [.ret (.call f_law_strip [(.ix (.var 1) (.cint 1)), (.comp [2] [2] false 1 [(.call f_law_take [(.var 0), (.cint 3)])] [] (.call f_law_small [(.var 0), (.ix (.var 1) (.cint 1))]))])]
     [],
   .ret (.ix (.lst [(.op .sub (.call f_law_take [(.var 0), (.cint 9)]) (.cint 4)), (.cint 0), (.cint 0), (.cint 1), (.op .sub (.call f_law_take [(.var 0), (.cint 99)]) (.cint 49))]) (.call f_law_take [(.var 0), (.cint 5)]))], "_law_small", [], false⟩
def d_law_matrix : Df := ⟨"_law_matrix", ["_law_c", "_law_d", "_law_m", "_law_n"], ["_law_c", "_law_d", "_law_m", "_law_n", "_law_i", "_law_j"],
  [.ret (.tup [(.var 2), (.var 3), (.bi .tup1 [(.comp [4] [4] false 1 [(.var 2)] [] (.bi .tup1 [(.comp [5] [5] false 1 [(.var 3)] [] (.call f_law_small [(.var 0), (.var 1)]))]))])])], "_law_matrix", [], false⟩
def d_law_dot : Df := ⟨"_law_dot", ["_law_d", "_law_u", "_law_v"], ["_law_d", "_law_u", "_law_v", "_law_total", "_law_k"],
  [.set (.var 3) (.call f_law_zero [(.var 0)]),
   .for_ (.var 4) 1 [(.bi .len [(.var 1)])]
     [.set (.var 3) (.call f_law_add [(.var 0), (.var 3), (.call f_law_multiply [(.var 0), (.ix (.var 1) (.var 4)), (.ix (.var 2) (.var 4))])])],
   .ret (.var 3)], "_law_dot", [], false⟩
def d_law_column : Df := ⟨"_law_column", ["_law_a", "_law_j"], ["_law_a", "_law_j", "_law_row"],
  [.ret (.bi .tup1 [(.comp [2] [2] false 0 [(.ix (.var 0) (.cint 2))] [] (.ix (.var 2) (.var 1)))])], "_law_column", [], false⟩
def d_law_product : Df := ⟨"_law_product", ["_law_d", "_law_a", "_law_b"], ["_law_d", "_law_a", "_law_b", "_law_columns", "_law_j", "_law_row", "_law_column_here"],
  [.set (.var 3) (.comp [4] [4] false 1 [(.ix (.var 2) (.cint 1))] [] (.call f_law_column [(.var 2), (.var 4)])),
   .ret (.tup [(.ix (.var 1) (.cint 0)), (.ix (.var 2) (.cint 1)), (.bi .tup1 [(.comp [5] [5] false 0 [(.ix (.var 1) (.cint 2))] [] (.bi .tup1 [(.comp [6] [6] false 0 [(.var 3)] [] (.call f_law_dot [(.var 0), (.var 5), (.var 6)]))]))])])], "_law_product", [], false⟩
def d_law_low : Df := ⟨"_law_low", ["_law_c", "_law_m", "_law_n"], ["_law_c", "_law_m", "_law_n", "_law_d", "_law_k", "_law_r"],
  [.set (.var 3) (.tup [(.cstr "Z")]),
   .set (.var 4) (.call f_law_take [(.var 0), (.cint 5)]),
   .ifs (.or (.cmp .gt (.var 4) (.cint 1)) (.or (.cmp .lt (.var 1) (.cint 1)) (.cmp .lt (.var 2) (.cint 1))))
     [.ret (.call f_law_matrix [(.var 0), (.var 3), (.var 1), (.var 2)])]
     [],
   .set (.var 5) (.call f_law_take [(.var 0), (.op .add (.bi .min2 [(.var 1), (.var 2)]) (.cint 1))]),
   .ret (.call f_law_product [(.var 3), (.call f_law_matrix [(.var 0), (.var 3), (.var 1), (.var 5)]), (.call f_law_matrix [(.var 0), (.var 3), (.var 5), (.var 2)])])], "_law_low", [], false⟩
def d_law_orders : Df := ⟨"_law_orders", ["_law_n"], ["_law_n", "_law_found", "_law_k", "_law_longer", "_law_one", "_law_i"],
  [.set (.var 1) (.lst [(.lst [])]),
   .for_ (.var 2) 1 [(.var 0)]
     [.set (.var 3) (.lst []),
      .for_ (.var 4) 0 [(.var 1)]
        [.set (.var 3) (.op .add (.var 3) (.comp [5] [5] false 1 [(.op .add (.var 2) (.cint 1))] [] (.op .add (.op .add (.sl (.var 4) .cnon (.var 5)) (.lst [(.var 2)])) (.sl (.var 4) (.var 5) .cnon))))],
      .set (.var 1) (.var 3)],
   .ret (.var 1)], "_law_orders", [], false⟩
def d_law_sign : Df := ⟨"_law_sign", ["_law_order"], ["_law_order", "_law_sign_here", "_law_i", "_law_j"],
  [.set (.var 1) (.cint 1),
   .for_ (.var 2) 1 [(.bi .len [(.var 0)])]
     [.for_ (.var 3) 1 [(.var 2)]
        [.ifs (.cmp .gt (.ix (.var 0) (.var 3)) (.ix (.var 0) (.var 2)))
           [.set (.var 1) (.op .sub (.cint 0) (.var 1))]
           []]],
   .ret (.var 1)], "_law_sign", [], false⟩
def d_law_determinant : Df := ⟨"_law_determinant", ["_law_d", "_law_a"], ["_law_d", "_law_a", "_law_total", "_law_order", "_law_term", "_law_i"],
  [.set (.var 2) (.call f_law_zero [(.var 0)]),
   .for_ (.var 3) 0 [(.call f_law_orders [(.ix (.var 1) (.cint 0))])]
     [.set (.var 4) (.call f_law_number [(.var 0), (.call f_law_sign [(.var 3)])]),
      .for_ (.var 5) 1 [(.ix (.var 1) (.cint 0))]
        [.set (.var 4) (.call f_law_multiply [(.var 0), (.var 4), (.ix (.ix (.ix (.var 1) (.cint 2)) (.var 5)) (.ix (.var 3) (.var 5)))])],
      .set (.var 2) (.call f_law_add [(.var 0), (.var 2), (.var 4)])],
   .ret (.var 2)], "_law_determinant", [], false⟩
def d_law_by_minors : Df := ⟨"_law_by_minors", ["_law_d", "_law_a"], ["_law_d", "_law_a", "_law_n", "_law_found", "_law_k", "_law_total", "_law_rows", "_law_part_here", "_law_i", "_law_j"],
  [.set (.var 2) (.ix (.var 1) (.cint 0)),
   .set (.var 3) (.lst []),
   .for_ (.var 4) 1 [(.op .add (.var 2) (.cint 1))]
     [.set (.var 5) (.call f_law_zero [(.var 0)]),
      .for_ (.var 6) 0 [(.call f_law_choices [(.var 2), (.op .sub (.var 2) (.var 4))])]
        [.set (.var 7) (.tup [(.op .sub (.var 2) (.var 4)), (.op .sub (.var 2) (.var 4)), (.bi .tup1 [(.comp [8] [8] false 0 [(.var 6)] [] (.bi .tup1 [(.comp [9] [9] false 0 [(.var 6)] [] (.ix (.ix (.ix (.var 1) (.cint 2)) (.var 8)) (.var 9)))]))])]),
         .set (.var 5) (.call f_law_add [(.var 0), (.var 5), (.call f_law_determinant [(.var 0), (.var 7)])])],
      .app (.var 3) (.call f_law_multiply [(.var 0), (.call f_law_number [(.var 0), (.op .sub (.cint 1) (.op .mul (.cint 2) (.op .mod (.bi .int1 [(.op .sub (.var 2) (.var 4))]) (.cint 2))))]), (.var 5)])],
   .ret (.bi .tup1 [(.var 3)])], "_law_by_minors", [], false⟩
def d_law_choices : Df := ⟨"_law_choices", ["_law_n", "_law_k"], ["_law_n", "_law_k", "_law_found", "_law_j", "_law_one"],
  [.set (.var 2) (.lst [(.lst [])]),
   .for_ (.var 3) 1 [(.var 0)]
     [.set (.var 2) (.op .add (.var 2) (.comp [4] [4] false 0 [(.var 2)] [(.cmp .lt (.bi .len [(.var 4)]) (.var 1))] (.op .add (.var 4) (.lst [(.var 3)]))))],
   .ret (.comp [4] [4] false 0 [(.var 2)] [(.cmp .eq (.bi .len [(.var 4)]) (.var 1))] (.var 4))], "_law_choices", [], false⟩
def d_law_whole : Df := ⟨"_law_whole", ["_law_x"], ["_law_x"],
  [.ret (.and (.bi (.isi .int) [(.var 0)]) (.not (.bi (.isi .bool) [(.var 0)])))], "_law_whole", [], false⟩
def d_law_exact : Df := ⟨"_law_exact", ["_law_value"], ["_law_value", "_law_part_here"],
  [.ifs (.bi (.isi .tuple) [(.var 0)])
     [.ret (.bi .all [(.comp [1] [1] false 0 [(.var 0)] [] (.call f_law_exact [(.var 1)]))])]
     [],
   .ret (.or (.cmp .isn (.var 0) .cnon) (.or (.bi (.isi .str) [(.var 0)]) (.call f_law_whole [(.var 0)])))], "_law_exact", [], false⟩
def d_law_wide : Df := ⟨"_law_wide", ["_law_c", "_law_a"], ["_law_c", "_law_a", "_law_rows", "_law_row", "_law_x"],
  [.ifs (.cmp .ne (.call f_law_take [(.var 0), (.cint 3)]) (.cint 0))
     [.ret (.var 1)]
     [],
   .set (.var 2) (.lst []),
   .for_ (.var 3) 0 [(.ix (.var 1) (.cint 2))]
     [.app (.var 2) (.bi .tup1 [(.comp [4] [4] false 0 [(.var 3)] [] (.op .mul (.op .mul (.var 4) (.op .add (.cint 1) (.call f_law_take [(.var 0), (.op .pow (.cint 10) (.cint 18))]))) (.op .add (.cint 1) (.call f_law_take [(.var 0), (.op .pow (.cint 10) (.cint 15))]))))])],
   .ret (.tup [(.ix (.var 1) (.cint 0)), (.ix (.var 1) (.cint 1)), (.bi .tup1 [(.var 2)])])], "_law_wide", [], false⟩
def d_law : Df := ⟨"law", ["_law_script"], ["_law_script", "_law_c", "_law_n", "_law_a", "_law_told", "_law_bound", "_law_x"],
  [.set (.var 1) (.call f_law_start [(.var 0)]),
   .set (.var 2) (.call f_law_take [(.var 1), (.cint 5)]),
   .set (.var 3) (.call f_law_wide [(.var 1), (.call f_law_low [(.var 1), (.var 2), (.var 2)])]),
   .set (.var 4) (.call f_characteristic_by_primes [(.var 3)]),
   .set (.var 5) (.call f_coefficient_bound [(.var 3)]),
   .ret (.and (.call f_law_exact [(.var 4)]) (.and (.cmp .eq (.var 4) (.call f_law_by_minors [(.tup [(.cstr "Z")]), (.var 3)])) (.bi .all [(.comp [6] [6] false 0 [(.var 4)] [] (.cmp .le (.bi .abs [(.var 6)]) (.var 5)))])))], "law", [], false⟩
abbrev xc_ShapeError : Nat := 1
def G : List Df := [d_common, d_divisor, d_combine, d_is_prime, d_next_prime, d_fraction, d_root, d_symmetric, d_is_integer, d_is_domain, d_is_field, d_need_field, d_zero, d_one, d_from_integer, d_trimmed, d_add, d_negate, d_subtract, d_multiply, d_inverse, d_quotient, d_need_shape, d_need_square, d_may_change, d_changed, d_change, d_hessenberg, d_exchange, d_clear_entry, d_characteristic, d_row_square, d_coefficient_bound, d_primes_for, d_characteristic_by_primes, d_law_start, d_law_fill, d_law_take, d_law_common, d_law_fraction, d_law_zero, d_law_strip, d_law_number, d_law_part, d_law_add, d_law_multiply, d_law_small, d_law_matrix, d_law_dot, d_law_column, d_law_product, d_law_low, d_law_orders, d_law_sign, d_law_determinant, d_law_by_minors, d_law_choices, d_law_whole, d_law_exact, d_law_wide, d_law]
def sts : List Stmt := [topS 6, topS 7, topS 8, topS 9, topS 10, topS 11, topS 12, topS 13, topS 16, topS 17, topS 18, topS 19, topS 20, topS 21, topS 22, topS 23, topS 24, topS 25, topS 26, topS 27, topS 28, topS 29, topS 31, topS 32, topS 33, topS 34, topS 35, topS 37, topS 38, topS 39, topS 40, topS 43, topS 44, topS 45, topS 46, topS 48, topS 49, topS 50, topS 52, topS 53, topS 54, topS 55, topS 56, topS 57, topS 58, topS 59, topS 68, topS 69, topS 70, topS 71, topS 72, topS 74, topS 76, topS 77, topS 78, topS 79, topS 80, topS 81, topS 85, topS 86, topS 87]
abbrev GL : List (Str × GV) := [("FIRST", .int 32768), ("MOST_PRIME", .int 65521)]
abbrev XS : List Str := ["DomainError", "ShapeError", "SingularError"]
theorem dc_0 : Dc FN GL XS KL ML d_common (topS 6) := ⟨⟨rfl, rfl, rfl, by decide +kernel, rfl, by decide +kernel, by decide +kernel⟩, by kernel_rfl⟩
theorem dc_1 : Dc FN GL XS KL ML d_divisor (topS 7) := ⟨⟨rfl, rfl, rfl, by decide +kernel, rfl, by decide +kernel, by decide +kernel⟩, by kernel_rfl⟩
theorem dc_2 : Dc FN GL XS KL ML d_combine (topS 8) := ⟨⟨rfl, rfl, rfl, by decide +kernel, rfl, by decide +kernel, by decide +kernel⟩, by kernel_rfl⟩
theorem dc_3 : Dc FN GL XS KL ML d_is_prime (topS 9) := ⟨⟨rfl, rfl, rfl, by decide +kernel, rfl, by decide +kernel, by decide +kernel⟩, by kernel_rfl⟩
theorem dc_4 : Dc FN GL XS KL ML d_next_prime (topS 10) := ⟨⟨rfl, rfl, rfl, by decide +kernel, rfl, by decide +kernel, by decide +kernel⟩, by kernel_rfl⟩
theorem dc_5 : Dc FN GL XS KL ML d_fraction (topS 11) := ⟨⟨rfl, rfl, rfl, by decide +kernel, rfl, by decide +kernel, by decide +kernel⟩, by kernel_rfl⟩
theorem dc_6 : Dc FN GL XS KL ML d_root (topS 12) := ⟨⟨rfl, rfl, rfl, by decide +kernel, rfl, by decide +kernel, by decide +kernel⟩, by kernel_rfl⟩
theorem dc_7 : Dc FN GL XS KL ML d_symmetric (topS 13) := ⟨⟨rfl, rfl, rfl, by decide +kernel, rfl, by decide +kernel, by decide +kernel⟩, by kernel_rfl⟩
theorem dc_8 : Dc FN GL XS KL ML d_is_integer (topS 16) := ⟨⟨rfl, rfl, rfl, by decide +kernel, rfl, by decide +kernel, by decide +kernel⟩, by kernel_rfl⟩
theorem dc_9 : Dc FN GL XS KL ML d_is_domain (topS 17) := ⟨⟨rfl, rfl, rfl, by decide +kernel, rfl, by decide +kernel, by decide +kernel⟩, by kernel_rfl⟩
theorem dc_10 : Dc FN GL XS KL ML d_is_field (topS 18) := ⟨⟨rfl, rfl, rfl, by decide +kernel, rfl, by decide +kernel, by decide +kernel⟩, by kernel_rfl⟩
theorem dc_11 : Dc FN GL XS KL ML d_need_field (topS 19) := ⟨⟨rfl, rfl, rfl, by decide +kernel, rfl, by decide +kernel, by decide +kernel⟩, by kernel_rfl⟩
theorem dc_12 : Dc FN GL XS KL ML d_zero (topS 20) := ⟨⟨rfl, rfl, rfl, by decide +kernel, rfl, by decide +kernel, by decide +kernel⟩, by kernel_rfl⟩
theorem dc_13 : Dc FN GL XS KL ML d_one (topS 21) := ⟨⟨rfl, rfl, rfl, by decide +kernel, rfl, by decide +kernel, by decide +kernel⟩, by kernel_rfl⟩
theorem dc_14 : Dc FN GL XS KL ML d_from_integer (topS 22) := ⟨⟨rfl, rfl, rfl, by decide +kernel, rfl, by decide +kernel, by decide +kernel⟩, by kernel_rfl⟩
theorem dc_15 : Dc FN GL XS KL ML d_trimmed (topS 23) := ⟨⟨rfl, rfl, rfl, by decide +kernel, rfl, by decide +kernel, by decide +kernel⟩, by kernel_rfl⟩
theorem dc_16 : Dc FN GL XS KL ML d_add (topS 24) := ⟨⟨rfl, rfl, rfl, by decide +kernel, rfl, by decide +kernel, by decide +kernel⟩, by kernel_rfl⟩
theorem dc_17 : Dc FN GL XS KL ML d_negate (topS 25) := ⟨⟨rfl, rfl, rfl, by decide +kernel, rfl, by decide +kernel, by decide +kernel⟩, by kernel_rfl⟩
theorem dc_18 : Dc FN GL XS KL ML d_subtract (topS 26) := ⟨⟨rfl, rfl, rfl, by decide +kernel, rfl, by decide +kernel, by decide +kernel⟩, by kernel_rfl⟩
theorem dc_19 : Dc FN GL XS KL ML d_multiply (topS 27) := ⟨⟨rfl, rfl, rfl, by decide +kernel, rfl, by decide +kernel, by decide +kernel⟩, by kernel_rfl⟩
theorem dc_20 : Dc FN GL XS KL ML d_inverse (topS 28) := ⟨⟨rfl, rfl, rfl, by decide +kernel, rfl, by decide +kernel, by decide +kernel⟩, by kernel_rfl⟩
theorem dc_21 : Dc FN GL XS KL ML d_quotient (topS 29) := ⟨⟨rfl, rfl, rfl, by decide +kernel, rfl, by decide +kernel, by decide +kernel⟩, by kernel_rfl⟩
theorem dc_22 : Dc FN GL XS KL ML d_need_shape (topS 31) := ⟨⟨rfl, rfl, rfl, by decide +kernel, rfl, by decide +kernel, by decide +kernel⟩, by kernel_rfl⟩
theorem dc_23 : Dc FN GL XS KL ML d_need_square (topS 32) := ⟨⟨rfl, rfl, rfl, by decide +kernel, rfl, by decide +kernel, by decide +kernel⟩, by kernel_rfl⟩
theorem dc_24 : Dc FN GL XS KL ML d_may_change (topS 33) := ⟨⟨rfl, rfl, rfl, by decide +kernel, rfl, by decide +kernel, by decide +kernel⟩, by kernel_rfl⟩
theorem dc_25 : Dc FN GL XS KL ML d_changed (topS 34) := ⟨⟨rfl, rfl, rfl, by decide +kernel, rfl, by decide +kernel, by decide +kernel⟩, by kernel_rfl⟩
theorem dc_26 : Dc FN GL XS KL ML d_change (topS 35) := ⟨⟨rfl, rfl, rfl, by decide +kernel, rfl, by decide +kernel, by decide +kernel⟩, by kernel_rfl⟩
theorem dc_27 : Dc FN GL XS KL ML d_hessenberg (topS 37) := ⟨⟨rfl, rfl, rfl, by decide +kernel, rfl, by decide +kernel, by decide +kernel⟩, by kernel_rfl⟩
theorem dc_28 : Dc FN GL XS KL ML d_exchange (topS 38) := ⟨⟨rfl, rfl, rfl, by decide +kernel, rfl, by decide +kernel, by decide +kernel⟩, by kernel_rfl⟩
theorem dc_29 : Dc FN GL XS KL ML d_clear_entry (topS 39) := ⟨⟨rfl, rfl, rfl, by decide +kernel, rfl, by decide +kernel, by decide +kernel⟩, by kernel_rfl⟩
theorem dc_30 : Dc FN GL XS KL ML d_characteristic (topS 40) := ⟨⟨rfl, rfl, rfl, by decide +kernel, rfl, by decide +kernel, by decide +kernel⟩, by kernel_rfl⟩
theorem dc_31 : Dc FN GL XS KL ML d_row_square (topS 43) := ⟨⟨rfl, rfl, rfl, by decide +kernel, rfl, by decide +kernel, by decide +kernel⟩, by kernel_rfl⟩
theorem dc_32 : Dc FN GL XS KL ML d_coefficient_bound (topS 44) := ⟨⟨rfl, rfl, rfl, by decide +kernel, rfl, by decide +kernel, by decide +kernel⟩, by kernel_rfl⟩
theorem dc_33 : Dc FN GL XS KL ML d_primes_for (topS 45) := ⟨⟨rfl, rfl, rfl, by decide +kernel, rfl, by decide +kernel, by decide +kernel⟩, by kernel_rfl⟩
theorem dc_34 : Dc FN GL XS KL ML d_characteristic_by_primes (topS 46) := ⟨⟨rfl, rfl, rfl, by decide +kernel, rfl, by decide +kernel, by decide +kernel⟩, by kernel_rfl⟩
theorem dc_35 : Dc FN GL XS KL ML d_law_start (topS 48) := ⟨⟨rfl, rfl, rfl, by decide +kernel, rfl, by decide +kernel, by decide +kernel⟩, by kernel_rfl⟩
theorem dc_36 : Dc FN GL XS KL ML d_law_fill (topS 49) := ⟨⟨rfl, rfl, rfl, by decide +kernel, rfl, by decide +kernel, by decide +kernel⟩, by kernel_rfl⟩
theorem dc_37 : Dc FN GL XS KL ML d_law_take (topS 50) := ⟨⟨rfl, rfl, rfl, by decide +kernel, rfl, by decide +kernel, by decide +kernel⟩, by kernel_rfl⟩
theorem dc_38 : Dc FN GL XS KL ML d_law_common (topS 52) := ⟨⟨rfl, rfl, rfl, by decide +kernel, rfl, by decide +kernel, by decide +kernel⟩, by kernel_rfl⟩
theorem dc_39 : Dc FN GL XS KL ML d_law_fraction (topS 53) := ⟨⟨rfl, rfl, rfl, by decide +kernel, rfl, by decide +kernel, by decide +kernel⟩, by kernel_rfl⟩
theorem dc_40 : Dc FN GL XS KL ML d_law_zero (topS 54) := ⟨⟨rfl, rfl, rfl, by decide +kernel, rfl, by decide +kernel, by decide +kernel⟩, by kernel_rfl⟩
theorem dc_41 : Dc FN GL XS KL ML d_law_strip (topS 55) := ⟨⟨rfl, rfl, rfl, by decide +kernel, rfl, by decide +kernel, by decide +kernel⟩, by kernel_rfl⟩
theorem dc_42 : Dc FN GL XS KL ML d_law_number (topS 56) := ⟨⟨rfl, rfl, rfl, by decide +kernel, rfl, by decide +kernel, by decide +kernel⟩, by kernel_rfl⟩
theorem dc_43 : Dc FN GL XS KL ML d_law_part (topS 57) := ⟨⟨rfl, rfl, rfl, by decide +kernel, rfl, by decide +kernel, by decide +kernel⟩, by kernel_rfl⟩
theorem dc_44 : Dc FN GL XS KL ML d_law_add (topS 58) := ⟨⟨rfl, rfl, rfl, by decide +kernel, rfl, by decide +kernel, by decide +kernel⟩, by kernel_rfl⟩
theorem dc_45 : Dc FN GL XS KL ML d_law_multiply (topS 59) := ⟨⟨rfl, rfl, rfl, by decide +kernel, rfl, by decide +kernel, by decide +kernel⟩, by kernel_rfl⟩
theorem dc_46 : Dc FN GL XS KL ML d_law_small (topS 68) := ⟨⟨rfl, rfl, rfl, by decide +kernel, rfl, by decide +kernel, by decide +kernel⟩, by kernel_rfl⟩
theorem dc_47 : Dc FN GL XS KL ML d_law_matrix (topS 69) := ⟨⟨rfl, rfl, rfl, by decide +kernel, rfl, by decide +kernel, by decide +kernel⟩, by kernel_rfl⟩
theorem dc_48 : Dc FN GL XS KL ML d_law_dot (topS 70) := ⟨⟨rfl, rfl, rfl, by decide +kernel, rfl, by decide +kernel, by decide +kernel⟩, by kernel_rfl⟩
theorem dc_49 : Dc FN GL XS KL ML d_law_column (topS 71) := ⟨⟨rfl, rfl, rfl, by decide +kernel, rfl, by decide +kernel, by decide +kernel⟩, by kernel_rfl⟩
theorem dc_50 : Dc FN GL XS KL ML d_law_product (topS 72) := ⟨⟨rfl, rfl, rfl, by decide +kernel, rfl, by decide +kernel, by decide +kernel⟩, by kernel_rfl⟩
theorem dc_51 : Dc FN GL XS KL ML d_law_low (topS 74) := ⟨⟨rfl, rfl, rfl, by decide +kernel, rfl, by decide +kernel, by decide +kernel⟩, by kernel_rfl⟩
theorem dc_52 : Dc FN GL XS KL ML d_law_orders (topS 76) := ⟨⟨rfl, rfl, rfl, by decide +kernel, rfl, by decide +kernel, by decide +kernel⟩, by kernel_rfl⟩
theorem dc_53 : Dc FN GL XS KL ML d_law_sign (topS 77) := ⟨⟨rfl, rfl, rfl, by decide +kernel, rfl, by decide +kernel, by decide +kernel⟩, by kernel_rfl⟩
theorem dc_54 : Dc FN GL XS KL ML d_law_determinant (topS 78) := ⟨⟨rfl, rfl, rfl, by decide +kernel, rfl, by decide +kernel, by decide +kernel⟩, by kernel_rfl⟩
theorem dc_55 : Dc FN GL XS KL ML d_law_by_minors (topS 79) := ⟨⟨rfl, rfl, rfl, by decide +kernel, rfl, by decide +kernel, by decide +kernel⟩, by kernel_rfl⟩
theorem dc_56 : Dc FN GL XS KL ML d_law_choices (topS 80) := ⟨⟨rfl, rfl, rfl, by decide +kernel, rfl, by decide +kernel, by decide +kernel⟩, by kernel_rfl⟩
theorem dc_57 : Dc FN GL XS KL ML d_law_whole (topS 81) := ⟨⟨rfl, rfl, rfl, by decide +kernel, rfl, by decide +kernel, by decide +kernel⟩, by kernel_rfl⟩
theorem dc_58 : Dc FN GL XS KL ML d_law_exact (topS 85) := ⟨⟨rfl, rfl, rfl, by decide +kernel, rfl, by decide +kernel, by decide +kernel⟩, by kernel_rfl⟩
theorem dc_59 : Dc FN GL XS KL ML d_law_wide (topS 86) := ⟨⟨rfl, rfl, rfl, by decide +kernel, rfl, by decide +kernel, by decide +kernel⟩, by kernel_rfl⟩
theorem dc_60 : Dc FN GL XS KL ML d_law (topS 87) := ⟨⟨rfl, rfl, rfl, by decide +kernel, rfl, by decide +kernel, by decide +kernel⟩, by kernel_rfl⟩
theorem g_60 : G[60]? = some d_law := rfl
end Lw

namespace Lw
abbrev KK : Nat := 40
open Ek PySem
local macro_rules
  | `(tactic| dsimp! only [$ls,*]) => `(tactic| try simp only [wpB_nil, wpS_for, wpS_whl, wpS_set, wpS_par2, wpS_par3, wpS_aug, wpS_ifs, wpS_ret, wpS_retn, wpS_exp, wpS_app, wpS_pass, wpS_brk, wpS_cnt, wpS_raise, wpS_fset, wpS_faug, wpS_try, asg_var, asg_tup, asg_sub, asgs_nn, asgs_cc, wpE_var, wpE_cint, wpE_cstr, wpE_cbl, wpE_cnon, wpE_op, wpE_neg, wpE_cmp, wpE_chn, wpE_and, wpE_or, wpE_not, wpE_ife, wpE_tup, wpE_lst, wpE_ix, wpE_sl, wpE_rev, wpE_ctup, wpE_idx, wpE_call, wpE_cfn, wpE_callv, wpE_bi, wpE_fld, wpE_make, wpE_meth, wpE_comp, wpT_and, wpT_or, wpT_not, wpT_var, wpT_cint, wpT_cstr, wpT_cbl, wpT_cnon, wpT_op, wpT_neg, wpT_cmp, wpT_chn, wpT_ife, wpT_tup, wpT_lst, wpT_ix, wpT_sl, wpT_rev, wpT_ctup, wpT_idx, wpT_call, wpT_cfn, wpT_callv, wpT_bi, wpT_fld, wpT_make, wpT_meth, wpT_comp, wpEs_nil, wpEs_cons, wpTs_nil, wpTs_cons, addU_ii, addU_ss, addU_tt, addU_rr, mulU_ii, mulU_ri, mulU_ti, ari_ii, negU_i, cmI_ii, eqU_ii, eqU_ss, eqU_rr, eqU_non, eqU_bl, eqU_tup, eqU_int_non, eqU_int_bl, eqU_int_tup, eqU_int_str, eqU_str_non, eqU_str_bl, eqU_str_tup, eqU_str_int, truU_non, truU_bl, truU_int, truU_str, truU_tup, truU_ref, truU_fz, isN_non, isN_bl, isN_int, isN_str, isN_tup, isN_ref, isN_fz, isP_non, isP_bl, isP_int, isP_str, isP_tup, isP_ref, ixU_ti, ixU_fi, ixU_ri, slU_t, slU_f, slU_r, revU_t, revU_r, isT_int_non, isT_int_bl, isT_int_int, isT_int_str, isT_int_tup, isT_int_ref, isT_bool_non, isT_bool_bl, isT_bool_int, isT_bool_str, isT_bool_tup, isT_bool_ref, isT_str_non, isT_str_bl, isT_str_int, isT_str_str, isT_str_tup, isT_str_ref, isT_tuple_non, isT_tuple_bl, isT_tuple_int, isT_tuple_str, isT_tuple_tup, isT_tuple_ref, isT_list_non, isT_list_bl, isT_list_int, isT_list_str, isT_list_tup, isT_list_ref, lenU_t, lenU_f, lenU_r, lenU_s, itemsU_t, itemsU_f, itemsU_r, biU_abs, biU_len, biU_min2, biU_max2, biU_int1, biU_int1b, biU_tup1, biU_lst1, biU_all, biU_any, biU_anyT, biU_sum, biU_isi, srcU_t, srcU_f, srcU_r, srcU_1, srcU_2, srcU_3, srcU_et, srcU_er, setU_ri, appU_r, augU_a, augU_s, bindU_one, bindU_tup, opU_add, opU_mul, opU_sub, opU_fdiv, opU_mod, opU_pow, opU_shl, cmU_lt, cmU_le, cmU_gt, cmU_ge, cmU_eq, cmU_ne, cmU_isn, cmU_notn, biU_bits, memU_t, memU_r, memU_s, cmU_mem, cmU_nomem, isU_n, isU_b, biU_lrange, biU_max1, biU_sort1, biU_min1, idxU_ri, cp10_3, cp10_4, cp10_5, cp10_6, cp10_9, cp10_12, cp10_15, cp10_18, cp10_19, cp10_20, cp10_30, cp10_40, cp10_43, cp10_45, cp2_31, cp2_32, cp2_64, sZQ, sZF, sZP, sQZ, sQF, sQP, sFZ, sFQ, sFP, sPZ, sPQ, sPF, sA1, sA2, not_true_eq_false, natLit, gA2, gB2, gA3, gB3, gC3, List.getElem?_concat_length, Int.reduceToNat, Int.reducePow, Int.reduceSub, Int.reduceNeg, Int.reduceAdd, Int.reduceMul, ne_eq, not_false_eq_true, Int.reduceEq, Int.reduceNe, List.map_cons, List.map_nil, List.cons_append, List.nil_append, List.append_nil, List.length_cons, List.length_nil, List.replicate_zero, List.replicate_succ, List.getElem?_cons_succ, List.getElem?_cons_zero, List.set_cons_succ, List.set_cons_zero, Option.some.injEq, exists_eq', exists_eq_left', exists_eq_left, exists_eq_right_right, exists_and_left, exists_and_right, true_and, and_true, Nat.reduceAdd, Nat.reduceSub, Nat.zero_add, Bool.false_xor, Bool.true_xor, Bool.not_eq_true', Bool.not_true, Bool.not_false, decide_eq_true_eq, decide_eq_false_iff_not, Bool.not_eq_eq_eq_not, if_true, if_false, ite_true, ite_false, reduceIte, reduceCtorEq, Ob.items, Ob.lst.injEq, U.int.injEq, U.bl.injEq, U.tup.injEq, U.ref.injEq, U.obj.injEq, fldU_o, fsetU_o, isN_obj, List.cons.injEq, at0, at1, at2, at3, at4, at5, at6, at7, at8, at9, ix0, ix1, ix2, ix3, ix4, ix5, Bool.false_eq_true, Int.sub_zero, Option.map_some, wipeU, List.length_map, and_self, exists_const, List.length_append, Bool.not_not, $ls,*])

section
open Ek PySem
variable {Q : UQ} {E : Nat → Sto → Prop} {k : Nat} {S : Sto}
theorem gcd_mod {x y : Int} (hx : 0 ≤ x) (hy : 0 < y) : Nat.gcd y.natAbs (x.fmod y).natAbs = Nat.gcd x.natAbs y.natAbs := by
  have e : (x.fmod y).natAbs = x.natAbs % y.natAbs := by
    rw [Int.fmod_eq_emod_of_nonneg _ (by omega)]
    obtain ⟨a, rfl⟩ := Int.eq_ofNat_of_zero_le hx
    obtain ⟨b, rfl⟩ := Int.eq_ofNat_of_zero_le (show 0 ≤ y by omega)
    rw [← Int.natCast_emod]; rfl
  rw [e, Nat.gcd_comm y.natAbs, ← Nat.gcd_rec, Nat.gcd_comm]
theorem divisor_spec {a b : Int} (h : Q (.int (Int.gcd a b : Nat)) S) : wpC G (k + 1) f_divisor [.int a, .int b] S Q E := by
  refine ente (d := d_divisor) 0 rfl rfl rfl (B_cons ?_)
  dsimp! only [natAbs_ite]
  refine B_cons ?_
  dsimp! only [natAbs_ite]
  refine B_cons ?_
  dsimp! only []
  refine wh_rule (fun f σ' S' => S' = S ∧ ∃ x y, 0 ≤ x ∧ 0 ≤ y ∧ y.natAbs = f ∧ Nat.gcd x.natAbs y.natAbs = Int.gcd a b ∧ σ' = [some (.int x), some (.int y)]) ?_ ⟨rfl, a.natAbs, b.natAbs, by omega, by omega, rfl, rfl, rfl⟩
  rintro f σ' S' K ⟨rfl, x, y, hx, hy, rfl, hg, rfl⟩ hK
  dsimp! only []
  refine ite_rule (fun h1 => B_cons ?_) (fun h1 => B_cons ?_)
  · dsimp! only []
    have l0 := fmod_nn (a := x) (b := y) (by omega)
    have l1 := fmod_lt (a := x) (b := y) (by omega)
    exact ⟨h1, hK _ _ _ (by omega) ⟨rfl, y, x.fmod y, hy, l0, rfl, by rw [gcd_mod hx (by omega)]; exact hg, rfl⟩⟩
  · dsimp! only []
    have : y = 0 := by omega
    subst this
    rw [show Nat.gcd x.natAbs (0 : Int).natAbs = x.natAbs from Nat.gcd_zero_right _] at hg
    refine fin_id ?_
    rw [← hg] at h
    rw [show x = ((x.natAbs : Nat) : Int) by omega]
    exact h
end

section
open Ek PySem
variable {Q : UQ} {E : Nat → Sto → Prop} {k : Nat} {S : Sto}
theorem fraction_spec {n m : Int} (h0 : m ≠ 0) (hl : (sgc n m).natAbs.log2 < 9000) (h : Q (.tup [.int (Rat.divInt n m).num, .int (Rat.divInt n m).den]) S) : wpC G (k + 2) f_fraction [.int n, .int m] S Q E := by
  obtain ⟨e1, e2⟩ := frac_rat (n := n) h0
  rw [← e1, ← e2] at h
  refine ente (d := d_fraction) 1 rfl rfl rfl (B_cons ?_)
  dsimp! only []
  refine divisor_spec (B_seq (fun σ' S' => S' = S ∧ σ' = [some (.int n), some (.int m), some (.int (sgc n m))]) (fun N hN => ?_) ?_)
  · dsimp! only []
    refine ite_rule (fun h1 => B_cons ?_) (fun h1 => hN _ _ ⟨rfl, by rw [sgc, if_neg h1]⟩)
    dsimp! only []
    exact hN _ _ ⟨rfl, by rw [sgc, if_pos h1]⟩
  · rintro σ S' ⟨rfl, rfl⟩
    refine B_cons ?_
    dsimp! only []
    exact ⟨⟨sgc_ne h0, hl⟩, ⟨sgc_ne h0, hl⟩, fin_id h⟩
theorem zero_spec {K : Fl} (h : Q (K.c 0) S) : wpC G (k + 1) f_zero [K.u] S Q E := by
  cases K with
  | q =>
    have h : Q (.tup [.int 0, .int 1]) S := h
    show wpC G (k + 1) f_zero [.tup [.str "Q"]] S Q E
    refine ente (d := d_zero) 0 rfl rfl rfl (B_cons ?_)
    dsimp! only []
    refine B_cons ?_
    dsimp! only []
    exact fin_id h
  | f n =>
    have h : Q (.int 0) S := h
    show wpC G (k + 1) f_zero [.tup [.str "F", .int ((n + 2 : Nat) : Int)]] S Q E
    refine ente (d := d_zero) 0 rfl rfl rfl (B_cons ?_)
    dsimp! only []
    refine B_cons ?_
    dsimp! only []
    exact fin_id h
theorem add_spec {K : Fl} {s t : Sz} {x y : K.T} (hs : s.Ok) (ht : t.Ok) (hx : K.bd s x) (hy : K.bd t y) (h : Q (K.c (x + y)) S) : wpC G (k + 3) f_add [K.u, K.c x, K.c y] S Q E := by
  cases K with
  | q =>
    revert x y
    intro (x : Rat) (y : Rat) hx hy h
    have hx : Rb s.D s.V x := hx
    have hy : Rb t.D t.V y := hy
    have h : Q (.tup [.int (x + y).num, .int (x + y).den]) S := h
    show wpC G (k + 3) f_add [.tup [.str "Q"], .tup [.int x.num, .int x.den], .tup [.int y.num, .int y.den]] S Q E
    refine ente (d := d_add) 4 rfl rfl rfl (B_cons ?_)
    dsimp! only []
    refine B_cons ?_
    dsimp! only []
    refine B_cons ?_
    dsimp! only []
    refine B_cons ?_
    dsimp! only []
    have hn := Int.mul_ne_zero (den_ne x) (den_ne y)
    refine ⟨mul_nd (hs.num hx) (ht.den hy), mul_nd (ht.num hy) (hs.den hx), mul_dd (hs.den hx) (ht.den hy), fraction_spec hn (sgc_dd hn (hs.den hx) (ht.den hy)) ?_⟩
    rw [divInt_add']
    exact fin_id h
  | f n =>
    revert x y
    intro (x : Fin (n + 2)) (y : Fin (n + 2)) hx hy h
    have h : Q (.int ((x + y).val : Nat)) S := h
    show wpC G (k + 3) f_add [.tup [.str "F", .int ((n + 2 : Nat) : Int)], .int (x.val : Nat), .int (y.val : Nat)] S Q E
    refine ente (d := d_add) 4 rfl rfl rfl (B_cons ?_)
    dsimp! only []
    refine B_cons ?_
    dsimp! only []
    refine B_cons ?_
    dsimp! only []
    refine ⟨by omega, ?_⟩
    rw [fin_add]
    exact fin_id h
theorem mul_spec {K : Fl} {s t : Sz} {x y : K.T} (hs : s.Ok) (ht : t.Ok) (hx : K.bd s x) (hy : K.bd t y) (h : Q (K.c (x * y)) S) : wpC G (k + 3) f_multiply [K.u, K.c x, K.c y] S Q E := by
  cases K with
  | q =>
    revert x y
    intro (x : Rat) (y : Rat) hx hy h
    have hx : Rb s.D s.V x := hx
    have hy : Rb t.D t.V y := hy
    have h : Q (.tup [.int (x * y).num, .int (x * y).den]) S := h
    show wpC G (k + 3) f_multiply [.tup [.str "Q"], .tup [.int x.num, .int x.den], .tup [.int y.num, .int y.den]] S Q E
    refine ente (d := d_multiply) 7 rfl rfl rfl (B_cons ?_)
    dsimp! only []
    refine B_cons ?_
    dsimp! only []
    refine B_cons ?_
    dsimp! only []
    refine B_cons ?_
    dsimp! only []
    have hn := Int.mul_ne_zero (den_ne x) (den_ne y)
    refine ⟨mul_nn (hs.num hx) (ht.num hy), mul_dd (hs.den hx) (ht.den hy), fraction_spec hn (sgc_dd hn (hs.den hx) (ht.den hy)) ?_⟩
    rw [divInt_mul']
    exact fin_id h
  | f n =>
    revert x y
    intro (x : Fin (n + 2)) (y : Fin (n + 2)) hx hy h
    have h : Q (.int ((x * y).val : Nat)) S := h
    show wpC G (k + 3) f_multiply [.tup [.str "F", .int ((n + 2 : Nat) : Int)], .int (x.val : Nat), .int (y.val : Nat)] S Q E
    refine ente (d := d_multiply) 7 rfl rfl rfl (B_cons ?_)
    dsimp! only []
    refine B_cons ?_
    dsimp! only []
    refine B_cons ?_
    dsimp! only []
    have hx : n < 2 ^ 60 := hx
    have x1 := x.isLt
    refine ⟨mulS (by omega), by omega, ?_⟩
    rw [fin_mul]
    exact fin_id h
theorem neg_spec {K : Fl} {x : K.T} (h : Q (K.c (-x)) S) : wpC G (k + 1) f_negate [K.u, K.c x] S Q E := by
  cases K with
  | q =>
    revert x
    intro (x : Rat) h
    have h : Q (.tup [.int (-x).num, .int (-x).den]) S := h
    rw [Rat.neg_num, Rat.neg_den] at h
    show wpC G (k + 1) f_negate [.tup [.str "Q"], .tup [.int x.num, .int x.den]] S Q E
    refine ente (d := d_negate) 1 rfl rfl rfl (B_cons ?_)
    dsimp! only []
    refine B_cons ?_
    dsimp! only []
    refine B_cons ?_
    dsimp! only []
    refine B_cons ?_
    dsimp! only []
    exact fin_id h
  | f n =>
    revert x
    intro (x : Fin (n + 2)) h
    have h : Q (.int ((-x).val : Nat)) S := h
    show wpC G (k + 1) f_negate [.tup [.str "F", .int ((n + 2 : Nat) : Int)], .int (x.val : Nat)] S Q E
    refine ente (d := d_negate) 1 rfl rfl rfl (B_cons ?_)
    dsimp! only []
    refine B_cons ?_
    dsimp! only []
    refine B_cons ?_
    dsimp! only []
    refine ⟨by omega, ?_⟩
    rw [fin_neg]
    exact fin_id h
theorem trimmed_spec {K : Fl} {h : Nat} {l : List K.T} (hS : S[h]? = some (.lst (l.map K.c))) (hl : l.length ≤ big) (hq : Q (K.pc (strip l)) S) : wpC G (k + 2) f_trimmed [K.u, .ref h] S Q E := by
  refine ente (d := d_trimmed) 1 rfl rfl rfl (B_cons ?_)
  dsimp! only [hS]
  refine B_seq (fun σ' S' => S' = S ∧ ∃ m : Nat, m ≤ l.length ∧ (∀ n, m ≤ n → co l n = 0) ∧ (m ≠ 0 → co l (m - 1) ≠ 0) ∧ σ' = [some K.u, some (.ref h), some (.int m)]) (fun N hN => ?_) ?_
  · dsimp! only []
    refine wh_rule (fun f σ' S' => S' = S ∧ ∃ m : Nat, m ≤ l.length ∧ (∀ n, m ≤ n → co l n = 0) ∧ f = m ∧ σ' = [some K.u, some (.ref h), some (.int m)]) ?_ ⟨rfl, l.length, Nat.le_refl _, fun n hn => co_ge hn, rfl, rfl⟩
    rintro m σ' S' K' ⟨rfl, _, h1, h2, rfl, rfl⟩ hK
    dsimp! only []
    refine ite_rule (fun h3 => ?_) (fun h3 => hN _ _ ⟨rfl, m, h1, h2, fun z => by omega, rfl⟩)
    have hm : m - 1 < l.length := by omega
    have e1 : (m : Int) - 1 = ((m - 1 : Nat) : Int) := by omega
    have ai := at_map (f := K.c) hm
    rw [e1]
    dsimp! only [hS, ai]
    refine zero_spec ?_
    dsimp! only [eqU_c]
    refine ite_rule (fun h4 => B_cons ?_) (fun h4 => hN _ _ ⟨rfl, m, h1, h2, fun _ => by rw [co_lt hm]; exact h4, rfl⟩)
    dsimp! only []
    refine hK (m - 1) _ _ (by omega) ⟨rfl, m - 1, by omega, fun n hn => ?_, rfl, by rw [e1]⟩
    rcases Nat.lt_or_ge n m with w | w
    · have : n = m - 1 := by omega
      subst this
      rw [co_lt hm]; exact h4
    · exact h2 n w
  · rintro σ S' ⟨rfl, m, h1, h2, h3, rfl⟩
    refine B_cons ?_
    dsimp! only [hS, cutB]
    have e : (List.take (HT.sIx l.length l.length (some (m : Int)) - 0) (List.drop 0 (List.map K.c l))) = (strip l).map K.c := by
      rw [show HT.sIx l.length l.length (some (m : Int)) = min m l.length from HT.sIx_nat _ _ m, Nat.min_eq_left h1, Nat.sub_zero, List.drop_zero, ← List.map_take, take_strip h1 h2 h3]
    rw [e]
    exact fin_keep pc_bnd hq
end

section
open Ek PySem
variable {Q : UQ} {E : Nat → Sto → Prop} {k : Nat} {S : Sto} {K : Fl}
def PB (K : Fl) (s : Sz) (l : List K.T) : Prop := ∀ n, n < l.length → K.bd s (co l n)
def pu (K : Fl) : U := .tup [.str "P", K.u]
theorem ix_c {l : List K.T} {n : Nat} (h : n < l.length) : atU (l.map K.c) (n : Int) = some (K.c (co l n)) := by
  rw [at_map h, co_lt h]
theorem co_set {l : List K.T} {j n : Nat} {a : K.T} (h : j < l.length) : co (l.set j a) n = if n = j then a else co l n := by
  by_cases e : n = j
  · subst e
    rw [if_pos rfl, co_lt (by simpa using h)]
    simp
  · rw [if_neg e]
    by_cases hn : n < l.length
    · rw [co_lt (by simpa using hn), co_lt hn, List.getElem_set_ne (by omega)]
    · rw [co_ge (by simp; omega), co_ge (by omega)]
theorem enum_cons {us : List U} {j : Nat} {x : U} {xs : List U} (h : x :: xs = enumU j us) : ∃ u r, us = u :: r ∧ x = .tup [.int j, u] ∧ xs = enumU (j + 1) r := by
  cases us with
  | nil => cases h
  | cons u r =>
    rw [enumU] at h
    cases h
    exact ⟨u, r, rfl, rfl, rfl⟩
theorem drop_c {y : List K.T} {j : Nat} {u : U} {r : List U} (h : (y.drop j).map K.c = u :: r) : ∃ hj : j < y.length, u = K.c (co y j) ∧ r = (y.drop (j + 1)).map K.c := by
  have hj : j < y.length := by
    rcases Nat.lt_or_ge j y.length with w | w
    · exact w
    · rw [List.drop_of_length_le w] at h; cases h
  refine ⟨hj, ?_⟩
  rw [List.drop_eq_getElem_cons hj, List.map_cons] at h
  cases h
  exact ⟨by rw [co_lt hj], rfl⟩
theorem addP_spec {D V W : Nat} {x y : List K.T} (hs : Sz.Ok ⟨D, V⟩) (ht : Sz.Ok ⟨D, W⟩) (hx : PB K ⟨D, V⟩ x) (hy : PB K ⟨D, W⟩ y) (hlx : x.length ≤ 10000) (hly : y.length ≤ 10000) (h : Q (K.pc (padd x y)) S) : wpC G (k + 4) f_add [pu K, K.pc x, K.pc y] S Q E := by
  refine ente (d := d_add) 4 rfl rfl rfl (B_cons ?_)
  dsimp! only [pu]
  refine B_cons ?_
  dsimp! only []
  refine B_cons ?_
  dsimp! only []
  refine B_cons ?_
  dsimp! only []
  refine B_seq (fun σ' S' => S' = S ∧ ∃ V W, ∃ x' y' : List K.T, Sz.Ok ⟨D, V⟩ ∧ Sz.Ok ⟨D, W⟩ ∧ PB K ⟨D, V⟩ x' ∧ PB K ⟨D, W⟩ y' ∧ y'.length ≤ x'.length ∧ x'.length ≤ 10000 ∧ (∀ n, co x' n + co y' n = co x n + co y n) ∧ σ' = [some (.tup [.str "P", K.u]), some (.tup (x'.map K.c)), some (.tup (y'.map K.c)), some K.u, none, none, none]) (fun N hN => ?_) ?_
  · dsimp! only [Fl.pc]
    refine ite_rule (fun h1 => B_cons ?_) (fun h1 => hN _ _ ⟨rfl, V, W, x, y, hs, ht, hx, hy, by omega, by omega, fun n => rfl, rfl⟩)
    dsimp! only []
    exact hN _ _ ⟨rfl, W, V, y, x, ht, hs, hy, hx, by omega, by omega, fun n => by grind, rfl⟩
  rintro σ S' ⟨rfl, V, W, x', y', hs, ht, hx, hy, hl, hl2, hc, rfl⟩
  refine B_cons ?_
  dsimp! only []
  refine B_seq (fun σ' T => ∃ l : List K.T, l.length ≤ 10000 ∧ (∀ n, co l n = co x n + co y n) ∧ T = S' ++ [.lst (l.map K.c)] ∧ ∃ a b c d e, σ' = [a, b, c, some K.u, some (.ref S'.length), d, e]) (fun N hN => ?_) ?_
  · dsimp! only []
    refine for_rule (fun xs σ' T => ∃ j, ∃ l : List K.T, j ≤ y'.length ∧ xs = enumU j ((y'.drop j).map K.c) ∧ l.length = x'.length ∧ (∀ n, co l n = if n < j then co x' n + co y' n else co x' n) ∧ T = S' ++ [.lst (l.map K.c)] ∧ ∃ d e, σ' = [some (.tup [.str "P", K.u]), some (.tup (x'.map K.c)), some (.tup (y'.map K.c)), some K.u, some (.ref S'.length), d, e]) ?_ ?_ ?_ _ _ _ ⟨0, x', by omega, rfl, rfl, fun n => by rw [if_neg (by omega)], rfl, _, _, rfl⟩
    · exact fun _ _ _ _ => trivial
    · rintro σ T ⟨j, l, hj, e, hl3, hco, rfl, a, b, rfl⟩
      have hj2 : y'.length ≤ j := by
        rcases Nat.lt_or_ge j y'.length with w | w
        · rw [List.drop_eq_getElem_cons w] at e; cases e
        · exact w
      refine hN _ _ ⟨l, by omega, fun n => ?_, rfl, _, _, _, _, _, rfl⟩
      rw [hco, ← hc]
      split
      · rfl
      · rw [co_ge (l := y') (by omega)]; grind
    · rintro u xs σ T K' ⟨j, l, hj, e, hl3, hco, rfl, a, b, rfl⟩ hK
      obtain ⟨v, r, e1, rfl, rfl⟩ := enum_cons e
      obtain ⟨hj2, rfl, rfl⟩ := drop_c e1
      dsimp! only []
      refine B_cons ?_
      dsimp! only [ix_c (show j < l.length by omega)]
      rw [hco, if_neg (by omega)]
      refine add_spec hs ht (hx j (by omega)) (hy j hj2) ?_
      dsimp! only [ixN_nat (show j < l.length by omega)]
      refine hK _ _ ⟨j + 1, l.set j (co x' j + co y' j), by omega, rfl, by rw [List.length_set]; exact hl3, fun n => ?_, by rw [List.map_set], _, _, rfl⟩
      rw [co_set (by omega), hco]
      by_cases e : n = j
      · subst e; rw [if_pos rfl, if_pos (by omega)]
      · rw [if_neg e]
        by_cases w : n < j
        · rw [if_pos w, if_pos (by omega)]
        · rw [if_neg w, if_neg (by omega)]
  · rintro σ T ⟨l, hl, hc2, rfl, a, b, c, d, e, rfl⟩
    refine B_cons ?_
    dsimp! only []
    refine trimmed_spec (l := l) (by simp) (Nat.le_trans hl (by decide)) ?_
    have e : strip l = padd x y := strip_nrm.ext padd_nrm fun n => by rw [co_strip, hc2, co_padd]
    rw [e]
    exact fin_keep pc_bnd h
theorem comp_neg {B : U → Sl → (Sl → Prop) → Prop} {F : Sl → Sto → UQ → Prop} {σ : Sl} {Qu : UQ} {x : List K.T} (hl : x.length ≤ 10000) (hs : ∀ (a : K.T) (K' : UQ), K' (K.c (-a)) S → B (K.c a) σ fun σ2 => F σ2 S K') (h : Qu (.ref S.length) (S ++ [.lst ((x.map fun a => -a).map K.c)])) :
    compU B (fun x0 S Q => Q true S) F σ none [] Qu (x.map K.c) [] S := by
  refine comp_rule (fun xs acc S' => S' = S ∧ ∃ j, j ≤ x.length ∧ xs = (x.drop j).map K.c ∧ acc = ((x.take j).map fun a => -a).map K.c) ?_ ?_ ?_ _ _ _ ⟨rfl, 0, by omega, rfl, rfl⟩
  · rintro xs acc S' ⟨rfl, j, hj, rfl, rfl⟩
    refine ⟨trivial, ?_⟩
    have : x.length ≤ big := Nat.le_trans hl (by decide)
    simp; omega
  · rintro acc S' ⟨rfl, j, hj, e, rfl⟩
    have : x.length ≤ j := by simpa using e.symm
    rw [List.take_of_length_le this]; exact h
  · rintro u xs acc S' K' ⟨rfl, j, hj, e, rfl⟩ hk
    obtain ⟨hj2, rfl, rfl⟩ := drop_c e.symm
    refine hs _ _ (hk _ _ ⟨rfl, j + 1, by omega, rfl, ?_⟩)
    rw [List.take_succ_eq_append_getElem hj2, co_lt hj2, List.map_append, List.map_append]
    rfl
theorem negP_spec {x : List K.T} (hlx : x.length ≤ 10000) (h : Q (K.pc (pneg x)) S) : wpC G (k + 2) f_negate [pu K, K.pc x] S Q E := by
  refine ente (d := d_negate) 1 rfl rfl rfl (B_cons ?_)
  dsimp! only [pu]
  refine B_cons ?_
  dsimp! only []
  refine B_cons ?_
  dsimp! only []
  refine B_cons ?_
  dsimp! only [Fl.pc]
  refine comp_neg hlx (fun a K' hk => ?_) ?_
  · dsimp! only []
    exact neg_spec hk
  · dsimp! only []
    exact fin_keep pc_bnd (by simpa [Fl.pc, pneg] using h)
theorem bd_zero {D V : Nat} (hK : K.bd ⟨D, V⟩ (1 : K.T) ∨ True) (hw : ∀ n, K = .f n → n < 2 ^ 60) : K.bd ⟨D, V⟩ (0 : K.T) := by
  cases K with
  | f n => exact hw n rfl
  | q => exact ⟨⟨D, by rw [show ((0 : Fl.q.T) : Rat).den = 1 from rfl]; simp⟩, by rw [show ((0 : Fl.q.T) : Rat).num = 0 from rfl]; simp⟩
theorem bd_wf {s : Sz} {a : K.T} (h : K.bd s a) : ∀ n, K = .f n → n < 2 ^ 60 := by
  rintro n rfl
  exact h
def psum (x y : List K.T) (i n : Nat) : K.T := ssum i fun m => if m ≤ n then co x m * co y (n - m) else 0
theorem psum_succ {x y : List K.T} {i n : Nat} : psum x y (i + 1) n = psum x y i n + (if i ≤ n then co x i * co y (n - i) else 0) := rfl
theorem psum_bd {D D' V W : Nat} {x y : List K.T} (hw : ∀ n, K = .f n → n < 2 ^ 60) (hx : ∀ n, K.bd ⟨D, V⟩ (co x n)) (hy : ∀ n, K.bd ⟨D', W⟩ (co y n)) (n : Nat) : ∀ i, K.bd ⟨D * D', i * (V * W)⟩ (psum x y i n)
  | 0 => by
    show K.bd _ (0 : K.T)
    exact bd_zero (.inr trivial) hw
  | i + 1 => by
    have h1 := psum_bd hw hx hy n i
    have h2 : K.bd ⟨D * D', V * W⟩ (if i ≤ n then co x i * co y (n - i) else 0) := by
      split
      · exact bd_mul (hx i) (hy (n - i))
      · exact bd_zero (.inr trivial) hw
    have := bd_add h1 h2
    rw [show (i + 1) * (V * W) = i * (V * W) + V * W by rw [Nat.add_mul, Nat.one_mul]]
    exact this
theorem PB.co {D V : Nat} {x : List K.T} (hw : ∀ n, K = .f n → n < 2 ^ 60) (h : PB K ⟨D, V⟩ x) (n : Nat) : K.bd ⟨D, V⟩ (Ek.co x n) := by
  by_cases hn : n < x.length
  · exact h n hn
  · rw [co_ge (by omega)]; exact bd_zero (.inr trivial) hw
theorem ok_mono {D V W : Nat} (h : Sz.Ok ⟨D, V⟩) (hV : W ≤ V) : Sz.Ok ⟨D, W⟩ := ⟨h.p, h.d, Nat.lt_of_le_of_lt hV h.v⟩
theorem range_const {a : K.T} : ∀ {n : Nat} {lo c : Int}, ((rangeU lo c n).map fun _ => K.c a) = (List.replicate n a).map K.c
  | 0, _, _ => rfl
  | n + 1, lo, c => by rw [rangeU, List.map_cons, range_const, List.replicate_succ, List.map_cons]
theorem mulP_spec {D D' V W M : Nat} {x y : List K.T} (hs : Sz.Ok ⟨D, V⟩) (ht : Sz.Ok ⟨D', W⟩) (hx : PB K ⟨D, V⟩ x) (hy : PB K ⟨D', W⟩ y) (hM : Sz.Ok ⟨D * D', x.length * (V * W)⟩) (hlx : x.length ≤ 5000) (hly : y.length ≤ 5000) (h : Q (K.pc (pmul x y)) S) : wpC G (k + 4) f_multiply [pu K, K.pc x, K.pc y] S Q E := by
  refine ente (d := d_multiply) 7 rfl rfl rfl (B_cons ?_)
  dsimp! only [pu]
  refine B_cons ?_
  dsimp! only []
  refine B_cons ?_
  dsimp! only []
  refine B_cons ?_
  dsimp! only [Fl.pc]
  have nil : ∀ {x y : List K.T}, (x.length = 0 ∨ y.length = 0) → pmul x y = [] := fun {x y} hz => by
    refine pmul_nrm.ext nrm_nil fun n => ?_
    rw [co_pmul, co_nil]
    refine ssum_zero fun i hi => ?_
    rcases hz with z | z
    · omega
    · split
      · rw [co_ge (l := y) (by omega)]; grind
      · rfl
  refine ite_rule (fun h1 => B_cons ?_) (fun h1 => ite_rule (fun h2 => B_cons ?_) (fun h2 => B_cons ?_))
  · dsimp! only []
    rw [nil (.inl (by omega))] at h
    exact fin_id h
  · dsimp! only []
    rw [nil (.inr (by omega))] at h
    exact fin_id h
  have hw := bd_wf (hx 0 (by omega))
  have hx' := hx.co hw
  have hy' := hy.co hw
  dsimp! only []
  refine B_cons ?_
  dsimp! only []
  refine ⟨⟨by omega, by omega⟩, ?_⟩
  refine comp_map (f := fun _ => K.c 0) trivial (by rw [range_len]; have : (10000 : Nat) ≤ big := by decide
                                                    omega) (fun u hu K' hk => ?_) ?_
  · dsimp! only []
    exact zero_spec hk
  rw [range_const]
  obtain ⟨N, hN⟩ : ∃ N, ((x.length : Int) + (y.length : Int) - 1).toNat = N := ⟨_, rfl⟩
  rw [hN]
  refine B_seq (fun σ' T => ∃ l : List K.T, l.length ≤ 10000 ∧ (∀ n, co l n = cv x y n) ∧ T = S ++ [.lst (l.map K.c)] ∧ ∃ a b c d e g i j, σ' = [a, b, c, some K.u, some (.ref S.length), d, e, g, i, j]) (fun N' hN' => ?_) ?_
  · dsimp! only []
    refine for_rule (fun xs σ' T => ∃ i, ∃ l : List K.T, i ≤ x.length ∧ xs = enumU i ((x.drop i).map K.c) ∧ l.length = N ∧ (∀ n, co l n = psum x y i n) ∧ T = S ++ [.lst (l.map K.c)] ∧ ∃ a b c d e, σ' = [some (.tup [.str "P", K.u]), some (.tup (x.map K.c)), some (.tup (y.map K.c)), some K.u, some (.ref S.length), a, b, c, d, e]) ?_ ?_ ?_ _ _ _ ⟨0, List.replicate N 0, by omega, rfl, by simp, fun n => ?_, rfl, _, _, _, _, _, rfl⟩
    · exact fun _ _ _ _ => trivial
    · rintro σ T ⟨i, l, hi, e, hl, hco, rfl, a, b, c, d, e2, rfl⟩
      have hi2 : x.length ≤ i := by
        rcases Nat.lt_or_ge i x.length with w | w
        · rw [List.drop_eq_getElem_cons w] at e; cases e
        · exact w
      have : i = x.length := by omega
      subst this
      exact hN' _ _ ⟨l, by omega, hco, rfl, _, _, _, _, _, _, _, _, rfl⟩
    · rintro u xs σ T K' ⟨i, l, hi, e, hl, hco, rfl, a, b, c, d, e2, rfl⟩ hK
      obtain ⟨v, r, e1, rfl, rfl⟩ := enum_cons e
      obtain ⟨hi2, rfl, rfl⟩ := drop_c e1
      dsimp! only []
      refine B_cons ?_
      dsimp! only []
      refine for_rule (fun xs σ' T => ∃ j, ∃ l : List K.T, j ≤ y.length ∧ xs = enumU j ((y.drop j).map K.c) ∧ l.length = N ∧ (∀ n, co l n = if i ≤ n ∧ n - i < j then psum x y (i + 1) n else psum x y i n) ∧ T = S ++ [.lst (l.map K.c)] ∧ ∃ a d e, σ' = [some (.tup [.str "P", K.u]), some (.tup (x.map K.c)), some (.tup (y.map K.c)), some K.u, some (.ref S.length), a, some (.int i), some (K.c (co x i)), d, e]) ?_ ?_ ?_ _ _ _ ⟨0, l, by omega, rfl, hl, fun n => by rw [if_neg (by omega)]; exact hco n, rfl, _, _, _, rfl⟩
      · exact fun _ _ _ _ => trivial
      · rintro σ T ⟨j, l, hj, e, hl, hco, rfl, a, b, c, rfl⟩
        have hj2 : y.length ≤ j := by
          rcases Nat.lt_or_ge j y.length with w | w
          · rw [List.drop_eq_getElem_cons w] at e; cases e
          · exact w
        refine hK _ _ ⟨i + 1, l, by omega, rfl, hl, fun n => ?_, rfl, _, _, _, _, _, rfl⟩
        rw [hco]
        split
        · rfl
        · rename_i hn
          rw [psum_succ]
          split
          · rw [co_ge (l := y) (by omega)]; grind
          · grind
      · rintro u xs σ T K' ⟨j, l, hj, e, hl, hco, rfl, a, b, c, rfl⟩ hK
        obtain ⟨v, r, e1, rfl, rfl⟩ := enum_cons e
        obtain ⟨hj2, rfl, rfl⟩ := drop_c e1
        have hij : i + j < l.length := by omega
        have e3 : (i : Int) + (j : Int) = ((i + j : Nat) : Int) := by omega
        dsimp! only []
        refine B_cons ?_
        dsimp! only [e3, ix_c hij]
        rw [hco, if_neg (by omega)]
        have m1 : V * W ≤ x.length * (V * W) := Nat.le_mul_of_pos_left _ (by omega)
        have m2 : i * (V * W) ≤ x.length * (V * W) := Nat.mul_le_mul_right _ (by omega)
        refine mul_spec hs ht (hx' i) (hy' j) (add_spec (ok_mono hM m2) (ok_mono hM m1) (psum_bd hw hx' hy' (i + j) i) (bd_mul (hx' i) (hy' j)) ?_)
        dsimp! only [e3, ixN_nat hij]
        refine hK _ _ ⟨j + 1, l.set (i + j) (psum x y i (i + j) + co x i * co y j), by omega, rfl, by rw [List.length_set]; exact hl, fun n => ?_, by rw [List.map_set], _, _, _, rfl⟩
        rw [co_set hij, hco]
        by_cases en : n = i + j
        · subst en
          rw [if_pos rfl, if_pos (by omega)]
          rw [psum_succ, if_pos (by omega), show i + j - i = j by omega]
        · rw [if_neg en]
          by_cases w : i ≤ n ∧ n - i < j
          · rw [if_pos w, if_pos (by omega)]
          · rw [if_neg w, if_neg (by omega)]
    · show co (List.replicate N (0 : K.T)) n = 0
      by_cases w : n < N
      · rw [co_lt (by simpa using w)]; simp
      · exact co_ge (by simp; omega)
  · rintro σ T ⟨l, hl, hc2, rfl, a, b, c, d, e, g, i, j, rfl⟩
    refine B_cons ?_
    dsimp! only []
    refine trimmed_spec (l := l) (by simp) (Nat.le_trans hl (by decide)) ?_
    have e : strip l = pmul x y := strip_nrm.ext pmul_nrm fun n => by rw [co_strip, hc2, co_pmul]
    rw [e]
    exact fin_keep pc_bnd h
end

section
open Ek PySem
variable {Q : UQ} {E : Nat → Sto → Prop} {k : Nat} {S : Sto}
end

section
open Ek PySem
variable {Q : UQ} {E : Nat → Sto → Prop} {k : Nat} {S : Sto} {K : Fl}
end

section
open Ek PySem
variable {Q : UQ} {E : Nat → Sto → Prop} {k : Nat} {S : Sto} {K : Fl}
theorem of_q (i : Int) : Fl.q.c (Fl.q.of i) = .tup [.int i, .int 1] := by
  show U.tup [.int ((i : Rat)).num, .int ((i : Rat)).den] = _
  rw [Rat.num_intCast, Rat.den_intCast]; rfl
theorem of_f (n : Nat) (i : Int) : (Fl.f n).c ((Fl.f n).of i) = .int (i.fmod ((n + 2 : Nat) : Int)) := by
  show U.int (((Fin.ofNat (n + 2) (i % ((n + 2 : Nat) : Int)).toNat : Fin (n + 2)).val : Nat) : Int) = _
  congr 1
  rw [Int.fmod_eq_emod_of_nonneg _ (by omega)]
  have h0 := Int.emod_nonneg i (show ((n + 2 : Nat) : Int) ≠ 0 by omega)
  have h1 := Int.emod_lt_of_pos i (show (0 : Int) < ((n + 2 : Nat) : Int) by omega)
  show (((i % ((n + 2 : Nat) : Int)).toNat % (n + 2) : Nat) : Int) = _
  rw [Nat.mod_eq_of_lt (by omega)]
  omega
theorem from_spec {i : Int} (h : Q (K.c (K.of i)) S) : wpC G (k + 1) f_from_integer [K.u, .int i] S Q E := by
  cases K with
  | q =>
    rw [of_q] at h
    show wpC G (k + 1) f_from_integer [.tup [.str "Q"], .int i] S Q E
    refine ente (d := d_from_integer) 0 rfl rfl rfl (B_cons ?_)
    dsimp! only []
    refine B_cons ?_
    dsimp! only []
    refine B_cons ?_
    dsimp! only []
    exact fin_id h
  | f n =>
    rw [of_f] at h
    show wpC G (k + 1) f_from_integer [.tup [.str "F", .int ((n + 2 : Nat) : Int)], .int i] S Q E
    refine ente (d := d_from_integer) 0 rfl rfl rfl (B_cons ?_)
    dsimp! only []
    refine B_cons ?_
    dsimp! only []
    refine B_cons ?_
    dsimp! only []
    refine B_cons ?_
    dsimp! only []
    exact ⟨by omega, fin_id h⟩
theorem one_ne : (1 : K.T) ≠ 0 := by
  cases K with
  | q => show (1 : Rat) ≠ 0; decide
  | f n =>
    intro h
    have : ((1 : Fin (n + 2)).val) = ((0 : Fin (n + 2)).val) := congrArg Fin.val h
    simp at this
theorem one_spec (h : Q (K.c 1) S) : wpC G (k + 1) f_one [K.u] S Q E := by
  cases K with
  | q =>
    have h : Q (.tup [.int 1, .int 1]) S := h
    show wpC G (k + 1) f_one [.tup [.str "Q"]] S Q E
    refine ente (d := d_one) 0 rfl rfl rfl (B_cons ?_)
    dsimp! only []
    refine B_cons ?_
    dsimp! only []
    exact fin_id h
  | f n =>
    have h : Q (.int 1) S := h
    show wpC G (k + 1) f_one [.tup [.str "F", .int ((n + 2 : Nat) : Int)]] S Q E
    refine ente (d := d_one) 0 rfl rfl rfl (B_cons ?_)
    dsimp! only []
    refine B_cons ?_
    dsimp! only []
    exact fin_id h
theorem oneP_spec (h : Q (K.pc [1]) S) : wpC G (k + 2) f_one [pu K] S Q E := by
  refine ente (d := d_one) 0 rfl rfl rfl (B_cons ?_)
  dsimp! only [pu]
  refine B_cons ?_
  dsimp! only []
  exact one_spec (fin_id h)
end

section
open Ek PySem
variable {Q : UQ} {E : Nat → Sto → Prop} {k : Nat} {S : Sto}
def zu : U := .tup [.str "Z"]
theorem law_zeroZ_spec (h : Q (.int 0) S) : wpC G (k + 1) f_law_zero [zu] S Q E := by
  refine ente (d := d_law_zero) 0 rfl rfl rfl (B_cons ?_)
  dsimp! only [zu]
  refine B_cons ?_
  dsimp! only []
  refine B_cons ?_
  dsimp! only []
  exact fin_id h
theorem law_numberZ_spec {i : Int} (h : Q (.int i) S) : wpC G (k + 1) f_law_number [zu, .int i] S Q E := by
  refine ente (d := d_law_number) 0 rfl rfl rfl (B_cons ?_)
  dsimp! only [zu]
  refine B_cons ?_
  dsimp! only []
  refine B_cons ?_
  dsimp! only []
  refine B_cons ?_
  dsimp! only []
  exact fin_id h
theorem law_addZ_spec {x y : Int} (h : Q (.int (x + y)) S) : wpC G (k + 1) f_law_add [zu, .int x, .int y] S Q E := by
  refine ente (d := d_law_add) 2 rfl rfl rfl (B_cons ?_)
  dsimp! only [zu]
  refine B_cons ?_
  dsimp! only []
  refine B_cons ?_
  dsimp! only []
  refine B_cons ?_
  dsimp! only []
  exact fin_id h
theorem law_mulZ_spec {x y : Int} (hm : IntMulOk x y) (h : Q (.int (x * y)) S) : wpC G (k + 1) f_law_multiply [zu, .int x, .int y] S Q E := by
  refine ente (d := d_law_multiply) 3 rfl rfl rfl (B_cons ?_)
  dsimp! only [zu]
  refine B_cons ?_
  dsimp! only []
  refine B_cons ?_
  dsimp! only []
  refine B_cons ?_
  dsimp! only []
  exact ⟨hm, fin_id h⟩
end

section
open Ek PySem
variable {k : Nat} {S : Sto}
theorem exact_tup {us : List U} {Q : UQ} {E : Nat → Sto → Prop} (hl : us.length ≤ 1000) (h : ∀ u ∈ us, ∀ (S : Sto) (Q : UQ) (E : Nat → Sto → Prop), Q (.bl true) S → wpC G k f_law_exact [u] S Q E) (hq : Q (.bl true) S) : wpC G (k + 1) f_law_exact [.tup us] S Q E := by
  refine ente (d := d_law_exact) 1 rfl rfl rfl (B_cons ?_)
  dsimp! only []
  refine B_cons ?_
  dsimp! only []
  refine comp_map (f := fun _ => .bl true) trivial (Nat.le_trans hl (by decide)) (fun u hu K hk => ?_) ?_
  · dsimp! only []
    exact h u hu _ _ _ hk
  · dsimp! only []
    exact ⟨_, blsU_map', by rw [all_map_true]; exact fin_keep rfl hq⟩
end

section
open Ek PySem
variable {K : Fl}
end

section
open Ek PySem
variable {K : Fl}
theorem exact_int {Q : UQ} {E : Nat → Sto → Prop} {k : Nat} {S : Sto} {i : Int} (h : Q (.bl true) S) : wpC G (k + 2) f_law_exact [.int i] S Q E := by
  refine ente (d := d_law_exact) 1 rfl rfl rfl (B_cons ?_)
  dsimp! only []
  refine B_cons ?_
  dsimp! only []
  refine ente (d := d_law_whole) 0 rfl rfl rfl (B_cons ?_)
  dsimp! only []
  exact fin_id (fin_id h)
end

section
open Ek PySem
variable {ns : List Int} {B : Ob} {R : Sto} {Q : UQ} {E : Nat → Sto → Prop} {k : Nat}
theorem start_spec (hl : ns.length ≤ 63) (h : ∀ B, Cb ns B → Q (.ref 2) (An ns :: An ns :: B :: [])) : wpC G (k + 1) f_law_start [.fz (ns.map U.int)] [] Q E := by
  refine ente (d := d_law_start) 1 rfl rfl rfl (B_cons ?_)
  dsimp! only [cutB]
  have e2 : ((ns.map U.int).drop 0).take (HT.sIx ns.length ns.length (some 63) - 0) = ns.map U.int := by
    rw [show HT.sIx ns.length ns.length (some 63) = min 63 ns.length from HT.sIx_nat _ _ 63, List.take_of_length_le]
    · rfl
    · simp; omega
  rw [e2]
  refine comp_map (f := id) ⟨_, rfl, rfl⟩ (by have : (16000000:Nat) = big := rfl; simp; omega) (fun x hx K hk => ?_) ?_
  · obtain ⟨i, hi, rfl⟩ := List.mem_map.mp hx
    dsimp! only []
    exact hk
  · exact fin_id (by simpa [An] using h _ ⟨0, 0, 0, rfl, by omega⟩)
theorem fill_spec (hB : Cb ns B) (h : ∀ B' n, Cb ns B' → 0 ≤ n → Q (.int n) (An ns :: An ns :: B' :: R)) : wpC G (k + 1) f_law_fill [.ref 2] (An ns :: An ns :: B :: R) Q E := by
  obtain ⟨p, m, c, rfl, hp⟩ := hB
  refine ente (d := d_law_fill) 1 rfl rfl rfl (B_cons ?_)
  dsimp! only []
  refine B_cons ?_
  dsimp! only []
  refine ⟨mulS (by omega), B_seq (fun σ' S' => ∃ (q : Nat) (n : Int), q ≤ ns.length ∧ σ' = [some (.ref 2), some (.int n)] ∧ S' = An ns :: An ns :: .lst [.ref 1, .int q, .int m, .int (c + 1)] :: R) (fun N hN => ?_) ?_⟩
  · dsimp! only [An]
    refine ite_rule (fun h0 => ?_) (fun h0 => (hN _ _ ⟨p, _, hp, rfl, rfl⟩))
    have h0' : p < ns.length := by omega
    refine B_cons ?_
    dsimp! only [atI_map h0']
    refine B_cons ?_
    dsimp! only [ix6]
    have fin : ∀ n : Int, 0 ≤ n → wpB (wpC G k) (fun c x S' => E c S') [.ifs (.cmp .ge (.var 1) (.op .pow (.cint 10) (.cint 18))) [.ret (.var 1)] []]
        { nx := N, rt := Ek.fin (An ns :: An ns :: Ob.lst [.ref 1, .int p, .int m, .int c] :: R) Q } [some (.ref 2), some (.int n)] (An ns :: An ns :: Ob.lst [.ref 1, .int (p + 1), .int m, .int (c + 1)] :: R) := by
      intro n hn
      refine B_cons ?_
      dsimp! only []
      refine ite_rule (fun h1 => B_cons ?_) (fun h1 => ?_)
      · dsimp! only []
        exact fin_id (h _ _ ⟨p + 1, m, c + 1, rfl, by omega⟩ hn)
      · exact hN _ _ ⟨p + 1, n, by omega, rfl, rfl⟩
    refine B_cons ?_
    dsimp! only []
    refine ite_rule (fun h1 => B_cons ?_) (fun h1 => fin _ (by omega))
    dsimp! only []
    exact (fin _ (by omega))
  · rintro σ S ⟨q, n, hq, rfl, rfl⟩
    refine B_seq (fun σ' S' => ∃ (n : Int), σ' = [some (.ref 2), some (.int n)] ∧ S' = An ns :: An ns :: .lst [.ref 1, .int q, .int m, .int (c + 1)] :: R) (fun N hN => ?_) ?_
    · dsimp! only [An]
      refine ite_rule (fun h0 => ite_rule (fun h1 => B_cons ?_) (fun h1 => (hN _ _ ⟨_, rfl, rfl⟩))) (fun h0 => (hN _ _ ⟨_, rfl, rfl⟩))
      obtain ⟨i, hi⟩ := at_last (ns := ns) (by rintro rfl; simp at h0)
      dsimp! only [hi]
      exact hN _ _ ⟨_, rfl, rfl⟩
    · rintro σ S ⟨n, rfl, rfl⟩
      refine B_cons ?_
      dsimp! only []
      refine ⟨mulS (by omega), mulS (by omega), B_cons ?_⟩
      have b1 := fmod_lt (a := n * 48271 + (c + 1) * 69621) (b := 2147483647) (by omega)
      have b2 := fmod_nn (a := n * 48271 + (c + 1) * 69621) (b := 2147483647) (by omega)
      generalize (n * 48271 + (c + 1) * 69621).fmod 2147483647 = z at b1 b2 ⊢
      dsimp! only []
      refine ⟨mulS (by omega), mulS (by omega), fin_id (h _ _ ⟨q, m, c + 1, rfl, hq⟩ ?_)⟩
      have := fmod_nn (a := z * z + (c + 1) * 7919 + 11) (b := 2305843009213693951) (by omega)
      omega
theorem take_spec {m : Int} (hm : 1 ≤ m) (hs : m < 2 ^ 64) (hB : Cb ns B) (h : ∀ B' d, Cb ns B' → 0 ≤ d → d < m → Q (.int d) (An ns :: An ns :: B' :: R)) : wpC G (k + 2) f_law_take [.ref 2, .int m] (An ns :: An ns :: B :: R) Q E := by
  refine ente (d := d_law_take) 1 rfl rfl rfl (B_seq (fun σ' S' => ∃ B', Cb ns B' ∧ σ' = [some (.ref 2), some (.int m), none] ∧ S' = An ns :: An ns :: B' :: R) (fun N hN => ?_) ?_)
  · have hB' := hB
    obtain ⟨p, m', c, rfl, hp⟩ := hB'
    dsimp! only []
    refine ite_rule (fun h0 => B_cons ?_) (fun h0 => (hN _ _ ⟨_, hB, rfl, rfl⟩))
    dsimp! only []
    refine fill_spec hB fun B' n hB' hn => ?_
    obtain ⟨p', m'', c', rfl, hp'⟩ := hB'
    dsimp! only [ix4]
    exact (hN _ _ ⟨_, ⟨p', n, c', rfl, hp'⟩, rfl, rfl⟩)
  · rintro σ S ⟨B', ⟨p, n, c, rfl, hp⟩, rfl, rfl⟩
    refine B_cons ?_
    dsimp! only []
    refine ⟨by omega, B_cons ?_⟩
    dsimp! only [ix4]
    refine ⟨⟨by omega, ?_⟩, B_cons ?_⟩
    · have : m.natAbs.log2 < 64 := (Nat.log2_lt (by omega)).2 (by omega)
      omega
    dsimp! only []
    exact fin_id (h _ _ ⟨p, _, c, rfl, hp⟩ (fmod_nn (by omega)) (fmod_lt (by omega)))
end

section
open Ek PySem
variable {ns : List Int} {B : Ob} {R : Sto} {Q : UQ} {E : Nat → Sto → Prop} {k : Nat}
end

section
open Ek PySem
variable {ns : List Int} {B : Ob} {R : Sto} {Q : UQ} {E : Nat → Sto → Prop} {k : Nat}
end

section
open Ek PySem
variable {ns : List Int} {B : Ob} {R : Sto} {Q : UQ} {E : Nat → Sto → Prop} {k : Nat}
end

section
open Ek PySem
variable {ns : List Int} {B : Ob} {R : Sto} {Q : UQ} {E : Nat → Sto → Prop} {k : Nat}
def Kw (K : Fl) : Prop := ∀ n, K = .f n → n ≤ 65519 ∧ Pm (n + 2)
theorem Kw.lt {K : Fl} (h : Kw K) : ∀ n, K = .f n → n < 2 ^ 60 := fun n e => by have := (h n e).1; omega
/-- the domains that are drawn -/
inductive Dm where
  | z | k (K : Fl) | p (K : Fl)
def Dm.u : Dm → U
  | .z => zu
  | .k K => K.u
  | .p K => pu K
def Dm.w : Dm → Prop
  | .z => True
  | .k K => Kw K
  | .p K => Kw K
end

section
open Ek PySem
variable {ns : List Int} {B : Ob} {R : Sto} {Q : UQ} {E : Nat → Sto → Prop} {k : Nat} {K : Fl}
end

section
open Ek PySem
def prW (n : Int) : Nat → Int → Bool
  | 0, _ => true
  | f + 1, k => if k * k ≤ n then (if n.fmod k = 0 then false else prW n f (k + 2)) else true
def pr (n : Int) : Bool := if n < 4 then decide (1 < n) else if n.fmod 2 = 0 then false else prW n n.toNat 3
theorem sq_gt {k n : Int} (h : n < k) (hk : 3 ≤ k) : ¬ k * k ≤ n := by
  have : 1 * k ≤ k * k := Int.mul_le_mul_of_nonneg_right (by omega) (by omega)
  omega
theorem sq_le {k n : Int} (h : k * k ≤ n) (hk : 3 ≤ k) : k + 2 ≤ n := by
  have : 3 * k ≤ k * k := Int.mul_le_mul_of_nonneg_right (by omega) (by omega)
  omega
theorem prW_true {n : Int} : ∀ (f : Nat) (k : Int), (∀ j : Nat, j < f → n.fmod (k + 2 * j) ≠ 0 ∨ n < (k + 2 * j) * (k + 2 * j)) → prW n f k = true
  | 0, _, _ => rfl
  | f + 1, k, h => by
    rw [prW]
    split
    · rename_i h1
      have := h 0 (by omega)
      simp only [Int.natCast_zero, Int.mul_zero, Int.add_zero] at this
      rw [if_neg (by omega)]
      refine prW_true f (k + 2) fun j hj => ?_
      have := h (j + 1) (by omega)
      have e : k + 2 + 2 * (j : Int) = k + 2 * ((j + 1 : Nat) : Int) := by omega
      rw [e]; exact this
    · rfl
variable {ns : List Int} {B : Ob} {R : Sto} {Q : UQ} {E : Nat → Sto → Prop} {k : Nat}
theorem prime_spec {S : Sto} {n : Int} (hn : n < 2 ^ 63) (h : Q (.bl (pr n)) S) : wpC G (k + 1) f_is_prime [.int n] S Q E := by
  refine ente (d := d_is_prime) 1 rfl rfl rfl (B_cons ?_)
  unfold pr at h
  dsimp! only []
  refine ite_rule (fun h1 => B_cons ?_) (fun h1 => B_cons ?_)
  · dsimp! only []
    rw [if_pos h1] at h
    exact fin_id h
  rw [if_neg h1] at h
  dsimp! only []
  refine ite_rule (fun h2 => B_cons ?_) (fun h2 => B_cons ?_)
  · dsimp! only []
    rw [if_pos h2] at h
    exact fin_id h
  rw [if_neg h2] at h
  dsimp! only []
  refine B_cons ?_
  dsimp! only []
  refine wh_rule (fun f σ' S' => S' = S ∧ ∃ j, 3 ≤ j ∧ j ≤ n ∧ n < j + 2 * f ∧ Q (.bl (prW n f j)) S ∧ σ' = [some (.int n), some (.int j)]) ?_ ⟨rfl, 3, by omega, by omega, by omega, h, rfl⟩
  rintro f σ' S' K ⟨rfl, j, j1, j2, j3, hq, rfl⟩ hK
  dsimp! only []
  refine ⟨mulS (by omega), ite_rule (fun h3 => B_cons ?_) (fun h3 => B_cons ?_)⟩
  · obtain ⟨f, rfl⟩ : ∃ f', f = f' + 1 := ⟨f - 1, by
      rcases Nat.eq_zero_or_pos f with z | z
      · subst z; exact absurd h3 (sq_gt (by omega) j1)
      · omega⟩
    rw [prW, if_pos h3] at hq
    have := sq_le h3 j1
    dsimp! only []
    refine ⟨by omega, ite_rule (fun h4 => B_cons ?_) (fun h4 => B_cons ?_)⟩
    · dsimp! only []
      rw [if_pos h4] at hq
      exact fin_id hq
    · rw [if_neg h4] at hq
      dsimp! only []
      exact hK f _ _ (by omega) ⟨rfl, _, by omega, by omega, by omega, hq, rfl⟩
  · dsimp! only []
    cases f with
    | zero => exact fin_id hq
    | succ f =>
      rw [prW, if_neg h3] at hq
      exact fin_id hq
end

section
open Ek PySem
variable {Q : UQ} {E : Nat → Sto → Prop} {k : Nat} {S : Sto} {K : Fl}
theorem pr_pm {p : Nat} (h : Pm p) : pr (p : Int) = true := by
  have h2 := h.1
  unfold pr
  by_cases h4 : (p : Int) < 4
  · rw [if_pos h4]; simp; omega
  · rw [if_neg h4, if_neg ?_]
    · refine prW_true _ _ fun j hj => ?_
      by_cases hz : (p : Int).fmod (3 + 2 * (j : Int)) = 0
      · right
        have hd : (3 + 2 * j) ∣ p := by
          rw [Int.fmod_eq_emod_of_nonneg _ (by omega)] at hz
          have := Int.dvd_of_emod_eq_zero hz
          have e : (3 + 2 * (j : Int)) = ((3 + 2 * j : Nat) : Int) := by omega
          rw [e] at this
          exact Int.natCast_dvd_natCast.mp this
        rcases h.2 _ hd with e | e
        · omega
        · have e' : 3 + 2 * (j : Int) = (p : Int) := by omega
          rw [e']
          have : (2 : Int) * p ≤ p * p := Int.mul_le_mul_of_nonneg_right (by omega) (by omega)
          omega
      · exact .inl hz
    · intro hz
      have hd : 2 ∣ p := by
        rw [Int.fmod_eq_emod_of_nonneg _ (by omega)] at hz
        omega
      rcases h.2 2 hd with e | e <;> omega
theorem is_integer_spec {i : Int} (h : Q (.bl true) S) : wpC G (k + 1) f_is_integer [.int i] S Q E := by
  refine ente (d := d_is_integer) 0 rfl rfl rfl (B_cons ?_)
  dsimp! only []
  exact fin_id h
theorem is_field_spec (hw : Kw K) (h : Q (.bl true) S) : wpC G (k + 2) f_is_field [K.u] S Q E := by
  cases K with
  | q =>
    show wpC G (k + 2) f_is_field [.tup [.str "Q"]] S Q E
    refine ente (d := d_is_field) 0 rfl rfl rfl (B_cons ?_)
    dsimp! only []
    refine B_cons ?_
    dsimp! only []
    refine B_cons ?_
    dsimp! only []
    exact fin_id h
  | f n =>
    show wpC G (k + 2) f_is_field [.tup [.str "F", .int ((n + 2 : Nat) : Int)]] S Q E
    obtain ⟨hn, hp⟩ := hw n rfl
    have hpr := pr_pm hp
    have p0 : (2 : Int) ≤ ((n + 2 : Nat) : Int) := by omega
    have p1 : ((n + 2 : Nat) : Int) ≤ 65521 := by omega
    generalize ((n + 2 : Nat) : Int) = p at hpr p0 p1 ⊢
    refine ente (d := d_is_field) 0 rfl rfl rfl (B_cons ?_)
    dsimp! only []
    refine B_cons ?_
    dsimp! only []
    refine B_cons ?_
    dsimp! only []
    refine is_integer_spec ?_
    dsimp! only []
    refine ifp (by omega) (ifp (by omega) (prime_spec (by omega) ?_))
    rw [hpr]
    exact fin_id h
theorem need_field_spec (hw : Kw K) (h : Q .non S) : wpC G (k + 3) f_need_field [K.u] S Q E := by
  refine ente (d := d_need_field) 0 rfl rfl rfl (B_cons ?_)
  dsimp! only []
  refine is_field_spec hw ?_
  dsimp! only []
  exact fin_id h
end

section
open Ek PySem
variable {Q : UQ} {E : Nat → Sto → Prop} {k : Nat} {S : Sto} {K : Fl}
end

section
open Ek PySem
variable {ns : List Int} {B : Ob} {R : Sto} {Q : UQ} {E : Nat → Sto → Prop} {k : Nat} {S : Sto} {K : Fl}
end

section
open Ek PySem
structure Eu (A B r0 s0 t0 r1 s1 t1 : Int) : Prop where
  p0 : 0 < r0
  p1 : 0 ≤ r1
  e0 : s0 * A + t0 * B = r0
  e1 : s1 * A + t1 * B = r1
  w : ∃ e x0 x1 y0 y1 : Int, (e = 1 ∨ e = -1) ∧ s0 = e * x0 ∧ s1 = -(e * x1) ∧ t0 = -(e * y0) ∧ t1 = e * y1 ∧ 0 ≤ x0 ∧ 0 ≤ x1 ∧ 0 ≤ y0 ∧ 0 ≤ y1 ∧
    x1 * r0 + x0 * r1 = B ∧ y1 * r0 + y0 * r1 = A ∧ (r1 = 0 → x0 ≤ x1 ∧ y0 ≤ y1)
theorem Eu.step {A B r0 s0 t0 r1 s1 t1 : Int} (h : Eu A B r0 s0 t0 r1 s1 t1) (hr : r1 ≠ 0) {q : Int} (hq : r0.fdiv r1 = q) : Eu A B r1 s1 t1 (r0 - q * r1) (s0 - q * s1) (t0 - q * t1) ∧ r0 - q * r1 < r1 := by
  obtain ⟨p0, p1, e0, e1, e, x0, x1, y0, y1, he, hs0, hs1, ht0, ht1, z1, z2, z3, z4, hb, ha, _⟩ := h
  obtain ⟨q', m, hq', _, hd, hm, hm'⟩ := fdq (a := r0) (b := r1) (by omega)
  rw [hq'] at hq
  subst hq
  have hm2 : r0 - q' * r1 = m := by omega
  have hq0 : 0 ≤ q' := by
    rcases Int.lt_or_le q' 0 with z | z
    · have : q' * r1 ≤ (-1) * r1 := Int.mul_le_mul_of_nonneg_right (by omega) (by omega)
      omega
    · exact z
  have n1 : 0 ≤ q' * x1 := Int.mul_nonneg hq0 z2
  have n2 : 0 ≤ q' * y1 := Int.mul_nonneg hq0 z4
  refine ⟨⟨by omega, by omega, e1, by grind, -e, x1, x0 + q' * x1, y1, y0 + q' * y1, by omega, by grind, by grind, by grind, by grind, z2, by omega, z4, by omega, by grind, by grind, fun hz => ?_⟩, by omega⟩
  have hq1 : 1 ≤ q' := by
    rcases Int.lt_or_le q' 1 with z | z
    · have : q' = 0 := by omega
      subst this
      omega
    · exact z
  have n3 : 1 * x1 ≤ q' * x1 := Int.mul_le_mul_of_nonneg_right hq1 z2
  have n4 : 1 * y1 ≤ q' * y1 := Int.mul_le_mul_of_nonneg_right hq1 z4
  omega
theorem Eu.bnd {A B r0 s0 t0 r1 s1 t1 : Int} (h : Eu A B r0 s0 t0 r1 s1 t1) (hr : r1 ≠ 0) {n : Nat} (hA : A.natAbs < 2 ^ n) (hB : B.natAbs < 2 ^ n) : s1.natAbs < 2 ^ n ∧ t1.natAbs < 2 ^ n := by
  obtain ⟨p0, p1, e0, e1, e, x0, x1, y0, y1, he, hs0, hs1, ht0, ht1, z1, z2, z3, z4, hb, ha, _⟩ := h
  have a1 : x1 * 1 ≤ x1 * r0 := Int.mul_le_mul_of_nonneg_left (by omega) z2
  have a2 : y1 * 1 ≤ y1 * r0 := Int.mul_le_mul_of_nonneg_left (by omega) z4
  have a3 : 0 ≤ x0 * r1 := Int.mul_nonneg z1 p1
  have a4 : 0 ≤ y0 * r1 := Int.mul_nonneg z3 p1
  have a5 : s1.natAbs = x1.natAbs := by rcases he with rfl | rfl <;> omega
  have a6 : t1.natAbs = y1.natAbs := by rcases he with rfl | rfl <;> omega
  omega
theorem Eu.end_ {A B r0 s0 t0 s1 t1 : Int} (h : Eu A B r0 s0 t0 0 s1 t1) : 0 < r0 ∧ s0 * A + t0 * B = r0 ∧ ∃ x y, A = x * r0 ∧ B = y * r0 ∧ 0 ≤ x ∧ 0 ≤ y ∧ -y ≤ s0 ∧ s0 ≤ y ∧ -x ≤ t0 ∧ t0 ≤ x := by
  obtain ⟨p0, p1, e0, e1, e, x0, x1, y0, y1, he, hs0, hs1, ht0, ht1, z1, z2, z3, z4, hb, ha, w⟩ := h
  have := w rfl
  refine ⟨p0, e0, y1, x1, by omega, by omega, z4, z2, ?_⟩
  rcases he with rfl | rfl <;> omega
/-- what common promises -/
structure Gd (a b g s t : Int) : Prop where
  sz : s.natAbs < 2 ^ 250 ∧ t.natAbs < 2 ^ 250
  nz : a = 0 → b = 0 → g = 0 ∧ s = 0 ∧ t = 0
  ps : ¬ (a = 0 ∧ b = 0) → 0 < g ∧ s * a + t * b = g
  dv : ∃ x y, a = x * g ∧ b = y * g ∧ (b = 0 → t = 0) ∧ (a = 0 → s = 0) ∧ (a ≠ 0 → b ≠ 0 → s.natAbs ≤ y.natAbs ∧ t.natAbs ≤ x.natAbs)
theorem common_spec {S : Sto} {Q : UQ} {E : Nat → Sto → Prop} {k : Nat} {a b : Int} (ha : a.natAbs < 2 ^ 250) (hb : b.natAbs < 2 ^ 250) (h : ∀ g s t, Gd a b g s t → Q (.tup [.int g, .int s, .int t]) S) : wpC G (k + 1) f_common [.int a, .int b] S Q E := by
  refine ente (d := d_common) 6 rfl rfl rfl (B_cons ?_)
  dsimp! only []
  refine ite_rule (fun h1 => ite_rule (fun h2 => B_cons ?_) (fun h2 => B_cons ?_)) (fun h1 => B_cons ?_)
  · dsimp! only []
    exact fin_id (h _ _ _ ⟨by omega, fun _ _ => ⟨rfl, rfl, rfl⟩, fun z => absurd ⟨h1, h2⟩ z, 0, 0, by omega, by omega, fun _ => rfl, fun _ => rfl, fun z => absurd h1 z⟩)
  · dsimp! only []
    refine ite_rule (fun h3 => absurd h3 h2) (fun h3 => B_cons ?_)
    dsimp! only []
    refine ite_rule (fun h4 => B_cons ?_) (fun h4 => absurd h1 h4)
    dsimp! only []
    refine ite_rule (fun h5 => ?_) (fun h5 => ?_)
    · refine fin_id (h _ _ _ ⟨by omega, fun _ z => absurd z h2, fun _ => ?_, 0, 1, ?_, ?_, fun z => absurd z h2, fun _ => rfl, fun z => absurd h1 z⟩) <;> (try split) <;> omega
    · refine fin_id (h _ _ _ ⟨by omega, fun _ z => absurd z h2, fun _ => ?_, 0, -1, ?_, ?_, fun z => absurd z h2, fun _ => rfl, fun z => absurd h1 z⟩) <;> (try split) <;> omega
  · dsimp! only []
    refine ite_rule (fun h3 => B_cons ?_) (fun h3 => B_cons ?_)
    · dsimp! only []
      refine ite_rule (fun h5 => ?_) (fun h5 => ?_)
      · refine fin_id (h _ _ _ ⟨by omega, fun z => absurd z h1, fun _ => ?_, 1, 0, ?_, ?_, fun z => rfl, fun z => absurd z h1, fun _ z => absurd h3 z⟩) <;> (try split) <;> omega
      · refine fin_id (h _ _ _ ⟨by omega, fun z => absurd z h1, fun _ => ?_, -1, 0, ?_, ?_, fun z => rfl, fun z => absurd z h1, fun _ z => absurd h3 z⟩) <;> (try split) <;> omega
    · dsimp! only []
      refine ite_rule (fun h4 => absurd h4 h1) (fun h4 => B_cons ?_)
      dsimp! only []
      refine B_cons ?_
      dsimp! only []
      obtain ⟨A, hA, hA2⟩ : ∃ A : Int, (if a < 0 then -a else a) = A ∧ A = (if a < 0 then -a else a) := ⟨_, rfl, rfl⟩
      obtain ⟨B, hB, hB2⟩ : ∃ B : Int, (if b < 0 then -b else b) = B ∧ B = (if b < 0 then -b else b) := ⟨_, rfl, rfl⟩
      rw [hA, hB]
      have hA0 : 0 < A := by rw [← hA]; split <;> omega
      have hB0 : 0 < B := by rw [← hB]; split <;> omega
      have hAb : A.natAbs < 2 ^ 250 := by rw [← hA]; split <;> omega
      have hBb : B.natAbs < 2 ^ 250 := by rw [← hB]; split <;> omega
      refine B_seq (fun σ' S' => S' = S ∧ ∃ z w r0 s0 t0 r1 s1 t1, Eu A B r0 s0 t0 r1 s1 t1 ∧ r1 = 0 ∧ σ' = [some (.int a), some (.int b), some (.tup [.int r0, .int s0, .int t0]), z, w, none, none, none]) (fun N hN => ?_) ?_
      · dsimp! only []
        refine wh_rule (fun m σ' S' => S' = S ∧ ∃ z r0 s0 t0 r1 s1 t1, Eu A B r0 s0 t0 r1 s1 t1 ∧ r1.natAbs = m ∧ r0.natAbs < 2 ^ 250 ∧ r1.natAbs < 2 ^ 250 ∧ σ' = [some (.int a), some (.int b), some (.tup [.int r0, .int s0, .int t0]), some (.tup [.int r1, .int s1, .int t1]), z, none, none, none])
          ?_ (n := B.natAbs) ⟨rfl, none, A, 1, 0, B, 0, 1, ⟨hA0, by omega, by omega, by omega, 1, 1, 0, 0, 1, by omega, by omega, by omega, by omega, by omega, by omega, by omega, by omega, by omega, by omega, by omega, by omega⟩, rfl, hAb, hBb, rfl⟩
        rintro n σ' S' K ⟨rfl, z, r0, s0, t0, r1, s1, t1, hE, hm, b0, b1, rfl⟩ hK
        dsimp! only []
        refine ite_rule (fun h5 => ?_) (fun h5 => hN _ _ ⟨rfl, _, _, _, _, _, _, _, _, hE, by omega, rfl⟩)
        obtain ⟨q, hq⟩ : ∃ q, r0.fdiv r1 = q := ⟨_, rfl⟩
        have st := hE.step h5 hq
        have bd := hE.bnd h5 hAb hBb
        have hq3 : q.natAbs ≤ r0.natAbs := by rw [← hq]; exact Int.natAbs_fdiv_le_natAbs ..
        refine B_cons ?_
        dsimp! only []
        refine ⟨⟨h5, log2S b1⟩, B_cons ?_⟩
        dsimp! only [hq]
        have hq4 : q.natAbs < 2 ^ 250 := by omega
        refine ⟨mulB hq4 b1, mulB hq4 bd.1, mulB hq4 bd.2, hK _ _ _ ?_ ⟨rfl, _, _, _, _, _, _, _, st.1, rfl, b1, ?_, rfl⟩⟩
        · have := st.1.p1
          have := hE.p1
          have := st.2
          omega
        · have := st.1.p1
          have := hE.p1
          have := st.2
          omega
      · rintro σ' S' ⟨rfl, z, w, r0, s0, t0, r1, s1, t1, hE, rfl, rfl⟩
        refine B_cons ?_
        dsimp! only []
        refine B_cons ?_
        dsimp! only []
        obtain ⟨h0, h6, x, y, h7, h8, h9, h10, h11, h12, h13, h14⟩ := hE.end_
        have ny : y.natAbs ≤ B.natAbs := by rw [h8]; exact natAbs_le_mul h0
        have nx : x.natAbs ≤ A.natAbs := by rw [h7]; exact natAbs_le_mul h0
        refine ite_rule (fun ga => ?_) (fun ga => ?_) <;> refine ite_rule (fun gb => ?_) (fun gb => ?_)
        · have ea : a = A := by omega
          have eb : b = B := by omega
          exact fin_id (h _ _ _ ⟨by omega, fun z => absurd z h1, fun _ => ⟨h0, by rw [ea, eb]; exact h6⟩, x, y, by rw [ea]; exact h7, by rw [eb]; exact h8, fun z => absurd z h3, fun z => absurd z h1, fun _ _ => by omega⟩)
        · have ea : a = A := by omega
          have eb : b = -B := by omega
          exact fin_id (h _ _ _ ⟨by omega, fun z => absurd z h1, fun _ => ⟨h0, by rw [ea, eb, Int.neg_mul_neg]; exact h6⟩, x, -y, by rw [ea]; exact h7, by rw [eb, Int.neg_mul, h8], fun z => absurd z h3, fun z => absurd z h1, fun _ _ => by omega⟩)
        · have ea : a = -A := by omega
          have eb : b = B := by omega
          exact fin_id (h _ _ _ ⟨by omega, fun z => absurd z h1, fun _ => ⟨h0, by rw [ea, eb, Int.neg_mul_neg]; exact h6⟩, -x, y, by rw [ea, Int.neg_mul, h7], by rw [eb]; exact h8, fun z => absurd z h3, fun z => absurd z h1, fun _ _ => by omega⟩)
        · have ea : a = -A := by omega
          have eb : b = -B := by omega
          exact fin_id (h _ _ _ ⟨by omega, fun z => absurd z h1, fun _ => ⟨h0, by rw [ea, eb, Int.neg_mul_neg, Int.neg_mul_neg]; exact h6⟩, -x, -y, by rw [ea, Int.neg_mul, h7], by rw [eb, Int.neg_mul, h8], fun z => absurd z h3, fun z => absurd z h1, fun _ _ => by omega⟩)
end

section
open Ek PySem
variable {Q : UQ} {E : Nat → Sto → Prop} {k : Nat} {S : Sto} {K : Fl}
theorem Kw.fp {K : Fl} (h : Kw K) : Fp K := fun n e => (h n e).2
theorem sgc_cop {n m : Int} (h : Int.gcd n m = 1) : (sgc n m).natAbs.log2 < 9000 := by
  rw [sgc_abs, h]; decide
theorem inv_rat {x : Rat} (hx : x ≠ 0) : x.num ≠ 0 ∧ Int.gcd x.den x.num = 1 := by
  refine ⟨fun z => hx (Rat.num_eq_zero.mp z), ?_⟩
  rw [Int.gcd_comm]; exact rat_cop x
theorem inverse_spec {x : K.T} (hw : Kw K) (hx : x ≠ 0) (h : Q (K.c (K.inv x)) S) : wpC G (k + 4) f_inverse [K.u, K.c x] S Q E := by
  refine ente (d := d_inverse) 3 rfl rfl rfl (B_cons ?_)
  dsimp! only []
  refine need_field_spec hw (B_cons ?_)
  dsimp! only []
  refine zero_spec ?_
  dsimp! only [eqU_c, hx, decide_false]
  cases K with
  | q =>
    revert x
    intro (x : Rat) hx h
    have h : Q (.tup [.int (x⁻¹).num, .int (x⁻¹).den]) S := h
    show wpB (wpC G (k + 3)) _ _ _ [some (.tup [.str "Q"]), some (.tup [.int x.num, .int x.den]), none, none, none] S
    obtain ⟨h1, h2⟩ := inv_rat hx
    refine B_cons ?_
    dsimp! only []
    refine B_cons ?_
    dsimp! only []
    refine fraction_spec h1 (sgc_cop h2) ?_
    rw [Rat.inv_def] at h
    exact fin_id h
  | f n =>
    obtain ⟨hn, hp⟩ := hw n rfl
    revert x
    intro (x : Fin (n + 2)) hx h
    have hl := x.isLt
    have x0 : x.val ≠ 0 := fun z => hx (Fin.ext z)
    show wpB (wpC G (k + 3)) _ _ _ [some (.tup [.str "F", .int ((n + 2 : Nat) : Int)]), some (.int (x.val : Nat)), none, none, none] S
    refine B_cons ?_
    dsimp! only []
    refine B_cons ?_
    dsimp! only []
    refine common_spec (by omega) (by omega) fun g s t hg => ?_
    obtain ⟨g0, ge⟩ := hg.ps (by omega)
    have g1 : g = 1 := by
      obtain ⟨u, v, e1, e2, _⟩ := hg.dv
      have d1 : g.toNat ∣ x.val := by
        have : g ∣ ((x.val : Nat) : Int) := ⟨u, by rw [e1, Int.mul_comm]⟩
        have e : g = ((g.toNat : Nat) : Int) := by omega
        rw [e] at this
        exact Int.natCast_dvd_natCast.mp this
      have d2 : g.toNat ∣ n + 2 := by
        have : g ∣ ((n + 2 : Nat) : Int) := ⟨v, by rw [e2, Int.mul_comm]⟩
        have e : g = ((g.toNat : Nat) : Int) := by omega
        rw [e] at this
        exact Int.natCast_dvd_natCast.mp this
      rcases hp.2 _ d2 with z | z
      · omega
      · rw [z] at d1
        have := Nat.le_of_dvd (by omega) d1
        omega
    rw [g1] at ge
    dsimp! only []
    refine B_cons ?_
    dsimp! only []
    refine ⟨by omega, ?_⟩
    obtain ⟨y, hy⟩ : ∃ y : Fin (n + 2), y = ((Fl.f n).of s : (Fl.f n).T) := ⟨_, rfl⟩
    have hm : x * y = 1 := of_inv (by rw [hy]; exact of_val s) ge
    have hi : ((Fl.f n).of s : (Fl.f n).T) = (Fl.f n).inv x := by rw [← hy]; exact inv_of (K := .f n) hw.fp hx hm
    rw [← hi, of_f] at h
    exact fin_id h
end

section
open Ek PySem
variable {Q : UQ} {E : Nat → Sto → Prop} {k : Nat} {S : Sto} {K : Fl}
end

section
open Ek PySem
variable {Q : UQ} {E : Nat → Sto → Prop} {k : Nat} {S : Sto} {M : Mx}
theorem need_shape_spec {b : Bool} (h1 : b = true → Q .non S) (h2 : b = false → E xc_ShapeError S) : wpC G (k + 1) f_need_shape [.bl b] S Q E := by
  refine ente (d := d_need_shape) 0 rfl rfl rfl (B_cons ?_)
  cases b with
  | true => dsimp! only []; exact fin_id (h1 rfl)
  | false => dsimp! only []; exact B_cons (h2 rfl)
theorem need_square_spec {m n : Nat} {f : Nat → Nat → M.R} (h1 : m = n → Q .non S) (h2 : m ≠ n → E xc_ShapeError S) : wpC G (k + 2) f_need_square [matU M m n f] S Q E := by
  refine ente (d := d_need_square) 0 rfl rfl rfl (B_cons ?_)
  dsimp! only [matU]
  refine need_shape_spec (fun e => ?_) (fun e => h2 fun z => ?_)
  · exact fin_id (h1 (by have := of_decide_eq_true e; omega))
  · exact absurd (of_decide_eq_false e) (by omega)
theorem nearN {n : Nat} (h : n ≤ 1000) : near ((n : Nat) : Int) := ⟨by omega, by omega⟩
end

section
open Ek PySem
variable {Q : UQ} {E : Nat → Sto → Prop} {k : Nat} {S : Sto} {M : Mx}
theorem ok_mm {f g : Nat → Nat → M.R} {i j n : Nat} (j1 : 1 ≤ j) (hf : ∀ a b, M.ok i (f a b)) (hg : ∀ a b, M.ok j (g a b)) : ∀ a b, M.ok (i + 2 * j + n) (mm n f g a b) := fun a b => ok_ssum (fun c => M.ok_mul (hf a c) (hg c b) j1) n
end

section
open Ek PySem
variable {ns : List Int} {B : Ob} {R : Sto} {Q : UQ} {E : Nat → Sto → Prop} {k : Nat} {S : Sto} {M : Mx}
def PLZero (M : Mx) : Prop := ∀ {k : Nat} {S : Sto} {Q : UQ} {E : Nat → Sto → Prop}, Q (M.c 0) S → wpC G (k + 8) f_law_zero [M.d] S Q E
def PLAdd (M : Mx) : Prop := ∀ {k : Nat} {S : Sto} {Q : UQ} {E : Nat → Sto → Prop} {i : Nat} {x y : M.R}, i ≤ 400 → M.ok i x → M.ok i y → Q (M.c (x + y)) S → wpC G (k + 8) f_law_add [M.d, M.c x, M.c y] S Q E
def PLMul (M : Mx) : Prop := ∀ {k : Nat} {S : Sto} {Q : UQ} {E : Nat → Sto → Prop} {i j : Nat} {x y : M.R}, i ≤ 200 → j ≤ 200 → M.ok i x → M.ok j y → Q (M.c (x * y)) S → wpC G (k + 8) f_law_multiply [M.d, M.c x, M.c y] S Q E
def PSmall (M : Mx) : Prop := ∀ {k : Nat} {ns : List Int} {B : Ob} {R : Sto} {Q : UQ} {E : Nat → Sto → Prop}, Cb ns B → (∀ B' x, Cb ns B' → M.ok 1 x → Q (M.c x) (An ns :: An ns :: B' :: R)) → wpC G (k + 8) f_law_small [.ref 2, M.d] (An ns :: An ns :: B :: R) Q E
theorem law_dot_spec (hz : PLZero M) (ha : PLAdd M) (hm : PLMul M) {f g : Nat → M.R} {n i j : Nat} (n1 : n ≤ 100) (h4 : i + 2 * j + n ≤ 400) (hi : i ≤ 200) (hj : j ≤ 200) (j1 : 1 ≤ j) (hf : ∀ a, M.ok i (f a)) (hg : ∀ a, M.ok j (g a)) (h : Q (M.c (ssum n fun a => f a * g a)) S) : wpC G (k + 9) f_law_dot [M.d, rowU M n f, rowU M n g] S Q E := by
  refine ente (d := d_law_dot) 2 rfl rfl rfl (B_cons ?_)
  dsimp! only []
  refine hz (B_cons ?_)
  dsimp! only [rowU, List.length_map, List.length_range]
  refine ⟨nearN (by omega), ?_⟩
  rw [Int.toNat_natCast, range_map0]
  refine for_mapR (fun a σ S' => S' = S ∧ ∃ z1, σ = [some M.d, some (rowU M n f), some (rowU M n g), some (M.c (ssum a fun a => f a * g a)), z1]) (fun _ _ _ _ => trivial) ⟨rfl, none, rfl⟩ ?_ ?_
  · rintro σ S' ⟨rfl, z1, rfl⟩
    refine B_cons ?_
    dsimp! only []
    exact fin_id h
  · rintro a σ S' K ha' ⟨rfl, z1, rfl⟩ hK
    dsimp! only [rowU]
    refine B_cons ?_
    dsimp! only []
    refine ⟨_, at_rangeN ha', _, at_rangeN ha', ?_⟩
    exact hm hi hj (hf a) (hg a) (ha (i := i + 2 * j + a) (by omega) (ok_ssum (fun b => M.ok_mul (hf b) (hg b) j1) a) (M.mono (M.ok_mul (hf a) (hg a) j1) (by omega)) (hK _ _ ⟨rfl, _, rfl⟩))
theorem law_column_spec {m n j : Nat} {f : Nat → Nat → M.R} (m1 : m ≤ 100) (hj : j < n) (h : Q (rowU M m fun a => f a j) S) : wpC G (k + 1) f_law_column [matU M m n f, .int (j : Nat)] S Q E := by
  have bg : (1000 : Nat) ≤ big := by decide
  refine ente (d := d_law_column) 1 rfl rfl rfl (B_cons ?_)
  dsimp! only [matU]
  refine comp_mapR (fun a => M.c (f a j)) trivial (by omega) (fun a K2 hb hK2 => ?_) ?_
  · dsimp! only [rowU]
    exact ⟨_, at_rangeN hj, hK2⟩
  · dsimp! only [get_end2]
    exact fin_dat (dat_rowU M (k := 0)) h
theorem law_product_spec (hz : PLZero M) (ha : PLAdd M) (hm : PLMul M) {m n q i j : Nat} {f g : Nat → Nat → M.R} (m1 : m ≤ 100) (n1 : n ≤ 100) (q1 : q ≤ 100) (h4 : i + 2 * j + n ≤ 400) (hi : i ≤ 200) (hj : j ≤ 200) (j1 : 1 ≤ j) (hf : ∀ a b, M.ok i (f a b)) (hg : ∀ a b, M.ok j (g a b)) (h : Q (matU M m q fun a b => ssum n fun c => f a c * g c b) S) : wpC G (k + 10) f_law_product [M.d, matU M m n f, matU M n q g] S Q E := by
  have bg : (1000 : Nat) ≤ big := by decide
  refine ente (d := d_law_product) 4 rfl rfl rfl (B_cons ?_)
  dsimp! only [matU]
  refine ⟨nearN (by omega), ?_⟩
  rw [Int.toNat_natCast, range_map0]
  refine comp_mapR (fun b => rowU M n fun c => g c b) trivial (by omega) (fun b K2 hb hK2 => ?_) ?_
  · dsimp! only []
    exact law_column_spec (M := M) (by omega) hb hK2
  · refine B_cons ?_
    dsimp! only [matU, get_end2]
    refine comp_mapG (fun a => rowU M q fun b => ssum n fun c => f a c * g c b) (fun _ => trivial) (by omega) (fun a K' T ha' hK => ?_) fun T => ?_
    · dsimp! only []
      refine ⟨_, get_mid, ?_⟩
      refine comp_mapR (fun b => M.c (ssum n fun c => f a c * g c b)) live_mid (by omega) (fun b K2 hb hK2 => ?_) ?_
      · dsimp! only []
        exact law_dot_spec hz ha hm (by omega) h4 hi hj j1 (fun c => hf a c) (fun c => hg c b) hK2
      · dsimp! only [get_end3]
        have := hK (T ++ [Ob.lst ((List.range q).map fun b => M.c (ssum n fun c => f a c * g c b))])
        rw [← List.append_assoc] at this
        exact this
    · dsimp! only [get_end3]
      exact fin_dat3 (dat_matU M (k := 0)) h
theorem law_matrix_spec (hsm : PSmall M) {m n : Nat} (hB : Cb ns B) (m1 : m ≤ 100) (n1 : n ≤ 100) (h : ∀ B' f, Cb ns B' → (∀ a b, M.ok 1 (f a b)) → Q (matU M m n f) (An ns :: An ns :: B' :: R)) : wpC G (k + 9) f_law_matrix [.ref 2, M.d, .int (m : Nat), .int (n : Nat)] (An ns :: An ns :: B :: R) Q E := by
  have bg : (1000 : Nat) ≤ big := by decide
  refine ente (d := d_law_matrix) 2 rfl rfl rfl (B_cons ?_)
  dsimp! only []
  refine ⟨nearN (by omega), ?_⟩
  rw [Int.toNat_natCast, range_map0]
  have e0 : An ns :: An ns :: B :: R = An ns :: An ns :: B :: (R ++ []) := by simp
  rw [e0]
  refine comp_draw (P := fun f : Nat → M.R => ∀ b, M.ok 1 (f b)) (c := rowU M n) (x0 := fun _ => 0) (fun _ => M.mono M.ok_zero (by omega)) (by omega) hB (fun a K' B1 T ha' hB1 hK => ?_) fun B1 f T hB1 hf => ?_
  · dsimp! only []
    refine ⟨nearN (by omega), ?_⟩
    rw [Int.toNat_natCast, range_map0]
    refine comp_draw (P := M.ok 1) (c := M.c) (x0 := 0) (M.mono M.ok_zero (by omega)) (by omega) hB1 (fun b K2 B2 T2 hb hB2 hK2 => ?_) fun B2 r T2 hB2 hr => ?_
    · dsimp! only []
      refine hsm hB2 fun B3 x hB3 hx => hK2 B3 x T2 hB3 hx
    · dsimp! only [get_draw]
      exact hK B2 r _ hB2 hr
  · dsimp! only [get_draw]
    exact fin_cell hB1 (bnd_dat _ _ (dat_matU M (f := f) (k := 0)) _) (h B1 f hB1 hf)
end

section
open Ek PySem
variable {K : Fl} {hw : ∀ n, K = .f n → n < 2 ^ 60}
abbrev MZ : Mx := mxZ zu
theorem z_b {i : Nat} {x : Int} (hi : i ≤ 200) (h : x.natAbs ≤ 64 ^ i) : x.natAbs < 2 ^ 1201 := by
  refine Nat.lt_of_le_of_lt h ?_
  rw [show (64 : Nat) = 2 ^ 6 from rfl, ← Nat.pow_mul]
  exact Nat.pow_lt_pow_right (by omega) (by omega)
theorem z_mulok {i j : Nat} {x y : Int} (hi : i ≤ 200) (hj : j ≤ 200) (hx : x.natAbs ≤ 64 ^ i) (hy : y.natAbs ≤ 64 ^ j) : IntMulOk x y := mulW (z_b hi hx) (z_b hj hy) (by decide) (by decide) (by decide)
theorem z_lzero : PLZero MZ := fun h => law_zeroZ_spec h
theorem z_ladd : PLAdd MZ := fun _ _ _ h => law_addZ_spec h
theorem z_lmul : PLMul MZ := fun hi hj hx hy h => law_mulZ_spec (z_mulok hi hj hx hy) h
theorem smallZ_spec {ns : List Int} {B : Ob} {R : Sto} {Q : UQ} {E : Nat → Sto → Prop} {k : Nat} (hB : Cb ns B) (h : ∀ B' (x : Int), Cb ns B' → x.natAbs ≤ 49 → Q (.int x) (An ns :: An ns :: B' :: R)) : wpC G (k + 4) f_law_small [.ref 2, zu] (An ns :: An ns :: B :: R) Q E := by
  refine ente (d := d_law_small) 1 rfl rfl rfl (B_cons ?_)
  dsimp! only [zu]
  refine B_cons ?_
  dsimp! only []
  refine B_cons ?_
  dsimp! only []
  refine B_cons ?_
  dsimp! only []
  refine take_spec (by omega) (by omega) hB fun B1 d1 hB1 h1 h1' => ?_
  dsimp! only []
  refine take_spec (by omega) (by omega) hB1 fun B2 d2 hB2 h2 h2' => ?_
  dsimp! only []
  refine take_spec (by omega) (by omega) hB2 fun B3 d3 hB3 h3 h3' => ?_
  obtain ⟨j, ej, j0⟩ := pick_int (us := [.int (d1 - 4), .int 0, .int 0, .int 1, .int (d2 - 49)]) (i := d3) (fun j => -49 ≤ j ∧ j ≤ 49) h3 (by simpa using h3') (by
    simp only [List.mem_cons, List.not_mem_nil, or_false, forall_eq_or_imp, forall_eq]
    exact ⟨⟨_, rfl, by omega⟩, ⟨_, rfl, by omega⟩, ⟨_, rfl, by omega⟩, ⟨_, rfl, by omega⟩, ⟨_, rfl, by omega⟩⟩)
  dsimp! only [ej]
  exact fin_cell hB3 rfl (h B3 j hB3 (by omega))
theorem z_small : PSmall MZ := fun hB h => smallZ_spec hB fun B' x hB' hx => h B' x hB' (by show x.natAbs ≤ 64 ^ 1; omega)
end

section
open Ek PySem
variable {ns : List Int} {B : Ob} {R : Sto} {Q : UQ} {E : Nat → Sto → Prop} {k : Nat} {S : Sto} {M : Mx}
end

section
open Ek PySem
variable {K : Fl} {hw : ∀ n, K = .f n → n < 2 ^ 60}
end

section
open Ek PySem
variable {Q : UQ} {E : Nat → Sto → Prop} {k : Nat} {S : Sto} {K : Fl}
abbrev rwK (K : Fl) (w : Nat) (f : Nat → K.T) : List U := (List.range w).map fun k => K.c (f k)
theorem rwK_congr {w : Nat} {f g : Nat → K.T} (h : ∀ k, k < w → f k = g k) : rwK K w f = rwK K w g := List.map_congr_left fun k hk => by rw [h k (List.mem_range.mp hk)]
theorem rwK_set {w j : Nat} {f : Nat → K.T} {v : K.T} : (rwK K w f).set j (K.c v) = rwK K w (upd f j v) := by
  rw [map_set]
  congr 1
  funext k
  unfold upd
  split <;> rfl
theorem set_set {α : Type} {l : List α} {i : Nat} {x y : α} : (l.set i x).set i y = l.set i y := List.set_set ..
end

section
open Ek PySem
variable {Q : UQ} {E : Nat → Sto → Prop} {k : Nat} {S : Sto}
theorem log2T {x : Nat} (h : x < 2 ^ 400) : x.log2 < 9000 := by
  rcases Nat.eq_zero_or_pos x with z | z
  · subst z; decide
  · have := (Nat.log2_lt (by omega)).mpr h
    omega
theorem bits_gt {n : Int} (h : 0 < n) : n < 2 ^ (PySem.Builtin.Int.intBits n) := by
  unfold PySem.Builtin.Int.intBits
  rw [if_neg (by simp; omega)]
  have := Nat.lt_log2_self (n := n.natAbs)
  have e : ((2 ^ (n.natAbs.log2 + 1) : Nat) : Int) = 2 ^ (n.natAbs.log2 + 1) := by norm_cast
  rw [← e]
  omega
/-- a guess that is not below the root -/
theorem newton {n g : Int} (hn : 2 ≤ n) (hg : 0 < g) (h : n < (g + 1) * (g + 1)) (h2 : n < g * g) : 0 < (g + n.fdiv g).fdiv 2 ∧ (g + n.fdiv g).fdiv 2 < g ∧ n < ((g + n.fdiv g).fdiv 2 + 1) * ((g + n.fdiv g).fdiv 2 + 1) := by
  obtain ⟨q, m, hq, _, hd, m0, m1⟩ := fdq (a := n) (b := g) hg
  rw [hq]
  have e2 : (g + q).fdiv 2 = (g + q) / 2 := Int.fdiv_eq_ediv_of_nonneg _ (by omega)
  rw [e2]
  have hq0 : q < g := by
    rcases Int.lt_or_le q g with z | z
    · exact z
    · have : g * g ≤ q * g := Int.mul_le_mul_of_nonneg_right z (by omega)
      omega
  have hq1 : 0 ≤ q := by
    rcases Int.lt_or_le q 0 with z | z
    · have : q * g ≤ (-1) * g := Int.mul_le_mul_of_nonneg_right (by omega) (by omega)
      omega
    · exact z
  obtain ⟨z, hz⟩ : ∃ z, (g + q) / 2 = z := ⟨_, rfl⟩
  rw [hz]
  have b1 : g + q + 1 ≤ 2 * (z + 1) := by omega
  have b2 : 2 * z ≤ g + q := by omega
  have s1 : 0 ≤ (g - (q + 1)) * (g - (q + 1)) := by
    rcases Int.le_total 0 (g - (q + 1)) with w | w
    · exact Int.mul_nonneg w w
    · exact Int.mul_nonneg_of_nonpos_of_nonpos w w
  have s2 : (g + q + 1) * (g + q + 1) ≤ (2 * (z + 1)) * (2 * (z + 1)) := Int.mul_le_mul b1 b1 (by omega) (by omega)
  have s3 : n < (q + 1) * g := by
    have : (q + 1) * g = q * g + g := by grind
    omega
  have s4 : 4 * ((q + 1) * g) ≤ (g + q + 1) * (g + q + 1) := by grind
  have s5 : (2 * (z + 1)) * (2 * (z + 1)) = 4 * ((z + 1) * (z + 1)) := by grind
  refine ⟨?_, by omega, by omega⟩
  rcases Int.lt_or_le 0 z with w | w
  · exact w
  · have : (z + 1) * (z + 1) ≤ 1 * 1 := Int.mul_le_mul (by omega) (by omega) (by omega) (by omega)
    omega
theorem root_spec {n : Int} (h0 : 0 ≤ n) (hn : n < 2 ^ 330) (h : ∀ g, 0 ≤ g → g * g ≤ n → n < (g + 1) * (g + 1) → Q (.int g) S) : wpC G (k + 1) f_root [.int n] S Q E := by
  refine ente (d := d_root) 1 rfl rfl rfl (B_cons ?_)
  dsimp! only []
  refine ite_rule (fun h1 => B_cons ?_) (fun h1 => B_cons ?_)
  · dsimp! only []
    refine fin_id (h _ h0 ?_ ?_) <;> (have : n = 0 ∨ n = 1 := by omega) <;> rcases this with rfl | rfl <;> decide
  dsimp! only []
  have hb := PyProof.Rows.intBits_le (a := n) (k := 330) (by omega)
  have hb2 := bits_gt (n := n) (by omega)
  obtain ⟨b, hbe⟩ : ∃ b, PySem.Builtin.Int.intBits n = b := ⟨_, rfl⟩
  rw [hbe] at hb hb2
  have e2 : ((b : Int) + 1).fdiv 2 = (((b + 1) / 2 : Nat) : Int) := by
    rw [Int.fdiv_eq_ediv_of_nonneg _ (by omega)]; omega
  rw [hbe, e2]
  refine ⟨by decide, ⟨by omega, by omega, by decide⟩, B_cons ?_⟩
  dsimp! only []
  obtain ⟨g0, hg0⟩ : ∃ g0 : Int, (1 : Int) * 2 ^ ((((b + 1) / 2 : Nat) : Int)).toNat = g0 := ⟨_, rfl⟩
  rw [hg0]
  rw [Int.toNat_natCast, Int.one_mul] at hg0
  have p0 : 0 < g0 := by rw [← hg0]; exact Int.pow_pos (by omega)
  have p1 : n < g0 * g0 := by
    rw [← hg0, ← Int.pow_add]
    have : (2 : Int) ^ b ≤ 2 ^ ((b + 1) / 2 + (b + 1) / 2) := ipow_le (by omega) (by omega)
    omega
  have p2 : g0 ≤ 2 ^ 166 := by rw [← hg0]; exact ipow_le (by omega) (by omega)
  have p3 : g0 * g0 ≤ (g0 + 1) * (g0 + 1) := Int.mul_le_mul (by omega) (by omega) (by omega) (by omega)
  refine wh_rule (fun f σ' S' => S' = S ∧ ∃ g, 0 < g ∧ g ≤ 2 ^ 166 ∧ n < (g + 1) * (g + 1) ∧ g.natAbs = f ∧ σ' = [some (.int n), some (.int g)]) ?_ ⟨rfl, g0, p0, p2, by omega, rfl, rfl⟩
  rintro f σ' S' K ⟨rfl, g, hg, hg2, hn2, rfl, rfl⟩ hK
  dsimp! only []
  refine ⟨mulB (a := 167) (b := 167) (by omega) (by omega), ite_rule (fun h3 => B_cons ?_) (fun h3 => B_cons ?_)⟩
  · obtain ⟨w1, w2, w3⟩ := newton (by omega) hg hn2 h3
    dsimp! only []
    exact ⟨⟨by omega, log2T (by omega)⟩, by decide, hK _ _ _ (by omega) ⟨rfl, _, w1, by omega, w3, rfl, rfl⟩⟩
  · dsimp! only []
    exact fin_id (h _ (by omega) (by omega) hn2)
end

section
theorem sqn (x : Int) : 0 ≤ x * x := by
  rcases Int.le_total 0 x with h | h
  · exact Int.mul_nonneg h h
  · have := Int.mul_nonneg (show 0 ≤ -x by omega) (show 0 ≤ -x by omega)
    rwa [Int.neg_mul_neg] at this
theorem had2 {a b c d : Int} : (a * d - b * c) * (a * d - b * c) ≤ (a * a + b * b) * (c * c + d * d) := by
  have e : (a * a + b * b) * (c * c + d * d) = (a * d - b * c) * (a * d - b * c) + (a * c + b * d) * (a * c + b * d) := by grind
  have := sqn (a * c + b * d)
  omega
theorem cs3 {a b c x y z : Int} : (a * x + b * y + c * z) * (a * x + b * y + c * z) ≤ (a * a + b * b + c * c) * (x * x + y * y + z * z) := by
  have e : (a * a + b * b + c * c) * (x * x + y * y + z * z) = (a * x + b * y + c * z) * (a * x + b * y + c * z) + (a * y - b * x) * (a * y - b * x) + (a * z - c * x) * (a * z - c * x) + (b * z - c * y) * (b * z - c * y) := by grind
  have h1 := sqn (a * y - b * x)
  have h2 := sqn (a * z - c * x)
  have h3 := sqn (b * z - c * y)
  omega
theorem cr3 {a b c x y z : Int} : (b * z - c * y) * (b * z - c * y) + (c * x - a * z) * (c * x - a * z) + (a * y - b * x) * (a * y - b * x) ≤ (a * a + b * b + c * c) * (x * x + y * y + z * z) := by
  have e : (a * a + b * b + c * c) * (x * x + y * y + z * z) = (a * x + b * y + c * z) * (a * x + b * y + c * z) + (b * z - c * y) * (b * z - c * y) + (c * x - a * z) * (c * x - a * z) + (a * y - b * x) * (a * y - b * x) := by grind
  have h1 := sqn (a * x + b * y + c * z)
  omega
theorem cs4 {a b c d x y z w : Int} : (a * x + b * y + c * z + d * w) * (a * x + b * y + c * z + d * w) ≤ (a * a + b * b + c * c + d * d) * (x * x + y * y + z * z + w * w) := by
  have e : (a * a + b * b + c * c + d * d) * (x * x + y * y + z * z + w * w) = (a * x + b * y + c * z + d * w) * (a * x + b * y + c * z + d * w) + (a * y - b * x) * (a * y - b * x) + (a * z - c * x) * (a * z - c * x) + (a * w - d * x) * (a * w - d * x) + (b * z - c * y) * (b * z - c * y) + (b * w - d * y) * (b * w - d * y) + (c * w - d * z) * (c * w - d * z) := by grind
  have h1 := sqn (a * y - b * x)
  have h2 := sqn (a * z - c * x)
  have h3 := sqn (a * w - d * x)
  have h4 := sqn (b * z - c * y)
  have h5 := sqn (b * w - d * y)
  have h6 := sqn (c * w - d * z)
  omega
/-- the six minors of two rows -/
theorem pl4 {a b c d x y z w : Int} : (a * y - b * x) * (a * y - b * x) + (a * z - c * x) * (a * z - c * x) + (a * w - d * x) * (a * w - d * x) + (b * z - c * y) * (b * z - c * y) + (b * w - d * y) * (b * w - d * y) + (c * w - d * z) * (c * w - d * z) ≤ (a * a + b * b + c * c + d * d) * (x * x + y * y + z * z + w * w) := by
  have e : (a * a + b * b + c * c + d * d) * (x * x + y * y + z * z + w * w) = (a * x + b * y + c * z + d * w) * (a * x + b * y + c * z + d * w) + (a * y - b * x) * (a * y - b * x) + (a * z - c * x) * (a * z - c * x) + (a * w - d * x) * (a * w - d * x) + (b * z - c * y) * (b * z - c * y) + (b * w - d * y) * (b * w - d * y) + (c * w - d * z) * (c * w - d * z) := by grind
  have h1 := sqn (a * x + b * y + c * z + d * w)
  omega
/-- the four minors of a row and a two-form -/
theorem wd4 {u0 u1 u2 u3 p01 p02 p03 p12 p13 p23 : Int} : (u1 * p23 - u2 * p13 + u3 * p12) * (u1 * p23 - u2 * p13 + u3 * p12) + (u0 * p23 - u2 * p03 + u3 * p02) * (u0 * p23 - u2 * p03 + u3 * p02) + (u0 * p13 - u1 * p03 + u3 * p01) * (u0 * p13 - u1 * p03 + u3 * p01) + (u0 * p12 - u1 * p02 + u2 * p01) * (u0 * p12 - u1 * p02 + u2 * p01) ≤ (u0 * u0 + u1 * u1 + u2 * u2 + u3 * u3) * (p01 * p01 + p02 * p02 + p03 * p03 + p12 * p12 + p13 * p13 + p23 * p23) := by
  have e : (u0 * u0 + u1 * u1 + u2 * u2 + u3 * u3) * (p01 * p01 + p02 * p02 + p03 * p03 + p12 * p12 + p13 * p13 + p23 * p23) = (u1 * p23 - u2 * p13 + u3 * p12) * (u1 * p23 - u2 * p13 + u3 * p12) + (u0 * p23 - u2 * p03 + u3 * p02) * (u0 * p23 - u2 * p03 + u3 * p02) + (u0 * p13 - u1 * p03 + u3 * p01) * (u0 * p13 - u1 * p03 + u3 * p01) + (u0 * p12 - u1 * p02 + u2 * p01) * (u0 * p12 - u1 * p02 + u2 * p01) + (u1 * p01 + u2 * p02 + u3 * p03) * (u1 * p01 + u2 * p02 + u3 * p03) + (u0 * p01 - u2 * p12 - u3 * p13) * (u0 * p01 - u2 * p12 - u3 * p13) + (u0 * p02 + u1 * p12 - u3 * p23) * (u0 * p02 + u1 * p12 - u3 * p23) + (u0 * p03 + u1 * p13 + u2 * p23) * (u0 * p03 + u1 * p13 + u2 * p23) := by grind
  have h1 := sqn (u1 * p01 + u2 * p02 + u3 * p03)
  have h2 := sqn (u0 * p01 - u2 * p12 - u3 * p13)
  have h3 := sqn (u0 * p02 + u1 * p12 - u3 * p23)
  have h4 := sqn (u0 * p03 + u1 * p13 + u2 * p23)
  omega
theorem had3 {a b c d e f g h i : Int} : (a * (e * i - f * h) + b * (f * g - d * i) + c * (d * h - e * g)) * (a * (e * i - f * h) + b * (f * g - d * i) + c * (d * h - e * g)) ≤ (a * a + b * b + c * c) * ((d * d + e * e + f * f) * (g * g + h * h + i * i)) := by
  refine Int.le_trans cs3 ?_
  have hn : 0 ≤ a * a + b * b + c * c := by
    have := sqn a; have := sqn b; have := sqn c; omega
  exact Int.mul_le_mul_of_nonneg_left cr3 hn
theorem had4 {a b c d e f g h i j k l m n o p : Int} :
    (a * (f * (k * p - l * o) - g * (j * p - l * n) + h * (j * o - k * n)) + b * (-(e * (k * p - l * o) - g * (i * p - l * m) + h * (i * o - k * m))) + c * (e * (j * p - l * n) - f * (i * p - l * m) + h * (i * n - j * m)) + d * (-(e * (j * o - k * n) - f * (i * o - k * m) + g * (i * n - j * m)))) * (a * (f * (k * p - l * o) - g * (j * p - l * n) + h * (j * o - k * n)) + b * (-(e * (k * p - l * o) - g * (i * p - l * m) + h * (i * o - k * m))) + c * (e * (j * p - l * n) - f * (i * p - l * m) + h * (i * n - j * m)) + d * (-(e * (j * o - k * n) - f * (i * o - k * m) + g * (i * n - j * m)))) ≤ (a * a + b * b + c * c + d * d) * ((e * e + f * f + g * g + h * h) * ((i * i + j * j + k * k + l * l) * (m * m + n * n + o * o + p * p))) := by
  refine Int.le_trans cs4 ?_
  have hn : 0 ≤ a * a + b * b + c * c + d * d := by
    have := sqn a; have := sqn b; have := sqn c; have := sqn d; omega
  have hm : 0 ≤ e * e + f * f + g * g + h * h := by
    have := sqn e; have := sqn f; have := sqn g; have := sqn h; omega
  refine Int.mul_le_mul_of_nonneg_left ?_ hn
  rw [Int.neg_mul_neg, Int.neg_mul_neg]
  refine Int.le_trans wd4 ?_
  refine Int.mul_le_mul_of_nonneg_left ?_ hm
  exact pl4
/-- from squares to sizes -/
theorem sq_abs {x H : Int} (hH : 0 ≤ H) (h : x * x ≤ H * H) : x ≤ H ∧ -H ≤ x := by
  have key : ∀ y : Int, y * y ≤ H * H → y ≤ H := fun y hy => by
    rcases Decidable.em (y ≤ H) with w | w
    · exact w
    · have : (H + 1) * (H + 1) ≤ y * y := Int.mul_le_mul (by omega) (by omega) (by omega) (by omega)
      have e : (H + 1) * (H + 1) = H * H + 2 * H + 1 := by grind
      omega
  refine ⟨key x h, ?_⟩
  have := key (-x) (by rw [Int.neg_mul_neg]; exact h)
  omega
end

section
open Ek PySem
def prWS (n : Int) : Nat → Int → Bool
  | 0, _ => true
  | f + 1, k => if k * k ≤ n then (if n.fmod k = 0 then false else prWS n f (k + 2)) else true
def prS (n : Int) : Bool := if n < 4 then decide (1 < n) else if n.fmod 2 = 0 then false else prWS n n.toNat 3
theorem sq_gtS {k n : Int} (h : n < k) (hk : 3 ≤ k) : ¬ k * k ≤ n := by
  have : 1 * k ≤ k * k := Int.mul_le_mul_of_nonneg_right (by omega) (by omega)
  omega
theorem sq_leS {k n : Int} (h : k * k ≤ n) (hk : 3 ≤ k) : k + 2 ≤ n := by
  have : 3 * k ≤ k * k := Int.mul_le_mul_of_nonneg_right (by omega) (by omega)
  omega
theorem prW_trueS {n : Int} : ∀ (f : Nat) (k : Int), (∀ j : Nat, j < f → n.fmod (k + 2 * j) ≠ 0 ∨ n < (k + 2 * j) * (k + 2 * j)) → prWS n f k = true
  | 0, _, _ => rfl
  | f + 1, k, h => by
    rw [prWS]
    split
    · rename_i h1
      have := h 0 (by omega)
      simp only [Int.natCast_zero, Int.mul_zero, Int.add_zero] at this
      rw [if_neg (by omega)]
      refine prW_trueS f (k + 2) fun j hj => ?_
      have := h (j + 1) (by omega)
      have e : k + 2 + 2 * (j : Int) = k + 2 * ((j + 1 : Nat) : Int) := by omega
      rw [e]; exact this
    · rfl
def allBS (p : Nat → Bool) : Nat → Nat → Bool
  | 0, lo => p lo
  | d + 1, lo => allBS p d lo && allBS p d (lo + 2 ^ d)
theorem allB_specS {p : Nat → Bool} : ∀ (d lo : Nat), allBS p d lo = true → ∀ j, lo ≤ j → j < lo + 2 ^ d → p j = true
  | 0, lo, h, j, h1, h2 => by
    have : j = lo := by simp at h2; omega
    rw [this]; exact h
  | d + 1, lo, h, j, h1, h2 => by
    rw [allBS, Bool.and_eq_true] at h
    rw [Nat.pow_succ] at h2
    rcases Nat.lt_or_ge j (lo + 2 ^ d) with z | z
    · exact allB_specS d lo h.1 j h1 z
    · exact allB_specS d _ h.2 j z (by omega)
abbrev PPS : Nat := 2147483659
theorem ppchkS : allBS (fun j => PPS % (3 + 2 * j) != 0) 15 0 = true := by decide +kernel
theorem pr_ppS : prS 2147483659 = true := by
  unfold prS
  rw [if_neg (by decide), if_neg (by decide)]
  refine prW_trueS _ _ fun j hj => ?_
  rcases Nat.lt_or_ge j 32768 with z | z
  · left
    have := allB_specS 15 0 ppchkS j (by omega) (by simpa using z)
    simp only [bne_iff_ne, ne_eq] at this
    intro h
    apply this
    have e : (2147483659 : Int).fmod (3 + 2 * (j : Int)) = ((PPS % (3 + 2 * j) : Nat) : Int) := by
      rw [Int.fmod_eq_emod_of_nonneg _ (by omega), Int.natCast_emod, Int.natCast_add, Int.natCast_mul]
      rfl
    rw [e] at h
    exact Int.ofNat_eq_zero.mp h
  · right
    have : (65539 : Int) * 65539 ≤ (3 + 2 * (j : Int)) * (3 + 2 * (j : Int)) := Int.mul_le_mul (by omega) (by omega) (by omega) (by omega)
    omega
variable {ns : List Int} {B : Ob} {R : Sto} {Q : UQ} {E : Nat → Sto → Prop} {k : Nat}
theorem prime_prS {S : Sto} {n : Int} (hn : n < 2 ^ 63) (h : Q (.bl (prS n)) S) : wpC G (k + 1) f_is_prime [.int n] S Q E := by
  refine ente (d := d_is_prime) 1 rfl rfl rfl (B_cons ?_)
  unfold prS at h
  dsimp! only []
  refine ite_rule (fun h1 => B_cons ?_) (fun h1 => B_cons ?_)
  · dsimp! only []
    rw [if_pos h1] at h
    exact fin_id h
  rw [if_neg h1] at h
  dsimp! only []
  refine ite_rule (fun h2 => B_cons ?_) (fun h2 => B_cons ?_)
  · dsimp! only []
    rw [if_pos h2] at h
    exact fin_id h
  rw [if_neg h2] at h
  dsimp! only []
  refine B_cons ?_
  dsimp! only []
  refine wh_rule (fun f σ' S' => S' = S ∧ ∃ j, 3 ≤ j ∧ j ≤ n ∧ n < j + 2 * f ∧ Q (.bl (prWS n f j)) S ∧ σ' = [some (.int n), some (.int j)]) ?_ ⟨rfl, 3, by omega, by omega, by omega, h, rfl⟩
  rintro f σ' S' K ⟨rfl, j, j1, j2, j3, hq, rfl⟩ hK
  dsimp! only []
  refine ⟨mulS (by omega), ite_rule (fun h3 => B_cons ?_) (fun h3 => B_cons ?_)⟩
  · obtain ⟨f, rfl⟩ : ∃ f', f = f' + 1 := ⟨f - 1, by
      rcases Nat.eq_zero_or_pos f with z | z
      · subst z; exact absurd h3 (sq_gtS (by omega) j1)
      · omega⟩
    rw [prWS, if_pos h3] at hq
    have := sq_leS h3 j1
    dsimp! only []
    refine ⟨by omega, ite_rule (fun h4 => B_cons ?_) (fun h4 => B_cons ?_)⟩
    · dsimp! only []
      rw [if_pos h4] at hq
      exact fin_id hq
    · rw [if_neg h4] at hq
      dsimp! only []
      exact hK f _ _ (by omega) ⟨rfl, _, by omega, by omega, by omega, hq, rfl⟩
  · dsimp! only []
    cases f with
    | zero => exact fin_id hq
    | succ f =>
      rw [prWS, if_neg h3] at hq
      exact fin_id hq
/-- the least prime above n -/
structure Nx (n r : Int) : Prop where
  p : prS r = true
  g : n < r
  le : r ≤ 2147483659
  no : ∀ j, n < j → j < r → prS j = false
theorem Nx.uniq {n r s : Int} (h : Nx n r) (g : Nx n s) : r = s := by
  rcases Int.lt_trichotomy r s with z | z | z
  · have := g.no r h.g z
    rw [h.p] at this; cases this
  · exact z
  · have := h.no s g.g z
    rw [g.p] at this; cases this
theorem next_spec {S : Sto} {n : Int} (h0 : -(2 ^ 60) < n) (hn : n ≤ 2147483648) (h : ∀ r, Nx n r → Q (.int r) S) : wpC G (k + 2) f_next_prime [.int n] S Q E := by
  refine ente (d := d_next_prime) 0 rfl rfl rfl (B_cons ?_)
  dsimp! only []
  refine B_cons ?_
  dsimp! only []
  refine wh_rule (fun f σ' S' => S' = S ∧ ∃ j, n < j ∧ j ≤ 2147483659 ∧ f = (2147483659 - j).toNat ∧ (∀ i, n < i → i < j → prS i = false) ∧ σ' = [some (.int j)]) ?_ ⟨rfl, n + 1, by omega, by omega, rfl, fun i _ _ => by omega, rfl⟩
  rintro f σ' S' K ⟨rfl, j, j1, j2, rfl, hq, rfl⟩ hK
  dsimp! only []
  refine prime_prS (by omega) ?_
  dsimp! only []
  cases hp : prS j with
  | true =>
    refine ifn (by decide) (B_cons ?_)
    dsimp! only []
    exact fin_id (h _ ⟨hp, j1, j2, hq⟩)
  | false =>
    refine ifp rfl (B_cons ?_)
    have hne : j ≠ 2147483659 := fun z => by rw [z, pr_ppS] at hp; cases hp
    dsimp! only []
    refine hK _ _ _ ?_ ⟨rfl, j + 1, by omega, by omega, rfl, fun i hi hi2 => ?_, rfl⟩
    · omega
    · rcases Int.lt_or_eq_of_le (show i ≤ j by omega) with z | z
      · exact hq i hi z
      · rw [z]; exact hp
end

section
open Ek PySem
variable {Q : UQ} {E : Nat → Sto → Prop} {k : Nat} {S : Sto}
def P9 : List Nat := [32771, 32779, 32783, 32789, 32797, 32801, 32803, 32831, 32833, 32839, 32843, 32869, 32887, 32909, 32911, 32917, 32933, 32939, 32941, 32957, 32969, 32971, 32983, 32987, 32993, 32999, 33013, 33023, 33029, 33037, 33049, 33053, 33071, 33073, 33083, 33091, 33107, 33113, 33119, 33149, 33151, 33161, 33179, 33181, 33191]
def pi (i : Nat) : Nat := (32768 :: P9).getD i 0
def pp : Nat → Nat
  | 0 => 1
  | i + 1 => pp i * pi (i + 1)
theorem tab_pr : ((List.range 424).all fun t => prS ((32768 + t : Nat) : Int) == P9.contains (32768 + t)) = true := by decide +kernel
theorem tab_p : (P9.all fun p => (List.range 183).all fun d => decide (d < 2) || !(p % d == 0)) = true := by decide +kernel
theorem tab_g : ((List.range 45).all fun i => decide (pi i < pi (i + 1)) && decide (pi (i + 1) ≤ 33191) && (pi (i + 1) % 2 == 1) && P9.contains (pi (i + 1)) && (List.range 424).all fun t => !(decide (pi i < 32768 + t) && decide (32768 + t < pi (i + 1))) || !P9.contains (32768 + t)) = true := by decide +kernel
theorem pp9 : 2 ^ 672 < pp 45 := by decide +kernel
theorem tab_i {i : Nat} (h : i < 45) : pi i < pi (i + 1) ∧ pi (i + 1) ≤ 33191 ∧ pi (i + 1) % 2 = 1 ∧ P9.contains (pi (i + 1)) = true ∧ ∀ x, 32768 ≤ x → pi i < x → x < pi (i + 1) → P9.contains x = false := by
  have := List.all_eq_true.mp tab_g i (List.mem_range.mpr h)
  simp only [Bool.and_eq_true, decide_eq_true_eq, beq_iff_eq] at this
  obtain ⟨⟨⟨⟨h1, h2⟩, h3⟩, h4⟩, h5⟩ := this
  refine ⟨h1, h2, h3, h4, fun x hx h6 h7 => ?_⟩
  have := List.all_eq_true.mp h5 (x - 32768) (List.mem_range.mpr (by omega))
  rw [show 32768 + (x - 32768) = x by omega, decide_eq_true h6, decide_eq_true h7] at this
  simpa using this
theorem pi_lo {i : Nat} (h : i ≤ 45) : 32768 ≤ pi i := by
  have : ((List.range 46).all fun i => decide (32768 ≤ pi i)) = true := by decide +kernel
  exact of_decide_eq_true (List.all_eq_true.mp this i (List.mem_range.mpr (by omega)))
theorem pr_tab {x : Nat} (h1 : 32768 ≤ x) (h2 : x ≤ 33191) : prS (x : Int) = P9.contains x := by
  have := List.all_eq_true.mp tab_pr (x - 32768) (List.mem_range.mpr (by omega))
  rw [show 32768 + (x - 32768) = x by omega] at this
  simpa using this
theorem nx_pi {i : Nat} (h : i < 45) : Nx ((pi i : Nat) : Int) ((pi (i + 1) : Nat) : Int) := by
  obtain ⟨h1, h2, h3, h4, h5⟩ := tab_i h
  have h0 := pi_lo (i := i) (by omega)
  refine ⟨by rw [pr_tab (by omega) h2]; exact h4, by omega, by omega, fun j hj hj2 => ?_⟩
  obtain ⟨x, rfl⟩ : ∃ x : Nat, j = (x : Nat) := ⟨j.toNat, by omega⟩
  rw [pr_tab (by omega) (by omega)]
  exact h5 x (by omega) (by omega) (by omega)
theorem pp_le {i j : Nat} (h : i ≤ j) (hj : j ≤ 45) : pp i ≤ pp j := by
  have : ((List.range 46).all fun i => (List.range 46).all fun j => decide (j < i) || decide (pp i ≤ pp j)) = true := by decide +kernel
  have := List.all_eq_true.mp (List.all_eq_true.mp this i (List.mem_range.mpr (by omega))) j (List.mem_range.mpr (by omega))
  rw [decide_eq_false (show ¬ j < i by omega), Bool.false_or] at this
  exact of_decide_eq_true this
theorem pp_b {i : Nat} (h : i ≤ 45) : pp i < 2 ^ 690 := Nat.lt_of_le_of_lt (pp_le h (Nat.le_refl 45)) (by decide +kernel)
def pL (i : Nat) : List U := (List.range i).map fun t => U.int (pi (t + 1) : Nat)
theorem pL_succ {i : Nat} : pL i ++ [U.int (pi (i + 1) : Nat)] = pL (i + 1) := by unfold pL; rw [List.range_succ, List.map_append]; rfl
structure Pm (m : Int) (i : Nat) : Prop where
  i9 : i ≤ 45
  gt : m < (pp i : Nat)
  le : ∀ j, j < i → ((pp j : Nat) : Int) ≤ m
theorem Pm.uniq {m : Int} {i j : Nat} (h : Pm m i) (g : Pm m j) : i = j := by
  rcases Nat.lt_trichotomy i j with z | z | z
  · have := g.le i z; have := h.gt; omega
  · exact z
  · have := h.le j z; have := g.gt; omega
theorem primes_for_spec {m : Int} (hm : m ≤ 2 ^ 672) (h : ∀ i, Pm m i → Q (.ref S.length) (S ++ [.lst (pL i)])) : wpC G (k + 3) f_primes_for [.int m] S Q E := by
  have bg : (1000 : Nat) ≤ big := by decide
  refine ente (d := d_primes_for) 3 rfl rfl rfl (B_cons ?_)
  dsimp! only []
  refine B_cons ?_
  dsimp! only []
  refine B_cons ?_
  dsimp! only []
  refine B_cons ?_
  dsimp! only []
  refine wh_rule (fun f σ' S' => ∃ i, i ≤ 45 ∧ f = 45 - i ∧ (∀ j, j < i → ((pp j : Nat) : Int) ≤ m) ∧ S' = S ++ [.lst (pL i)] ∧ σ' = [some (.int m), some (.ref S.length), some (.int (pp i : Nat)), some (.int (pi i : Nat))]) ?_ ⟨0, by omega, rfl, fun j hj => by omega, rfl, rfl⟩
  rintro f σ' S' K ⟨i, hi, rfl, hle, rfl, rfl⟩ hK
  dsimp! only []
  refine ite_rule (fun h3 => B_cons ?_) (fun h3 => B_cons ?_)
  · have i9 : i < 45 := by
      rcases Nat.lt_or_ge i 45 with w | w
      · exact w
      · have e : i = 45 := by omega
        subst e
        have := pp9
        omega
    obtain ⟨h1, h2, _⟩ := tab_i i9
    dsimp! only []
    refine next_spec (by omega) (by have := pi_lo (i := i) hi; omega) fun r hr => ?_
    rw [Nx.uniq hr (nx_pi i9)]
    refine B_cons ?_
    dsimp! only []
    refine ⟨by unfold pL; simp; omega, B_cons ?_⟩
    rw [pL_succ]
    dsimp! only []
    refine ⟨mulB (a := 690) (b := 64) (by have := pp_b hi; omega) (by omega), ?_⟩
    refine hK _ _ _ (by omega) ⟨i + 1, by omega, rfl, fun j hj => ?_, rfl, by rw [pp, Int.natCast_mul]⟩
    rcases Nat.lt_or_eq_of_le (show j ≤ i by omega) with z | z
    · exact hle j z
    · rw [z]; exact h3
  · dsimp! only []
    exact fin_id (h i ⟨hi, by omega, hle⟩)
end

section
open Ek PySem
variable {Q : UQ} {E : Nat → Sto → Prop} {k : Nat} {S : Sto}
def ordsL : Nat → List (List Nat)
  | 0 => [[]]
  | k + 1 => (ordsL k).flatMap fun o => (List.range (k + 1)).map fun i => o.take i ++ [k] ++ o.drop i
def uo (o : List Nat) : List U := o.map fun j => U.int (j : Nat)
theorem get_ext {h : Nat} {S T : Sto} {o : Ob} (e : S[h]? = some o) : (S ++ T)[h]? = some o := by
  have : h < S.length := by
    rcases Nat.lt_or_ge h S.length with w | w
    · exact w
    · rw [List.getElem?_eq_none w] at e; cases e
  rw [List.getElem?_append_left this]; exact e
theorem live_ext {h : Nat} {S T : Sto} {us : List U} (hl : live (some h) S us) : live (some h) (S ++ T) us := by
  obtain ⟨o, e, h2⟩ := hl
  exact ⟨o, get_ext e, h2⟩
theorem nest_cons {S : Sto} {h : Nat} {us : List U} {o : Ob} {L : List (List U)} (e : S[h]? = some o) (hn : nestU S us = some L) : nestU S (.ref h :: us) = some (o.items :: L) := by
  show (match S[h]? with | some o => (nestU S us).map (o.items :: ·) | none => none) = _
  rw [e, hn]; rfl
theorem nest_inv {S : Sto} {u : U} {us : List U} {L : List (List U)} (h : nestU S (u :: us) = some L) : ∃ r o L', u = .ref r ∧ S[r]? = some o ∧ nestU S us = some L' ∧ L = o.items :: L' := by
  cases u with
  | ref r =>
    have h : (match S[r]? with | some o => (nestU S us).map (o.items :: ·) | none => none) = some L := h
    cases e : S[r]? with
    | none => rw [e] at h; cases h
    | some o =>
      rw [e] at h
      cases e2 : nestU S us with
      | none => rw [e2] at h; cases h
      | some L' => rw [e2] at h; cases h; exact ⟨r, o, L', rfl, e, rfl, rfl⟩
  | _ => cases h
theorem nest_ext {S T : Sto} : ∀ {us : List U} {L : List (List U)}, nestU S us = some L → nestU (S ++ T) us = some L
  | [], L, h => h
  | u :: us, L, h => by
    obtain ⟨r, o, L', rfl, e, e2, rfl⟩ := nest_inv h
    exact nest_cons (get_ext e) (nest_ext e2)
theorem nest_app {S : Sto} {vs : List U} {L' : List (List U)} (hv : nestU S vs = some L') : ∀ {us : List U} {L : List (List U)}, nestU S us = some L → nestU S (us ++ vs) = some (L ++ L')
  | [], L, h => by cases h; exact hv
  | u :: us, L, h => by
    obtain ⟨r, o, L2, rfl, e, e2, rfl⟩ := nest_inv h
    exact nest_cons e (nest_app hv e2)
theorem nest_len {S : Sto} : ∀ {us : List U} {L : List (List U)}, nestU S us = some L → us.length = L.length
  | [], L, h => by cases h; rfl
  | u :: us, L, h => by
    obtain ⟨r, o, L', rfl, e, e2, rfl⟩ := nest_inv h
    rw [List.length_cons, List.length_cons, nest_len e2]
theorem ords_len {o : List Nat} : ∀ {k : Nat}, o ∈ ordsL k → o.length = k
  | 0, h => by rw [ordsL, List.mem_singleton] at h; subst h; rfl
  | k + 1, h => by
    rw [ordsL, List.mem_flatMap] at h
    obtain ⟨o', ho', h⟩ := h
    obtain ⟨i, hi, rfl⟩ := List.mem_map.mp h
    have := ords_len ho'
    have := List.mem_range.mp hi
    simp; omega
theorem gc2 {R : Sto} {a b c : Ob} : (R ++ [a] ++ [b] ++ [c])[R.length + 1 + 1]? = some c := by
  have e : R.length + 1 + 1 = (R ++ [a] ++ [b]).length := by simp
  rw [e, List.getElem?_concat_length]
theorem gd3 {R : Sto} {a b c d : Ob} : (R ++ [a] ++ [b] ++ [c] ++ [d])[R.length + 1 + 1 + 1]? = some d := by
  have e : R.length + 1 + 1 + 1 = (R ++ [a] ++ [b] ++ [c]).length := by simp
  rw [e, List.getElem?_concat_length]
theorem ge4 {R : Sto} {a b c d e : Ob} : (R ++ [a] ++ [b] ++ [c] ++ [d] ++ [e])[R.length + 1 + 1 + 1 + 1]? = some e := by
  have h : R.length + 1 + 1 + 1 + 1 = (R ++ [a] ++ [b] ++ [c] ++ [d]).length := by simp
  rw [h, List.getElem?_concat_length]
theorem law_orders_spec {n : Nat} (hn : n ≤ 4) (h : ∀ T us hd, (S ++ T)[hd]? = some (.lst us) → nestU (S ++ T) us = some ((ordsL n).map uo) → Q (.ref hd) (S ++ T)) : wpC G (k + 1) f_law_orders [.int (n : Nat)] S Q E := by
  have bg : (1000 : Nat) ≤ big := by decide
  have cnt : ∀ j, j ≤ 4 → (ordsL j).length ≤ 24 := fun j hj => by
    have : ((List.range 5).all fun j => decide ((ordsL j).length ≤ 24)) = true := by decide +kernel
    exact of_decide_eq_true (List.all_eq_true.mp this j (List.mem_range.mpr (by omega)))
  refine ente (d := d_law_orders) 5 rfl rfl rfl (B_cons ?_)
  dsimp! only []
  refine B_cons ?_
  dsimp! only []
  refine ⟨nearN (by omega), ?_⟩
  rw [Int.toNat_natCast, range_map0]
  refine for_mapR (fun j σ' S' => ∃ T us hd z2 z3 z4 z5, S' = S ++ T ∧ (S ++ T)[hd]? = some (.lst us) ∧ nestU (S ++ T) us = some ((ordsL j).map uo) ∧ σ' = [some (.int (n : Nat)), some (.ref hd), z2, z3, z4, z5]) (fun _ _ _ _ => trivial) ⟨[.lst [], .lst [.ref S.length]], [.ref S.length], S.length + 1, none, none, none, none, by simp, ?_, ?_, rfl⟩ ?_ ?_
  · rw [List.getElem?_append_right (by omega), show S.length + 1 - S.length = 1 by omega]; rfl
  · refine nest_cons (o := .lst []) ?_ rfl
    rw [List.getElem?_append_right (by omega), Nat.sub_self]; rfl
  · rintro σ' S' ⟨T, us, hd, z2, z3, z4, z5, rfl, e1, e2, rfl⟩
    refine B_cons ?_
    dsimp! only []
    exact fin_id (h T us hd e1 e2)
  · rintro j σ' S' K hj ⟨T, us, hd, z2, z3, z4, z5, rfl, e1, e2, rfl⟩ hK
    dsimp! only []
    refine B_cons ?_
    obtain ⟨S1, hS1⟩ : ∃ S1, S ++ T = S1 := ⟨_, rfl⟩
    rw [hS1] at e1 e2 ⊢
    dsimp! only []
    refine B_cons ?_
    dsimp! only [get_ext e1]
    refine for_rule (fun xs σ' S' => ∃ T1 acc hd1 r L0 z4 z5, S' = S1 ++ T1 ∧ (S1 ++ T1)[hd1]? = some (.lst acc) ∧ nestU (S1 ++ T1) acc = some (L0.map uo) ∧ xs = r ∧ (∃ Lr : List (List Nat), nestU S1 r = some (Lr.map uo) ∧ (L0 ++ Lr.flatMap fun o => (List.range (j + 1)).map fun i => o.take i ++ [j] ++ o.drop i) = ordsL (j + 1) ∧ ∀ o ∈ Lr, o.length = j) ∧ σ' = [some (.int (n : Nat)), some (.ref hd), some (.int (j : Nat)), some (.ref hd1), z4, z5]) ?_ ?_ ?_ _ _ _ ⟨[.lst []], [], S1.length, us, [], _, _, rfl, by simp, rfl, rfl, ⟨ordsL j, e2, rfl, fun o ho => ords_len ho⟩, rfl⟩
    · rintro xs σ S' ⟨T1, acc, hd1, r, L0, z4, z5, rfl, _⟩
      exact live_ext ⟨_, e1, rfl⟩
    · rintro σ S' ⟨T1, acc, hd1, r, L0, z4, z5, rfl, a1, a2, e, ⟨Lr, b1, b2, b3⟩, rfl⟩
      cases e
      have : Lr = [] := by
        cases Lr with
        | nil => rfl
        | cons x y => cases b1
      subst this
      rw [List.flatMap_nil, List.append_nil] at b2
      subst b2
      refine B_cons ?_
      dsimp! only []
      refine hK _ _ ⟨T ++ T1, acc, hd1, _, _, _, _, by rw [← hS1, List.append_assoc], ?_, ?_, rfl⟩
      · rw [← List.append_assoc, hS1]; exact a1
      · rw [← List.append_assoc, hS1]; exact a2
    · rintro x xs σ S' K1 ⟨T1, acc, hd1, r, L0, z4, z5, rfl, a1, a2, e, ⟨Lr, b1, b2, b3⟩, rfl⟩ hK1
      subst e
      obtain ⟨rr, ob, L', rfl, c1, c2, c3⟩ := nest_inv b1
      obtain ⟨o, Lr', rfl, c4, c5⟩ : ∃ o Lr', Lr = o :: Lr' ∧ ob.items = uo o ∧ L' = Lr'.map uo := by
        cases Lr with
        | nil => cases c3
        | cons o Lr' => rw [List.map_cons] at c3; injection c3 with c3a c3b; exact ⟨o, Lr', rfl, c3a.symm, c3b.symm⟩
      have ho := b3 o List.mem_cons_self
      have c6 : S1[rr]? = some (.lst (uo o)) := by
        rw [c1]; cases ob with | lst v => have c4 : v = uo o := c4; rw [c4]
      subst c5
      obtain ⟨S2, hS2⟩ : ∃ S2, S1 ++ T1 = S2 := ⟨_, rfl⟩
      have c7 : S2[rr]? = some (.lst (uo o)) := by rw [← hS2]; exact get_ext c6
      rw [hS2] at a1 a2 ⊢
      dsimp! only []
      refine B_cons ?_
      dsimp! only []
      refine ⟨⟨by omega, by omega⟩, ?_⟩
      rw [show ((j : Nat) : Int) + 1 = ((j + 1 : Nat) : Int) from rfl, Int.toNat_natCast, range_map0]
      refine comp_rule (fun xs acc' S' => ∃ i T2, i ≤ j + 1 ∧ xs = ((List.range (j + 1)).map fun i => U.int ((i : Nat) : Int)).drop i ∧ S' = S2 ++ T2 ∧ nestU (S2 ++ T2) acc' = some ((List.range i).map fun i => uo (o.take i ++ [j] ++ o.drop i))) ?_ ?_ ?_ _ _ _ ⟨0, [], by omega, rfl, (List.append_nil _).symm, rfl⟩
      · rintro xs acc' S' ⟨i, T2, hi, rfl, rfl, hn'⟩
        refine ⟨trivial, ?_⟩
        rw [nest_len hn']
        simp; omega
      · rintro acc' S' ⟨i, T2, hi, e, rfl, hn'⟩
        have hi' : i = j + 1 := by
          rcases Nat.lt_or_ge i (j + 1) with w | w
          · rw [map_drop w] at e; cases e
          · omega
        subst hi'
        dsimp! only []
        refine ⟨_, get_ext (get_ext a1), _, get_end, ?_, ?_⟩
        · rw [nest_len a2, nest_len hn', List.length_map, List.length_map, List.length_range]
          have := congrArg List.length b2
          have := cnt (j + 1) (by omega)
          simp only [List.length_append] at *
          omega
        · have e9 : S2 ++ T2 ++ [Ob.lst acc'] ++ [Ob.lst (acc ++ acc')] = S1 ++ (T1 ++ T2 ++ [Ob.lst acc'] ++ [Ob.lst (acc ++ acc')]) := by
            rw [← hS2]; simp only [List.append_assoc]
          refine hK1 _ _ ⟨T1 ++ T2 ++ [Ob.lst acc'] ++ [Ob.lst (acc ++ acc')], acc ++ acc', _, _, L0 ++ ((List.range (j + 1)).map fun i => o.take i ++ [j] ++ o.drop i), _, _, e9, ?_, ?_, rfl, ⟨Lr', c2, ?_, fun x hx => b3 x (List.mem_cons_of_mem _ hx)⟩, rfl⟩
          · rw [← e9]
            have e10 : S2.length + T2.length + 1 = (S2 ++ T2 ++ [Ob.lst acc']).length := by simp; omega
            rw [e10, List.getElem?_concat_length]
          · rw [← e9, List.map_append, List.map_map]
            exact nest_app (nest_ext (nest_ext hn')) (nest_ext (nest_ext (nest_ext a2)))
          · rw [← b2, List.flatMap_cons, List.append_assoc]
      · rintro x xs acc' S' K2 ⟨i, T2, hi, e, rfl, hn'⟩ hK2
        rcases Nat.lt_or_ge i (j + 1) with w | w
        · rw [map_drop w] at e
          cases e
          have c8 : (S2 ++ T2)[rr]? = some (.lst (uo o)) := get_ext c7
          obtain ⟨S3, hS3⟩ : ∃ S3, S2 ++ T2 = S3 := ⟨_, rfl⟩
          rw [hS3] at c8 hn' ⊢
          have lo : (uo o).length = j := by unfold uo; rw [List.length_map, ho]
          have s1 : cutB (uo o).length (uo o).length (.int (i : Nat)) = some i := by
            show some (HT.sIx _ _ (some ((i : Nat) : Int))) = _
            rw [show HT.sIx (uo o).length (uo o).length (some ((i : Nat) : Int)) = min i (uo o).length from HT.sIx_nat _ _ i, Nat.min_eq_left (by omega)]
          have s0 : cutB (uo o).length 0 (.int (i : Nat)) = some i := by
            show some (HT.sIx _ _ (some ((i : Nat) : Int))) = _
            rw [show HT.sIx (uo o).length 0 (some ((i : Nat) : Int)) = min i (uo o).length from HT.sIx_nat _ _ i, Nat.min_eq_left (by omega)]
          have sn : ∀ {N d : Nat}, cutB N d .non = some d := rfl
          have t1 : List.take (i - 0) (List.drop 0 (uo o)) = uo (o.take i) := by
            rw [List.drop_zero, Nat.sub_zero]; unfold uo; rw [List.map_take]
          have t2 : List.take ((uo o).length - i) (List.drop i (uo o)) = uo (o.drop i) := by
            rw [List.take_of_length_le (by simp)]; unfold uo; rw [List.map_drop]
          dsimp! only [c8, sn, s1]
          rw [t1]
          refine ⟨by unfold uo; simp; omega, _, get_ext (get_ext (get_ext c8)), i, s0, ?_⟩
          have t3 : List.take ((Ob.lst (uo o)).1.length - i) (List.drop i (Ob.lst (uo o)).1) = uo (o.drop i) := t2
          rw [t3]
          refine ⟨_, get_ext (gc2 (R := S3)), _, gd3 (R := S3), by unfold uo; simp; omega, ?_⟩
          have e11 : uo (o.take i) ++ [U.int (j : Nat)] ++ uo (o.drop i) = uo (o.take i ++ [j] ++ o.drop i) := by
            unfold uo; rw [List.map_append, List.map_append]; rfl
          rw [e11]
          have e12 : S3 ++ [Ob.lst (uo (o.take i))] ++ [Ob.lst [U.int (j : Nat)]] ++ [Ob.lst (uo (o.take i) ++ [U.int (j : Nat)])] ++ [Ob.lst (uo (o.drop i))] ++ [Ob.lst (uo (o.take i ++ [j] ++ o.drop i))] = S2 ++ (T2 ++ [Ob.lst (uo (o.take i))] ++ [Ob.lst [U.int (j : Nat)]] ++ [Ob.lst (uo (o.take i) ++ [U.int (j : Nat)])] ++ [Ob.lst (uo (o.drop i))] ++ [Ob.lst (uo (o.take i ++ [j] ++ o.drop i))]) := by
            rw [← hS3]; simp only [List.append_assoc]
          refine hK2 _ _ ⟨i + 1, _, by omega, rfl, e12, ?_⟩
          rw [← e12, List.range_succ, List.map_append]
          refine nest_app (nest_cons (o := .lst (uo (o.take i ++ [j] ++ o.drop i))) ge4 rfl) (nest_ext (nest_ext (nest_ext (nest_ext (nest_ext hn')))))
        · have hi' : i = j + 1 := by omega
          subst hi'
          rw [map_drop_all] at e; cases e
end

section
open Ek PySem
variable {Q : UQ} {E : Nat → Sto → Prop} {k : Nat} {S : Sto}
def sgj (o : List Nat) (i : Nat) (s : Int) : Nat → Int
  | 0 => s
  | j + 1 => if o.getD i 0 < o.getD j 0 then 0 - sgj o i s j else sgj o i s j
def sgi (o : List Nat) : Nat → Int
  | 0 => 1
  | i + 1 => sgj o i (sgi o i) i
def sgn (o : List Nat) : Int := sgi o o.length
theorem sgj_abs {o : List Nat} {i : Nat} {s : Int} (h : s.natAbs = 1) : ∀ j, (sgj o i s j).natAbs = 1
  | 0 => h
  | j + 1 => by
    have := sgj_abs (o := o) (i := i) h j
    rw [sgj]; split <;> omega
theorem sgi_abs {o : List Nat} : ∀ i, (sgi o i).natAbs = 1
  | 0 => rfl
  | i + 1 => sgj_abs (sgi_abs i) i
theorem at_uo {o : List Nat} {j : Nat} (h : j < o.length) : atU (uo o) ((j : Nat) : Int) = some (.int (o.getD j 0 : Nat)) := by
  unfold uo
  rw [at_map h, List.getD_eq_getElem?_getD, List.getElem?_eq_getElem h]
  rfl
theorem law_sign_spec {h : Nat} {o : List Nat} (ho : o.length ≤ 4) (s1 : S[h]? = some (.lst (uo o))) (hq : Q (.int (sgn o)) S) : wpC G (k + 1) f_law_sign [.ref h] S Q E := by
  have lo : (uo o).length = o.length := by unfold uo; simp
  refine ente (d := d_law_sign) 3 rfl rfl rfl (B_cons ?_)
  dsimp! only []
  refine B_cons ?_
  dsimp! only [s1, lo]
  refine ⟨nearN (by omega), ?_⟩
  rw [Int.toNat_natCast, range_map0]
  refine for_mapR (fun i σ' S' => S' = S ∧ ∃ z2 z3, σ' = [some (.ref h), some (.int (sgi o i)), z2, z3]) (fun _ _ _ _ => trivial) ⟨rfl, none, none, rfl⟩ ?_ ?_
  · rintro σ' S' ⟨rfl, z2, z3, rfl⟩
    refine B_cons ?_
    dsimp! only []
    exact fin_id hq
  · rintro i σ' S' K hi ⟨rfl, z2, z3, rfl⟩ hK
    dsimp! only []
    refine B_cons ?_
    dsimp! only []
    refine ⟨nearN (by omega), ?_⟩
    rw [Int.toNat_natCast, range_map0]
    refine for_mapR (fun j σ' S'' => S'' = S' ∧ ∃ z3, σ' = [some (.ref h), some (.int (sgj o i (sgi o i) j)), some (.int (i : Nat)), z3]) (fun _ _ _ _ => trivial) ⟨rfl, _, rfl⟩ ?_ ?_
    · rintro σ' S'' ⟨rfl, z3, rfl⟩
      dsimp! only []
      exact hK _ _ ⟨rfl, _, _, rfl⟩
    · rintro j σ' S'' K' hj ⟨rfl, z3, rfl⟩ hK'
      dsimp! only []
      refine B_cons ?_
      dsimp! only [s1, at_uo (show j < o.length by omega), at_uo hi]
      refine ite_rule (fun e => B_cons ?_) (fun e => hK' _ _ ⟨rfl, _, by rw [sgj, if_neg (by omega)]⟩)
      dsimp! only []
      exact hK' _ _ ⟨rfl, _, by rw [sgj, if_pos (by omega)]⟩
def tm (f : Nat → Nat → Int) (o : List Nat) : Nat → Int
  | 0 => sgn o
  | i + 1 => tm f o i * f i (o.getD i 0)
def tt (f : Nat → Nat → Int) (n : Nat) : Int → List (List Nat) → Int
  | a, [] => a
  | a, o :: r => tt f n (a + tm f o n) r
theorem tm_bd {f : Nat → Nat → Int} {o : List Nat} (hf : ∀ i j, (f i j).natAbs < 2 ^ 160) : ∀ i, (tm f o i).natAbs < 2 ^ (160 * i + 1)
  | 0 => by show (sgi o o.length).natAbs < 2; rw [sgi_abs]; decide
  | i + 1 => by
    rw [tm, Int.natAbs_mul, show 160 * (i + 1) + 1 = 160 * i + 1 + 160 by omega, Nat.pow_add]
    exact Nat.lt_of_le_of_lt (Nat.mul_le_mul_left _ (Nat.le_of_lt (hf i _))) (Nat.mul_lt_mul_of_pos_right (tm_bd hf i) (Nat.pow_pos (by omega)))
theorem ords_lt {n : Nat} {o : List Nat} (hn : n ≤ 4) (ho : o ∈ ordsL n) {i : Nat} (hi : i < n) : o.getD i 0 < n := by
  have : ((List.range 5).all fun n => (ordsL n).all fun o => (List.range n).all fun i => decide (o.getD i 0 < n)) = true := by decide +kernel
  exact of_decide_eq_true (List.all_eq_true.mp (List.all_eq_true.mp (List.all_eq_true.mp this n (List.mem_range.mpr (by omega))) o ho) i (List.mem_range.mpr hi))
theorem law_determinant_spec {n : Nat} {f : Nat → Nat → Int} (hn : n ≤ 4) (hf : ∀ i j, (f i j).natAbs < 2 ^ 160) (hq : Q (.int (tt f n 0 (ordsL n))) S) : wpC G (k + 5) f_law_determinant [zu, matU MZ n n f] S Q E := by
  refine ente (d := d_law_determinant) 4 rfl rfl rfl (B_cons ?_)
  dsimp! only []
  refine law_zeroZ_spec (B_cons ?_)
  dsimp! only [matU]
  refine law_orders_spec hn fun T us hd e1 e2 => ?_
  obtain ⟨S1, hS1⟩ : ∃ S1, S ++ T = S1 := ⟨_, rfl⟩
  rw [hS1] at e1 e2 ⊢
  dsimp! only [e1]
  refine for_rule (fun xs σ' S' => S' = S1 ∧ ∃ Lr tot z3 z4 z5, nestU S1 xs = some (Lr.map uo) ∧ (∀ o ∈ Lr, o ∈ ordsL n) ∧ tt f n tot Lr = tt f n 0 (ordsL n) ∧ σ' = [some zu, some (matU MZ n n f), some (.int tot), z3, z4, z5]) ?_ ?_ ?_ _ _ _ ⟨rfl, ordsL n, 0, none, none, none, e2, fun o h => h, rfl, rfl⟩
  · rintro xs σ' S' ⟨rfl, _⟩
    exact ⟨_, e1, rfl⟩
  · rintro σ' S' ⟨rfl, Lr, tot, z3, z4, z5, e, _, ht, rfl⟩
    have : Lr = [] := by
      cases Lr with
      | nil => rfl
      | cons x y => cases e
    subst this
    rw [tt] at ht
    refine B_cons ?_
    dsimp! only []
    rw [← hS1, ht]
    exact fin_keep rfl hq
  · rintro x xs σ' S' K ⟨rfl, Lr, tot, z3, z4, z5, e, hm, ht, rfl⟩ hK
    obtain ⟨rr, ob, L', rfl, c1, c2, c3⟩ := nest_inv e
    obtain ⟨o, Lr', rfl, c4, rfl⟩ : ∃ o Lr', Lr = o :: Lr' ∧ ob.items = uo o ∧ L' = Lr'.map uo := by
      cases Lr with
      | nil => cases c3
      | cons o Lr' => rw [List.map_cons] at c3; injection c3 with c3a c3b; exact ⟨o, Lr', rfl, c3a.symm, c3b.symm⟩
    have ho := hm o List.mem_cons_self
    have ol := ords_len ho
    have c6 : S'[rr]? = some (.lst (uo o)) := by
      rw [c1]; cases ob with | lst v => have c4 : v = uo o := c4; rw [c4]
    dsimp! only []
    refine B_cons ?_
    dsimp! only []
    refine law_sign_spec (by omega) c6 ?_
    dsimp! only []
    refine law_numberZ_spec (B_cons ?_)
    dsimp! only [matU]
    refine ⟨nearN (by omega), ?_⟩
    rw [Int.toNat_natCast, range_map0]
    refine for_mapR (fun i σ' S'' => S'' = S' ∧ ∃ z5, σ' = [some zu, some (matU MZ n n f), some (.int tot), some (.ref rr), some (.int (tm f o i)), z5]) (fun _ _ _ _ => trivial) ⟨rfl, _, rfl⟩ ?_ ?_
    · rintro σ' S'' ⟨rfl, z5, rfl⟩
      refine B_cons ?_
      dsimp! only []
      refine law_addZ_spec ?_
      exact hK _ _ ⟨rfl, Lr', _, _, _, _, c2, fun o h => hm o (List.mem_cons_of_mem _ h), ht, rfl⟩
    · rintro i σ' S'' K' hi ⟨rfl, z5, rfl⟩ hK'
      dsimp! only []
      refine B_cons ?_
      dsimp! only [matU]
      refine ⟨_, at_rangeN hi, ?_⟩
      dsimp! only [c6, at_uo (show i < o.length by omega), rowU]
      refine ⟨_, at_rangeN (ords_lt hn ho hi), law_mulZ_spec (mulW (tm_bd hf i) (hf i _) (by omega) (by omega) (by omega)) ?_⟩
      exact hK' _ _ ⟨rfl, _, rfl⟩
/-- the determinants of at most four rows -/
def dt (f : Nat → Nat → Int) : Nat → Int
  | 0 => 1
  | 1 => f 0 0
  | 2 => f 0 0 * f 1 1 - f 0 1 * f 1 0
  | 3 => f 0 0 * (f 1 1 * f 2 2 - f 1 2 * f 2 1) + f 0 1 * (f 1 2 * f 2 0 - f 1 0 * f 2 2) + f 0 2 * (f 1 0 * f 2 1 - f 1 1 * f 2 0)
  | _ => f 0 0 * (f 1 1 * (f 2 2 * f 3 3 - f 2 3 * f 3 2) - f 1 2 * (f 2 1 * f 3 3 - f 2 3 * f 3 1) + f 1 3 * (f 2 1 * f 3 2 - f 2 2 * f 3 1)) + f 0 1 * (-(f 1 0 * (f 2 2 * f 3 3 - f 2 3 * f 3 2) - f 1 2 * (f 2 0 * f 3 3 - f 2 3 * f 3 0) + f 1 3 * (f 2 0 * f 3 2 - f 2 2 * f 3 0))) + f 0 2 * (f 1 0 * (f 2 1 * f 3 3 - f 2 3 * f 3 1) - f 1 1 * (f 2 0 * f 3 3 - f 2 3 * f 3 0) + f 1 3 * (f 2 0 * f 3 1 - f 2 1 * f 3 0)) + f 0 3 * (-(f 1 0 * (f 2 1 * f 3 2 - f 2 2 * f 3 1) - f 1 1 * (f 2 0 * f 3 2 - f 2 2 * f 3 0) + f 1 2 * (f 2 0 * f 3 1 - f 2 1 * f 3 0)))
theorem tt_2 {f : Nat → Nat → Int} : tt f 2 0 (ordsL 2) = 0 + -1 * f 0 1 * f 1 0 + 1 * f 0 0 * f 1 1 := rfl
theorem tt_3 {f : Nat → Nat → Int} : tt f 3 0 (ordsL 3) = 0 + -1 * f 0 2 * f 1 1 * f 2 0 + 1 * f 0 1 * f 1 2 * f 2 0 + -1 * f 0 1 * f 1 0 * f 2 2 + 1 * f 0 2 * f 1 0 * f 2 1 + -1 * f 0 0 * f 1 2 * f 2 1 + 1 * f 0 0 * f 1 1 * f 2 2 := rfl
theorem tt_4 {f : Nat → Nat → Int} : tt f 4 0 (ordsL 4) = 0 + 1 * f 0 3 * f 1 2 * f 2 1 * f 3 0 + -1 * f 0 2 * f 1 3 * f 2 1 * f 3 0 + 1 * f 0 2 * f 1 1 * f 2 3 * f 3 0 + -1 * f 0 2 * f 1 1 * f 2 0 * f 3 3 + -1 * f 0 3 * f 1 1 * f 2 2 * f 3 0 + 1 * f 0 1 * f 1 3 * f 2 2 * f 3 0 + -1 * f 0 1 * f 1 2 * f 2 3 * f 3 0 + 1 * f 0 1 * f 1 2 * f 2 0 * f 3 3 + 1 * f 0 3 * f 1 1 * f 2 0 * f 3 2 + -1 * f 0 1 * f 1 3 * f 2 0 * f 3 2 + 1 * f 0 1 * f 1 0 * f 2 3 * f 3 2 + -1 * f 0 1 * f 1 0 * f 2 2 * f 3 3 + -1 * f 0 3 * f 1 2 * f 2 0 * f 3 1 + 1 * f 0 2 * f 1 3 * f 2 0 * f 3 1 + -1 * f 0 2 * f 1 0 * f 2 3 * f 3 1 + 1 * f 0 2 * f 1 0 * f 2 1 * f 3 3 + 1 * f 0 3 * f 1 0 * f 2 2 * f 3 1 + -1 * f 0 0 * f 1 3 * f 2 2 * f 3 1 + 1 * f 0 0 * f 1 2 * f 2 3 * f 3 1 + -1 * f 0 0 * f 1 2 * f 2 1 * f 3 3 + -1 * f 0 3 * f 1 0 * f 2 1 * f 3 2 + 1 * f 0 0 * f 1 3 * f 2 1 * f 3 2 + -1 * f 0 0 * f 1 1 * f 2 3 * f 3 2 + 1 * f 0 0 * f 1 1 * f 2 2 * f 3 3 := rfl
theorem tt_dt {f : Nat → Nat → Int} {n : Nat} (hn : n ≤ 4) : tt f n 0 (ordsL n) = dt f n := by
  match n, hn with
  | 0, _ => rfl
  | 1, _ => show 0 + 1 * f 0 0 = f 0 0; omega
  | 2, _ => rw [tt_2]; show _ = f 0 0 * f 1 1 - f 0 1 * f 1 0; grind
  | 3, _ => rw [tt_3]; unfold dt; grind
  | 4, _ => rw [tt_4]; unfold dt; grind
end

section
open Ek PySem
variable {ns : List Int} {B : Ob} {R : Sto} {Q : UQ} {E : Nat → Sto → Prop} {k : Nat} {S : Sto}
def sq (n : Nat) (f : Nat → Int) : Int := ((List.range n).map fun j => f j * f j).sum
theorem sq_succ {n : Nat} {f : Nat → Int} : sq (n + 1) f = sq n f + f n * f n := by
  unfold sq
  rw [List.range_succ, List.map_append, List.sum_append]
  simp
theorem sq_nn {f : Nat → Int} : ∀ n, 0 ≤ sq n f
  | 0 => Int.le_refl 0
  | n + 1 => by rw [sq_succ]; have := sq_nn (f := f) n; have := sqn (f n); omega
theorem sq_lt {f : Nat → Int} (hf : ∀ j, (f j).natAbs < 2 ^ 160) {n : Nat} (hn : n ≤ 4) : sq n f < 2 ^ 330 := by
  have h1 : ∀ j, f j * f j ≤ 2 ^ 320 := fun j => by
    have := hf j
    have e : f j * f j = (((f j).natAbs * (f j).natAbs : Nat) : Int) := by rw [Int.natCast_mul, Int.natAbs_mul_self']
    have h2 : (f j).natAbs * (f j).natAbs ≤ 2 ^ 160 * 2 ^ 160 := Nat.mul_le_mul (by omega) (by omega)
    rw [e]
    have h3 : (2 : Nat) ^ 160 * 2 ^ 160 = 2 ^ 320 := by rw [← Nat.pow_add]
    rw [h3] at h2
    exact_mod_cast h2
  have key : ∀ n, sq n f ≤ n * 2 ^ 320 := by
    intro n
    induction n with
    | zero => show (0 : Int) ≤ _; simp
    | succ n ih => rw [sq_succ]; have := h1 n; rw [Int.natCast_succ, Int.add_mul]; omega
  have h4 := key n
  have h5 : (n : Int) * 2 ^ 320 ≤ 4 * 2 ^ 320 := Int.mul_le_mul_of_nonneg_right (by omega) (by decide +kernel)
  have h6 : (4 : Int) * 2 ^ 320 < 2 ^ 330 := by decide +kernel
  omega
structure Rt (n g : Int) : Prop where
  nn : 0 ≤ g
  lo : g * g ≤ n
  hi : n < (g + 1) * (g + 1)
theorem Rt.uniq {n g h : Int} (a : Rt n g) (b : Rt n h) : g = h := by
  have key : ∀ {g h : Int}, Rt n g → Rt n h → ¬ g < h := fun {g h} a b w => by
    have : (g + 1) * (g + 1) ≤ h * h := Int.mul_le_mul (by omega) (by omega) (by have := a.nn; omega) b.nn
    have := a.hi; have := b.lo
    omega
  have := key a b; have := key b a
  omega
theorem Rt.lt {n g : Int} (a : Rt n g) (h : n < 2 ^ 330) : g < 2 ^ 165 := by
  rcases Decidable.em (g < 2 ^ 165) with w | w
  · exact w
  · have : (2 : Int) ^ 165 * 2 ^ 165 ≤ g * g := Int.mul_le_mul (by omega) (by omega) (by decide +kernel) a.nn
    have e : (2 : Int) ^ 165 * 2 ^ 165 = 2 ^ 330 := by decide +kernel
    have := a.lo
    omega
def pb (g : Nat → Int) (c : Int) : Nat → Int
  | 0 => 1
  | i + 1 => pb g c i * (g i + c)
theorem pb_bd {g : Nat → Int} {c : Int} (hc : 0 ≤ c ∧ c ≤ 2) (hg : ∀ i, 0 ≤ g i ∧ g i < 2 ^ 165) : ∀ i, (pb g c i).natAbs < 2 ^ (166 * i + 1)
  | 0 => by show (1 : Int).natAbs < 2; decide
  | i + 1 => by
    rw [pb, Int.natAbs_mul, show 166 * (i + 1) + 1 = 166 * i + 1 + 166 by omega, Nat.pow_add]
    have h1 : (g i + c).natAbs < 2 ^ 166 := by
      have := hg i
      have e : (2 : Nat) ^ 166 = 2 * 2 ^ 165 := by decide +kernel
      have e2 : ((2 ^ 165 : Nat) : Int) = (2 : Int) ^ 165 := by norm_cast
      have e3 : (4 : Nat) ≤ 2 ^ 165 := by decide +kernel
      omega
    exact Nat.lt_of_le_of_lt (Nat.mul_le_mul_left _ (Nat.le_of_lt h1)) (Nat.mul_lt_mul_of_pos_right (pb_bd hc hg i) (Nat.pow_pos (by omega)))
theorem pb_congr {g h : Nat → Int} {c : Int} : ∀ {n : Nat}, (∀ i, i < n → g i = h i) → pb g c n = pb h c n
  | 0, _ => rfl
  | n + 1, w => by rw [pb, pb, pb_congr fun i hi => w i (by omega), w n (by omega)]
theorem ints_map {α : Type} {f : α → Int} : ∀ {l : List α}, intsU (l.map fun x => U.int (f x)) = some (l.map f)
  | [] => rfl
  | x :: r => by rw [List.map_cons, intsU, ints_map]; rfl
theorem row_square_spec {n : Nat} {f : Nat → Int} (hn : n ≤ 100) (hf : ∀ j, (f j).natAbs < 2 ^ 160) (h : Q (.int (sq n f)) S) : wpC G (k + 1) f_row_square [rowU MZ n f] S Q E := by
  have bg : (1000 : Nat) ≤ big := by decide
  refine ente (d := d_row_square) 1 rfl rfl rfl (B_cons ?_)
  dsimp! only [rowU]
  refine comp_mapR (fun j => U.int (f j * f j)) trivial (by omega) (fun j K' hj hK => ?_) ?_
  · dsimp! only []
    exact ⟨mulB (a := 160) (b := 160) (hf j) (hf j), hK⟩
  · dsimp! only [get_end2]
    exact ⟨_, ints_map (f := fun j => f j * f j), fin_keep rfl h⟩
theorem coefficient_bound_spec {n : Nat} {f : Nat → Nat → Int} (hn : n ≤ 4) (hf : ∀ i j, (f i j).natAbs < 2 ^ 160) (h : ∀ g : Nat → Int, (∀ i, i < n → Rt (sq n (f i)) (g i)) → Q (.int (pb g 2 n)) S) : wpC G (k + 3) f_coefficient_bound [matU MZ n n f] S Q E := by
  refine ente (d := d_coefficient_bound) 2 rfl rfl rfl (B_cons ?_)
  dsimp! only []
  refine need_square_spec (M := MZ) (fun _ => B_cons ?_) (fun e => absurd rfl e)
  dsimp! only []
  refine B_cons ?_
  dsimp! only [matU]
  refine for_mapR (fun a σ' S' => S' = S ∧ ∃ g : Nat → Int, ∃ z2, (∀ i, 0 ≤ g i ∧ g i < 2 ^ 165) ∧ (∀ i, i < a → Rt (sq n (f i)) (g i)) ∧ σ' = [some (matU MZ n n f), some (.int (pb g 2 a)), z2]) (fun _ _ _ _ => trivial) ⟨rfl, fun _ => 0, none, fun _ => ⟨Int.le_refl 0, show (0 : Int) < 2 ^ 165 by decide +kernel⟩, fun i hi => by omega, rfl⟩ ?_ ?_
  · rintro σ' S' ⟨rfl, g, z2, _, hg, rfl⟩
    refine B_cons ?_
    dsimp! only []
    exact fin_id (h g hg)
  · rintro a σ' S' K ha ⟨rfl, g, z2, g0, hg, rfl⟩ hK
    dsimp! only []
    refine B_cons ?_
    dsimp! only []
    refine row_square_spec (by omega) (hf a) ?_
    refine root_spec (sq_nn n) (sq_lt (hf a) hn) fun r r0 r1 r2 => ?_
    have hr : Rt (sq n (f a)) r := ⟨r0, r1, r2⟩
    have lr := hr.lt (sq_lt (hf a) hn)
    dsimp! only []
    have e : pb (fun i => if i = a then r else g i) 2 a = pb g 2 a := pb_congr fun i hi => by rw [if_neg (by omega)]
    refine ⟨mulW (a := 166 * a + 1) (b := 166) (pb_bd (by omega) g0 a) (by omega) (by omega) (by omega) (by omega), hK _ _ ⟨rfl, fun i => if i = a then r else g i, _, fun i => ?_, fun i hi => ?_, by rw [pb, e, if_pos rfl]⟩⟩
    · show 0 ≤ (if i = a then r else g i) ∧ (if i = a then r else g i) < 2 ^ 165
      split
      · exact ⟨r0, lr⟩
      · exact g0 i
    · show Rt _ (if i = a then r else g i)
      split
      · rename_i e; rw [e]; exact hr
      · exact hg i (by omega)
end

section
open Ek PySem
variable {ns : List Int} {B : Ob} {R : Sto} {Q : UQ} {E : Nat → Sto → Prop} {k : Nat} {S : Sto}
theorem law_low_spec {n : Nat} (hB : Cb ns B) (hn : n ≤ 4) (h : ∀ B' (f : Nat → Nat → Int), Cb ns B' → (∀ i j, (f i j).natAbs ≤ 64 ^ 7) → Q (matU MZ n n f) (An ns :: An ns :: B' :: R)) : wpC G (k + 11) f_law_low [.ref 2, .int (n : Nat), .int (n : Nat)] (An ns :: An ns :: B :: R) Q E := by
  refine ente (d := d_law_low) 3 rfl rfl rfl (B_cons ?_)
  dsimp! only []
  refine B_cons ?_
  dsimp! only []
  refine take_spec (by omega) (by omega) hB fun B1 d hB1 x0 y0 => B_cons ?_
  have up : ∀ {i : Nat} {x : Int}, i ≤ 7 → x.natAbs ≤ 64 ^ i → x.natAbs ≤ 64 ^ 7 := fun hi hx => Nat.le_trans hx (Nat.pow_le_pow_right (by omega) hi)
  have dr : wpC G (k + 10) f_law_matrix [.ref 2, zu, .int (n : Nat), .int (n : Nat)] (An ns :: An ns :: B1 :: R) (fin (An ns :: An ns :: B :: R) Q) E := by
    refine law_matrix_spec (M := MZ) (k := k + 1) z_small hB1 (by omega) (by omega) fun B2 f hB2 hf => ?_
    exact fin_id (h B2 f hB2 fun i j => up (i := 1) (by omega) (hf i j))
  dsimp! only []
  refine ite_rule (fun _ => B_cons ?_) (fun e1 => ite_rule (fun _ => B_cons ?_) (fun e2 => ite_rule (fun _ => B_cons ?_) (fun e3 => B_cons ?_)))
  · dsimp! only []
    exact dr
  · dsimp! only []
    exact dr
  · dsimp! only []
    exact dr
  dsimp! only []
  refine take_spec (by omega) (by omega) hB1 fun B2 d2 hB2 x2 y2 => B_cons ?_
  obtain ⟨r, rfl⟩ : ∃ r : Nat, d2 = (r : Nat) := ⟨d2.toNat, by omega⟩
  have hr : r ≤ 4 := by omega
  dsimp! only []
  refine law_matrix_spec (M := MZ) (k := k + 1) z_small hB2 (by omega) (by omega) fun B3 fa hB3 hfa => ?_
  refine law_matrix_spec (M := MZ) (k := k + 1) z_small hB3 (by omega) (by omega) fun B4 fb hB4 hfb => ?_
  refine law_product_spec (M := MZ) (k := k) (i := 1) (j := 1) z_lzero z_ladd z_lmul (by omega) (by omega) (by omega) (by omega) (by omega) (by omega) (Nat.le_refl 1) hfa hfb ?_
  exact fin_id (h B4 _ hB4 fun i j => up (i := 1 + 2 * 1 + r) (by omega) (ok_mm (M := MZ) (n := r) (Nat.le_refl 1) hfa hfb i j))
theorem law_wide_spec {n : Nat} {f : Nat → Nat → Int} (hB : Cb ns B) (hn : n ≤ 4) (hf : ∀ i j, (f i j).natAbs ≤ 64 ^ 7) (h : ∀ B' (f : Nat → Nat → Int), Cb ns B' → (∀ i j, (f i j).natAbs < 2 ^ 160) → Q (matU MZ n n f) (An ns :: An ns :: B' :: R)) : wpC G (k + 3) f_law_wide [.ref 2, matU MZ n n f] (An ns :: An ns :: B :: R) Q E := by
  have bg : (1000 : Nat) ≤ big := by decide
  have p1 : (64 : Nat) ^ 7 < 2 ^ 160 := by decide +kernel
  refine ente (d := d_law_wide) 3 rfl rfl rfl (B_cons ?_)
  dsimp! only []
  refine take_spec (by omega) (by omega) hB fun B1 d hB1 x0 y0 => ?_
  dsimp! only []
  refine ite_rule (fun e => B_cons ?_) (fun e => B_cons ?_)
  · dsimp! only []
    exact fin_id (h B1 f hB1 fun i j => Nat.lt_of_le_of_lt (hf i j) p1)
  · dsimp! only []
    refine B_cons ?_
    dsimp! only [matU]
    refine for_mapR (fun a σ' S' => ∃ B' T, ∃ g : Nat → Nat → Int, ∃ z3 z4, Cb ns B' ∧ (∀ i j, (g i j).natAbs < 2 ^ 160) ∧ S' = An ns :: An ns :: B' :: (R ++ [Ob.lst ((List.range a).map fun i => rowU MZ n (g i))] ++ T) ∧ σ' = [some (.ref 2), some (matU MZ n n f), some (.ref (R.length + 1 + 1 + 1)), z3, z4]) (fun _ _ _ _ => trivial) ⟨B1, [], fun _ _ => 0, none, none, hB1, fun _ _ => by show (0 : Nat) < _; exact Nat.pow_pos (by omega), by simp, rfl⟩ ?_ ?_
    · rintro σ' S' ⟨B', T, g, z3, z4, hB', hg, rfl, rfl⟩
      have e1 : (An ns :: An ns :: B' :: (R ++ [Ob.lst ((List.range n).map fun i => rowU MZ n (g i))] ++ T))[R.length + 1 + 1 + 1]? = some (.lst ((List.range n).map fun i => rowU MZ n (g i))) := by
        show (R ++ [Ob.lst ((List.range n).map fun i => rowU MZ n (g i))] ++ T)[R.length]? = _
        exact get_mid
      refine B_cons ?_
      dsimp! only [matU, e1]
      rw [List.append_assoc]
      exact fin_cell hB' (bnd_dat _ _ (dat_matU MZ (f := g) (k := 0)) _) (h B' g hB' hg)
    · rintro a σ' S' K ha ⟨B', T, g, z3, z4, hB', hg, rfl, rfl⟩ hK
      dsimp! only []
      refine B_cons ?_
      dsimp! only [rowU]
      refine comp_draw (R := R ++ [Ob.lst ((List.range a).map fun i => rowU MZ n (g i))]) (P := fun x : Int => x.natAbs < 2 ^ 160) (c := U.int) (x0 := 0) (by show (0 : Nat) < _; exact Nat.pow_pos (by omega)) (by omega) hB' (fun j K2 B2 T2 hj hB2 hK2 => ?_) fun B2 r T2 hB2 hr => ?_
      · dsimp! only []
        refine take_spec (by omega) (by omega) hB2 fun B3 d3 hB3 x3 y3 => ?_
        dsimp! only []
        refine ⟨mulS (.inr (by omega)), ?_⟩
        refine take_spec (by omega) (by omega) hB3 fun B4 d4 hB4 x4 y4 => ?_
        dsimp! only []
        refine ⟨mulS (.inr (by omega)), ?_⟩
        refine hK2 B4 _ T2 hB4 ?_
        show (f a j * (1 + d3) * (1 + d4)).natAbs < 2 ^ 160
        rw [Int.natAbs_mul, Int.natAbs_mul]
        refine Nat.lt_of_le_of_lt (Nat.mul_le_mul (Nat.mul_le_mul (hf a j) (show (1 + d3).natAbs ≤ 10 ^ 18 by omega)) (show (1 + d4).natAbs ≤ 10 ^ 15 by omega)) (by decide +kernel)
      · refine ⟨(List.range n).map fun a => U.int (r a), ?_, (List.range a).map fun i => rowU MZ n (g i), ?_, by simp; omega, ?_⟩
        · show Option.map (fun x : Ob => x.1) ((R ++ [Ob.lst ((List.range a).map fun i => rowU MZ n (g i))] ++ (T2 ++ [Ob.lst ((List.range n).map fun a => U.int (r a))]))[(R ++ [Ob.lst ((List.range a).map fun i => rowU MZ n (g i))]).length + T2.length]?) = _
          rw [get_draw]; rfl
        · show (R ++ [Ob.lst ((List.range a).map fun i => rowU MZ n (g i))] ++ (T2 ++ [Ob.lst ((List.range n).map fun a => U.int (r a))]))[R.length]? = _
          exact get_mid
        · have e2 : (An ns :: An ns :: B2 :: (R ++ [Ob.lst ((List.range a).map fun i => rowU MZ n (g i))] ++ (T2 ++ [Ob.lst ((List.range n).map fun a => U.int (r a))]))).set (R.length + 1 + 1 + 1) (Ob.lst (((List.range a).map fun i => rowU MZ n (g i)) ++ [.tup ((List.range n).map fun a => U.int (r a))])) = An ns :: An ns :: B2 :: (R ++ [Ob.lst (((List.range a).map fun i => rowU MZ n (g i)) ++ [.tup ((List.range n).map fun a => U.int (r a))])] ++ (T2 ++ [Ob.lst ((List.range n).map fun a => U.int (r a))])) := by
            show An ns :: An ns :: B2 :: (R ++ _ ++ _).set R.length _ = _
            rw [set_mid]
          rw [e2]
          refine hK _ _ ⟨B2, T2 ++ [Ob.lst ((List.range n).map fun a => U.int (r a))], fun i => if i = a then r else g i, _, _, hB2, fun i j => ?_, ?_, rfl⟩
          · show ((if i = a then r else g i) j).natAbs < 2 ^ 160
            split
            · exact hr j
            · exact hg i j
          · have e3 : ((List.range a).map fun i => rowU MZ n (g i)) ++ [.tup ((List.range n).map fun a => U.int (r a))] = (List.range (a + 1)).map fun i => rowU MZ n ((fun i => if i = a then r else g i) i) := by
              rw [List.range_succ, List.map_append]
              congr 1
              · refine List.map_congr_left fun i hi => ?_
                show _ = rowU MZ n (if i = a then r else g i)
                rw [if_neg (by have := List.mem_range.mp hi; omega)]
              · show [_] = [rowU MZ n (if a = a then r else g a)]
                rw [if_pos rfl]; rfl
            rw [e3]
end

section
open Ek PySem
theorem sq1 {f : Nat → Int} : sq 1 f = f 0 * f 0 := by rw [sq_succ]; show 0 + _ = _; omega
theorem sq2 {f : Nat → Int} : sq 2 f = f 0 * f 0 + f 1 * f 1 := by rw [sq_succ, sq1]
theorem sq3 {f : Nat → Int} : sq 3 f = f 0 * f 0 + f 1 * f 1 + f 2 * f 2 := by rw [sq_succ, sq2]
theorem sq4 {f : Nat → Int} : sq 4 f = f 0 * f 0 + f 1 * f 1 + f 2 * f 2 + f 3 * f 3 := by rw [sq_succ, sq3]
def ps (n : Nat) (f : Nat → Nat → Int) : Nat → Int
  | 0 => 1
  | i + 1 => ps n f i * sq n (f i)
theorem dt_sq {f : Nat → Nat → Int} {n : Nat} (hn : n ≤ 4) : dt f n * dt f n ≤ ps n f n := by
  match n, hn with
  | 0, _ => show (1 : Int) * 1 ≤ 1; decide
  | 1, _ => show f 0 0 * f 0 0 ≤ 1 * sq 1 (f 0); rw [sq1]; omega
  | 2, _ =>
    show _ ≤ 1 * sq 2 (f 0) * sq 2 (f 1)
    rw [sq2, sq2, Int.one_mul]
    exact had2
  | 3, _ =>
    show _ ≤ 1 * sq 3 (f 0) * sq 3 (f 1) * sq 3 (f 2)
    rw [sq3, sq3, sq3, Int.one_mul, Int.mul_assoc]
    exact had3
  | 4, _ =>
    show _ ≤ 1 * sq 4 (f 0) * sq 4 (f 1) * sq 4 (f 2) * sq 4 (f 3)
    rw [sq4, sq4, sq4, sq4, Int.one_mul, Int.mul_assoc, Int.mul_assoc]
    exact had4
theorem ps_pb {n : Nat} {f : Nat → Nat → Int} {g : Nat → Int} : ∀ m, (∀ i, i < m → Rt (sq n (f i)) (g i)) → 0 ≤ ps n f m ∧ 0 ≤ pb g 1 m ∧ ps n f m ≤ pb g 1 m * pb g 1 m
  | 0, _ => ⟨by show (0 : Int) ≤ 1; decide, by show (0 : Int) ≤ 1; decide, by show (1 : Int) ≤ 1 * 1; decide⟩
  | m + 1, h => by
    obtain ⟨h1, h2, h3⟩ := ps_pb m fun i hi => h i (by omega)
    have r := h m (by omega)
    have rn := r.nn
    have rh := r.hi
    have sn := sq_nn (f := f m) n
    refine ⟨Int.mul_nonneg h1 sn, Int.mul_nonneg h2 (by omega), ?_⟩
    rw [ps, pb]
    have e : pb g 1 m * (g m + 1) * (pb g 1 m * (g m + 1)) = pb g 1 m * pb g 1 m * ((g m + 1) * (g m + 1)) := by grind
    rw [e]
    exact Int.mul_le_mul h3 (by omega) sn (Int.mul_nonneg h2 h2)
end

section
open Ek PySem
def CX : Nat := 800
theorem log2X {x : Int} (h : x.natAbs < 2 ^ CX) : x.natAbs.log2 < 9000 := by
  by_cases h0 : x.natAbs = 0
  · rw [h0]; decide
  · have : x.natAbs.log2 < CX := (Nat.log2_lt h0).mpr h
    exact Nat.lt_trans this (by decide)
/-- what common promises -/
structure GdX (a b g s t : Int) : Prop where
  sz : s.natAbs < 2 ^ CX ∧ t.natAbs < 2 ^ CX
  nz : a = 0 → b = 0 → g = 0 ∧ s = 0 ∧ t = 0
  ps : ¬ (a = 0 ∧ b = 0) → 0 < g ∧ s * a + t * b = g
  dv : ∃ x y, a = x * g ∧ b = y * g ∧ (b = 0 → t = 0) ∧ (a = 0 → s = 0) ∧ (a ≠ 0 → b ≠ 0 → s.natAbs ≤ y.natAbs ∧ t.natAbs ≤ x.natAbs)
theorem common_specX {S : Sto} {Q : UQ} {E : Nat → Sto → Prop} {k : Nat} {a b : Int} (ha : a.natAbs < 2 ^ CX) (hb : b.natAbs < 2 ^ CX) (h : ∀ g s t, GdX a b g s t → Q (.tup [.int g, .int s, .int t]) S) : wpC G (k + 1) f_common [.int a, .int b] S Q E := by
  have cx : 2 < 2 ^ CX := by decide +kernel
  refine ente (d := d_common) 6 rfl rfl rfl (B_cons ?_)
  dsimp! only []
  refine ite_rule (fun h1 => ite_rule (fun h2 => B_cons ?_) (fun h2 => B_cons ?_)) (fun h1 => B_cons ?_)
  · dsimp! only []
    exact fin_id (h _ _ _ ⟨by omega, fun _ _ => ⟨rfl, rfl, rfl⟩, fun z => absurd ⟨h1, h2⟩ z, 0, 0, by omega, by omega, fun _ => rfl, fun _ => rfl, fun z => absurd h1 z⟩)
  · dsimp! only []
    refine ite_rule (fun h3 => absurd h3 h2) (fun h3 => B_cons ?_)
    dsimp! only []
    refine ite_rule (fun h4 => B_cons ?_) (fun h4 => absurd h1 h4)
    dsimp! only []
    refine ite_rule (fun h5 => ?_) (fun h5 => ?_)
    · refine fin_id (h _ _ _ ⟨by omega, fun _ z => absurd z h2, fun _ => ?_, 0, 1, ?_, ?_, fun z => absurd z h2, fun _ => rfl, fun z => absurd h1 z⟩) <;> (try split) <;> omega
    · refine fin_id (h _ _ _ ⟨by omega, fun _ z => absurd z h2, fun _ => ?_, 0, -1, ?_, ?_, fun z => absurd z h2, fun _ => rfl, fun z => absurd h1 z⟩) <;> (try split) <;> omega
  · dsimp! only []
    refine ite_rule (fun h3 => B_cons ?_) (fun h3 => B_cons ?_)
    · dsimp! only []
      refine ite_rule (fun h5 => ?_) (fun h5 => ?_)
      · refine fin_id (h _ _ _ ⟨by omega, fun z => absurd z h1, fun _ => ?_, 1, 0, ?_, ?_, fun z => rfl, fun z => absurd z h1, fun _ z => absurd h3 z⟩) <;> (try split) <;> omega
      · refine fin_id (h _ _ _ ⟨by omega, fun z => absurd z h1, fun _ => ?_, -1, 0, ?_, ?_, fun z => rfl, fun z => absurd z h1, fun _ z => absurd h3 z⟩) <;> (try split) <;> omega
    · dsimp! only []
      refine ite_rule (fun h4 => absurd h4 h1) (fun h4 => B_cons ?_)
      dsimp! only []
      refine B_cons ?_
      dsimp! only []
      obtain ⟨A, hA, hA2⟩ : ∃ A : Int, (if a < 0 then -a else a) = A ∧ A = (if a < 0 then -a else a) := ⟨_, rfl, rfl⟩
      obtain ⟨B, hB, hB2⟩ : ∃ B : Int, (if b < 0 then -b else b) = B ∧ B = (if b < 0 then -b else b) := ⟨_, rfl, rfl⟩
      rw [hA, hB]
      have hA0 : 0 < A := by rw [← hA]; split <;> omega
      have hB0 : 0 < B := by rw [← hB]; split <;> omega
      have hAb : A.natAbs < 2 ^ CX := by rw [← hA]; split <;> omega
      have hBb : B.natAbs < 2 ^ CX := by rw [← hB]; split <;> omega
      refine B_seq (fun σ' S' => S' = S ∧ ∃ z w r0 s0 t0 r1 s1 t1, Eu A B r0 s0 t0 r1 s1 t1 ∧ r1 = 0 ∧ σ' = [some (.int a), some (.int b), some (.tup [.int r0, .int s0, .int t0]), z, w, none, none, none]) (fun N hN => ?_) ?_
      · dsimp! only []
        refine wh_rule (fun m σ' S' => S' = S ∧ ∃ z r0 s0 t0 r1 s1 t1, Eu A B r0 s0 t0 r1 s1 t1 ∧ r1.natAbs = m ∧ r0.natAbs < 2 ^ CX ∧ r1.natAbs < 2 ^ CX ∧ σ' = [some (.int a), some (.int b), some (.tup [.int r0, .int s0, .int t0]), some (.tup [.int r1, .int s1, .int t1]), z, none, none, none])
          ?_ (n := B.natAbs) ⟨rfl, none, A, 1, 0, B, 0, 1, ⟨hA0, by omega, by omega, by omega, 1, 1, 0, 0, 1, by omega, by omega, by omega, by omega, by omega, by omega, by omega, by omega, by omega, by omega, by omega, by omega⟩, rfl, hAb, hBb, rfl⟩
        rintro n σ' S' K ⟨rfl, z, r0, s0, t0, r1, s1, t1, hE, hm, b0, b1, rfl⟩ hK
        dsimp! only []
        refine ite_rule (fun h5 => ?_) (fun h5 => hN _ _ ⟨rfl, _, _, _, _, _, _, _, _, hE, by omega, rfl⟩)
        obtain ⟨q, hq⟩ : ∃ q, r0.fdiv r1 = q := ⟨_, rfl⟩
        have st := hE.step h5 hq
        have bd := hE.bnd h5 hAb hBb
        have hq3 : q.natAbs ≤ r0.natAbs := by rw [← hq]; exact Int.natAbs_fdiv_le_natAbs ..
        refine B_cons ?_
        dsimp! only []
        refine ⟨⟨h5, log2X b1⟩, B_cons ?_⟩
        dsimp! only [hq]
        have hq4 : q.natAbs < 2 ^ CX := by omega
        refine ⟨mulB hq4 b1, mulB hq4 bd.1, mulB hq4 bd.2, hK _ _ _ ?_ ⟨rfl, _, _, _, _, _, _, _, st.1, rfl, b1, ?_, rfl⟩⟩
        · have := st.1.p1
          have := hE.p1
          have := st.2
          omega
        · have := st.1.p1
          have := hE.p1
          have := st.2
          omega
      · rintro σ' S' ⟨rfl, z, w, r0, s0, t0, r1, s1, t1, hE, rfl, rfl⟩
        refine B_cons ?_
        dsimp! only []
        refine B_cons ?_
        dsimp! only []
        obtain ⟨h0, h6, x, y, h7, h8, h9, h10, h11, h12, h13, h14⟩ := hE.end_
        have ny : y.natAbs ≤ B.natAbs := by rw [h8]; exact natAbs_le_mul h0
        have nx : x.natAbs ≤ A.natAbs := by rw [h7]; exact natAbs_le_mul h0
        refine ite_rule (fun ga => ?_) (fun ga => ?_) <;> refine ite_rule (fun gb => ?_) (fun gb => ?_)
        · have ea : a = A := by omega
          have eb : b = B := by omega
          exact fin_id (h _ _ _ ⟨by omega, fun z => absurd z h1, fun _ => ⟨h0, by rw [ea, eb]; exact h6⟩, x, y, by rw [ea]; exact h7, by rw [eb]; exact h8, fun z => absurd z h3, fun z => absurd z h1, fun _ _ => by omega⟩)
        · have ea : a = A := by omega
          have eb : b = -B := by omega
          exact fin_id (h _ _ _ ⟨by omega, fun z => absurd z h1, fun _ => ⟨h0, by rw [ea, eb, Int.neg_mul_neg]; exact h6⟩, x, -y, by rw [ea]; exact h7, by rw [eb, Int.neg_mul, h8], fun z => absurd z h3, fun z => absurd z h1, fun _ _ => by omega⟩)
        · have ea : a = -A := by omega
          have eb : b = B := by omega
          exact fin_id (h _ _ _ ⟨by omega, fun z => absurd z h1, fun _ => ⟨h0, by rw [ea, eb, Int.neg_mul_neg]; exact h6⟩, -x, y, by rw [ea, Int.neg_mul, h7], by rw [eb]; exact h8, fun z => absurd z h3, fun z => absurd z h1, fun _ _ => by omega⟩)
        · have ea : a = -A := by omega
          have eb : b = -B := by omega
          exact fin_id (h _ _ _ ⟨by omega, fun z => absurd z h1, fun _ => ⟨h0, by rw [ea, eb, Int.neg_mul_neg, Int.neg_mul_neg]; exact h6⟩, -x, -y, by rw [ea, Int.neg_mul, h7], by rw [eb, Int.neg_mul, h8], fun z => absurd z h3, fun z => absurd z h1, fun _ _ => by omega⟩)
end

section
open Ek PySem
variable {Q : UQ} {E : Nat → Sto → Prop} {k : Nat} {S : Sto}
theorem fm_congr {a b m : Int} (hm : 0 < m) (h : m ∣ a - b) : a.fmod m = b.fmod m := by
  rw [Int.fmod_eq_emod_of_nonneg _ (by omega), Int.fmod_eq_emod_of_nonneg _ (by omega)]
  exact Int.emod_eq_emod_iff_emod_sub_eq_zero.mpr (Int.emod_eq_zero_of_dvd h)
theorem fm_dvd {a m : Int} (hm : 0 < m) : m ∣ a - a.fmod m := by
  rw [Int.fmod_eq_emod_of_nonneg _ (by omega)]
  exact Int.dvd_self_sub_emod
theorem fm_lt {a m : Int} (hm : 0 < m) : 0 ≤ a.fmod m ∧ a.fmod m < m := by
  rw [Int.fmod_eq_emod_of_nonneg _ (by omega)]
  exact ⟨Int.emod_nonneg _ (by omega), Int.emod_lt_of_pos _ hm⟩
theorem pp_cop {i : Nat} (h : i < 45) : Nat.gcd (pp i) (pi (i + 1)) = 1 := by
  have : ((List.range 45).all fun i => Nat.gcd (pp i) (pi (i + 1)) == 1) = true := by decide +kernel
  have := List.all_eq_true.mp this i (List.mem_range.mpr h)
  simpa using this
theorem pp_pos {i : Nat} (h : i ≤ 45) : 0 < pp i := by
  have : ((List.range 46).all fun i => decide (0 < pp i)) = true := by decide +kernel
  exact of_decide_eq_true (List.all_eq_true.mp this i (List.mem_range.mpr (by omega)))
def prU (d : Int) (t : Nat) : U := .tup [.int (d.fmod ((pi (t + 1) : Nat) : Int)), .int ((pi (t + 1) : Nat) : Int)]
theorem combine_prS {h N : Nat} {d : Int} (hN : N ≤ 45) (hS : S[h]? = some (.lst ((List.range N).map fun t => prU d t))) (hq : Q (.tup [.int (d.fmod ((pp N : Nat) : Int)), .int ((pp N : Nat) : Int)]) S) : wpC G (k + 2) f_combine [.ref h] S Q E := by
  refine ente (d := d_combine) 8 rfl rfl rfl (B_cons ?_)
  dsimp! only []
  refine B_cons ?_
  dsimp! only []
  refine B_cons ?_
  dsimp! only [hS]
  refine for_mapR (fun t σ S' => S' = S ∧ ∃ z3 z4 z5 z6 z7 z8, σ = [some (.ref h), some (.int (d.fmod ((pp t : Nat) : Int))), some (.int ((pp t : Nat) : Int)), z3, z4, z5, z6, z7, z8]) (fun t σ S' ⟨e, _⟩ => ⟨_, by rw [e]; exact hS, rfl⟩) ⟨rfl, none, none, none, none, none, none, ?_⟩ ?_ ?_
  · show _ = [_, some (U.int (d.fmod ((1 : Nat) : Int))), some (U.int ((1 : Nat) : Int)), _, _, _, _, _, _]
    have : d.fmod ((1 : Nat) : Int) = 0 := by rw [Int.fmod_eq_emod_of_nonneg _ (by omega)]; omega
    rw [this]; rfl
  · rintro σ S' ⟨rfl, z3, z4, z5, z6, z7, z8, rfl⟩
    refine B_cons ?_
    dsimp! only []
    exact fin_id hq
  · rintro t σ S' K' ht ⟨rfl, z3, z4, z5, z6, z7, z8, rfl⟩ hK
    obtain ⟨h1, h2, h3, h4, h5⟩ := tab_i (i := t) (by omega)
    have p0 : 0 < pi (t + 1) := by omega
    have m0 := pp_pos (i := t) (by omega)
    have mb := pp_b (i := t) (by omega)
    have mb1 : ((pp t : Nat) : Int).natAbs < 2 ^ 690 := by omega
    have cop := pp_cop (i := t) (by omega)
    obtain ⟨m, hm⟩ : ∃ m : Int, m = ((pp t : Nat) : Int) := ⟨_, rfl⟩
    obtain ⟨p, hp⟩ : ∃ p : Int, p = ((pi (t + 1) : Nat) : Int) := ⟨_, rfl⟩
    have cx : (2 : Nat) ^ 690 < 2 ^ CX := by decide +kernel
    have cx2 : (33191 : Nat) < 2 ^ CX := by decide +kernel
    have m1 : 0 < m := by omega
    have p1 : 0 < p := by omega
    have p2 : p ≤ 33191 := by omega
    have mN : m.natAbs < 2 ^ CX := by rw [hm]; exact Nat.lt_trans mb1 cx
    rw [← hm]
    dsimp! only [prU]
    rw [← hp]
    refine B_cons ?_
    dsimp! only []
    refine common_specX mN (by omega) fun g s u hg => ?_
    obtain ⟨sz, nz, psg, x, y, hx, hy, t0, s0, bd⟩ := hg
    obtain ⟨g0, hgd⟩ := psg (by omega)
    have g1 : g = 1 := by
      have d1 : g ∣ 1 := by
        have a1 : g.natAbs ∣ pp t := by
          have : g ∣ m := ⟨x, by rw [hx]; grind⟩
          have := Int.natAbs_dvd_natAbs.mpr this
          rwa [hm, Int.natAbs_natCast] at this
        have a2 : g.natAbs ∣ pi (t + 1) := by
          have : g ∣ p := ⟨y, by rw [hy]; grind⟩
          have := Int.natAbs_dvd_natAbs.mpr this
          rwa [hp, Int.natAbs_natCast] at this
        have a3 := Nat.dvd_gcd a1 a2
        rw [cop] at a3
        exact Int.natAbs_dvd_natAbs.mp a3
      have := Int.le_of_dvd (by omega) d1
      omega
    subst g1
    have sb := (bd (by omega) (by omega)).1
    have r1 := fm_lt (a := d) m1
    have r2 := fm_lt (a := d) p1
    have y1 : y = p := by omega
    dsimp! only []
    refine B_cons ?_
    dsimp! only []
    have f1 : ∀ z : Int, z.fmod 1 = 0 := fun z => by rw [Int.fmod_eq_emod_of_nonneg _ (by omega)]; omega
    have q1 : ∀ z : Int, z.fdiv 1 = z := fun z => by rw [Int.fdiv_one]
    rw [f1]
    refine ifn (by omega) (B_cons ?_)
    obtain ⟨r, hr⟩ : ∃ r, r = d.fmod m := ⟨_, rfl⟩
    obtain ⟨o, ho⟩ : ∃ o, o = d.fmod p := ⟨_, rfl⟩
    rw [← hr] at r1 ⊢
    rw [← ho] at r2 ⊢
    have rb : (o - r).natAbs < 2 ^ CX := by omega
    have s64 : -(2 ^ 64) < s ∧ s < 2 ^ 64 := by omega
    dsimp! only [q1]
    obtain ⟨e, he⟩ : ∃ e, e = ((o - r) * s).fmod p := ⟨_, rfl⟩
    have er := fm_lt (a := (o - r) * s) p1
    rw [← he] at er
    refine ⟨by decide, mulS (.inr s64), by decide, by omega, B_cons ?_⟩
    rw [← he]
    dsimp! only []
    refine ⟨mulS (.inr (by omega)), B_cons ?_⟩
    dsimp! only [q1]
    refine ⟨by decide, mulS (.inr (by omega)), B_cons ?_⟩
    dsimp! only []
    have M0 : 0 < m * p := Int.mul_pos m1 p1
    refine ⟨by omega, hK _ _ ⟨rfl, some (.int o), some (.int p), some (.int 1), some (.int s), some (.int u), some (.int e), ?_⟩⟩
    have eM : ((pp (t + 1) : Nat) : Int) = m * p := by rw [pp, Int.natCast_mul, hm, hp]
    have key : (r + m * e).fmod (m * p) = d.fmod (m * p) := by
      refine fm_congr M0 ?_
      have a1 : m ∣ d - r := by rw [hr]; exact fm_dvd m1
      have a2 : p ∣ d - o := by rw [ho]; exact fm_dvd p1
      have a3 : p ∣ (o - r) * s - e := by rw [he]; exact fm_dvd p1
      have b1 : m ∣ r + m * e - d := by
        obtain ⟨z, hz⟩ := a1
        exact ⟨e - z, by rw [Int.mul_sub, ← hz]; omega⟩
      have b2 : p ∣ r + m * e - d := by
        obtain ⟨z1, hz1⟩ := a2
        obtain ⟨z2, hz2⟩ := a3
        refine ⟨-z1 - m * z2 - u * (o - r), ?_⟩
        have : e = (o - r) * s - p * z2 := by omega
        have e2 : d = o + p * z1 := by omega
        rw [this, e2]
        have : m * s = 1 - u * p := by rw [← hgd]; grind
        have e3 : m * ((o - r) * s - p * z2) = (m * s) * (o - r) - m * (p * z2) := by grind
        rw [e3, this]; grind
      obtain ⟨z1, hz1⟩ := b1
      obtain ⟨z2, hz2⟩ := b2
      refine ⟨s * z2 + u * z1, ?_⟩
      have : r + m * e - d = (s * m + u * p) * (r + m * e - d) := by rw [hgd]; grind
      rw [this]
      have e4 : (s * m + u * p) * (r + m * e - d) = s * m * (r + m * e - d) + u * p * (r + m * e - d) := by grind
      rw [e4, show s * m * (r + m * e - d) = s * m * (p * z2) by rw [← hz2], show u * p * (r + m * e - d) = u * p * (m * z1) by rw [← hz1]]
      grind
    rw [eM, key]
end

section
open Ek PySem
variable {Q : UQ} {E : Nat → Sto → Prop} {k : Nat} {S Sb : Sto} {K : Fl} {n h : Nat} {ρ : Nat → Nat} {A : Nat → Nat → K.T}
abbrev matK (K : Fl) (m n : Nat) (f : Nat → Nat → K.T) : U := .tup [.int (m : Nat), .int (n : Nat), .tup ((List.range m).map fun i => .tup (rwK K n (f i)))]
abbrev rwA (K : Fl) (n : Nat) (A : Nat → Nat → K.T) : Nat → List U := fun i => rwK K n (A i)
theorem swap_refs {g : Nat → U} {n i j : Nat} (hi : i < n) (hj : j < n) : (((List.range n).map g).set i (g j)).set j (g i) = (List.range n).map fun a => g (xcn i j a) := by
  rw [set_map hi, set_map hj]
  refine List.map_congr_left fun a _ => ?_
  show (if a = j then g i else if a = i then g j else g a) = g (xcn i j a)
  unfold xcn
  by_cases e : a = j
  · rw [if_pos e]
    by_cases e2 : a = i
    · rw [if_pos e2, ← e2, e]
    · rw [if_neg e2, if_pos e]
  · rw [if_neg e]
    by_cases e2 : a = i
    · rw [if_pos e2, if_pos e2]
    · rw [if_neg e2, if_neg e2, if_neg e]
theorem xcn_lt {i j a n : Nat} (hi : i < n) (hj : j < n) (ha : a < n) : xcn i j a < n := by
  unfold xcn
  split
  · exact hj
  · split
    · exact hi
    · exact ha
theorem xcn_xcn {i j a : Nat} : xcn i j (xcn i j a) = a := by
  unfold xcn
  by_cases e : a = i
  · rw [if_pos e]
    by_cases e2 : j = i
    · rw [if_pos e2]; omega
    · rw [if_neg e2, if_pos rfl]; omega
  · rw [if_neg e]
    by_cases e2 : a = j
    · rw [if_pos e2, if_pos rfl]; omega
    · rw [if_neg e2, if_neg e, if_neg e2]
theorem xcn_inj {i j a c : Nat} (e : xcn i j a = xcn i j c) : a = c := by rw [← xcn_xcn (i := i) (j := j) (a := a), e, xcn_xcn]
theorem sz1 : Sz.Ok ⟨1, 1⟩ := ⟨by decide, by decide, by decide⟩
section
variable {q : Nat} (hq2 : q < 2 ^ 60)
include hq2
theorem addF {x y : (Fl.f q).T} (h : Q ((Fl.f q).c (x + y)) S) : wpC G (k + 3) f_add [(Fl.f q).u, (Fl.f q).c x, (Fl.f q).c y] S Q E := add_spec sz1 sz1 hq2 hq2 h
theorem mulF {x y : (Fl.f q).T} (h : Q ((Fl.f q).c (x * y)) S) : wpC G (k + 3) f_multiply [(Fl.f q).u, (Fl.f q).c x, (Fl.f q).c y] S Q E := mul_spec sz1 sz1 hq2 hq2 h
theorem negF {x : (Fl.f q).T} (h : Q ((Fl.f q).c (-x)) S) : wpC G (k + 3) f_negate [(Fl.f q).u, (Fl.f q).c x] S Q E := neg_spec h
theorem subF {x y : (Fl.f q).T} (h : Q ((Fl.f q).c (x - y)) S) : wpC G (k + 4) f_subtract [(Fl.f q).u, (Fl.f q).c x, (Fl.f q).c y] S Q E := by
  refine ente (d := d_subtract) 0 rfl rfl rfl (B_cons ?_)
  dsimp! only []
  refine negF hq2 ?_
  refine addF hq2 ?_
  have e : x + -y = x - y := by grind
  rw [e]
  exact fin_id h
end
theorem exchange_spec {i j : Nat} (R : Rw0 Sb S h ρ n (rwA K n A)) (hn : n ≤ 10) (hi : i < n) (hj : j < n) (hq : ∀ S' ρ', Rw0 Sb S' h ρ' n (rwA K n (swpM i j A)) → Q .non S') : wpC G (k + 1) f_exchange [.ref h, .int (i : Nat), .int (j : Nat)] S Q E := by
  refine ente (d := d_exchange) 1 rfl rfl rfl (B_cons ?_)
  have hh := R.hd
  dsimp! only [hh]
  refine ⟨_, at_rangeN hj, _, at_rangeN hi, i, ixN_nat (by simpa using hi), _, get_set_eq (lt_get hh), j, ixN_nat (by simpa using hj), B_cons ?_⟩
  rw [List.set_set, swap_refs (g := fun a => U.ref (ρ a)) hi hj]
  have R1 := R.ord (π := xcn i j) (fun a ha => xcn_lt hi hj ha) fun a c _ _ e => xcn_inj e
  have hh1 := R1.hd
  generalize List.set S h _ = S1 at R1 hh1 ⊢
  dsimp! only [hh1]
  refine for_mapR (N := n) (g := fun a => U.ref (ρ (xcn i j a))) (fun a σ' S' => ∃ z3, σ' = [some (.ref h), some (.int (i : Nat)), some (.int (j : Nat)), z3] ∧ Rw0 Sb S' h (fun a => ρ (xcn i j a)) n (fun b => if b < a then rwK K n (swpM i j A b) else rwK K n (A (xcn i j b)))) ?_ ⟨none, rfl, R1.congr fun b _ => (if_neg (by omega)).symm⟩ ?_ ?_
  · rintro a σ' S' ⟨_, _, R'⟩
    exact ⟨_, R'.hd, rfl⟩
  · rintro σ' S' ⟨z3, rfl, R'⟩
    exact fin_id (hq _ _ (R'.congr fun b hb => if_pos hb))
  · rintro a σ' S' K' ha ⟨z3, rfl, R'⟩ hK
    have hr := R'.row a ha
    rw [if_neg (Nat.lt_irrefl a)] at hr
    dsimp! only []
    refine B_cons ?_
    dsimp! only [hr]
    refine ⟨_, at_rangeN hj, _, at_rangeN hi, i, ixN_nat (by simpa using hi), _, get_set_eq (lt_get hr), j, ixN_nat (by simpa using hj), ?_⟩
    rw [List.set_set, swap_refs (g := fun c => K.c (A (xcn i j a) c)) hi hj]
    refine hK _ _ ⟨_, rfl, (R'.set_row ha _).congr fun b hb => ?_⟩
    by_cases e : b = a
    · rw [e, upd_at, if_pos (Nat.lt_succ_self a)]
      rfl
    · rw [upd_ne e]
      by_cases e2 : b < a
      · rw [if_pos e2, if_pos (by omega)]
      · rw [if_neg e2, if_neg (by omega)]
theorem clear_entry_spec {q : Nat} (hq2 : q < 2 ^ 60) {A : Nat → Nat → (Fl.f q).T} {i m : Nat} {f : (Fl.f q).T} (R : Rw0 Sb S h ρ n (rwA (.f q) n A)) (hn : n ≤ 10) (hi : i < n) (hm : m < n) (him : i ≠ m) (hq : ∀ S', Rw0 Sb S' h ρ n (rwA (.f q) n (clrC f i m (clrR f i m A))) → Q .non S') :
    wpC G (k + 6) f_clear_entry [(Fl.f q).u, .ref h, .int (i : Nat), .int (m : Nat), (Fl.f q).c f] S Q E := by
  have bg : (1000 : Nat) ≤ big := by decide
  refine ente (d := d_clear_entry) 2 rfl rfl rfl (B_seq (fun σ' S' => ∃ z5, σ' = [some (Fl.f q).u, some (.ref h), some (.int (i : Nat)), some (.int (m : Nat)), some ((Fl.f q).c f), z5, none] ∧ Rw0 Sb S' h ρ n (rwA (.f q) n (clrR f i m A))) (fun N hN => ?_) ?_)
  · have hh := R.hd
    dsimp! only [hh, List.length_range]
    refine ⟨nearN (by omega), ?_⟩
    rw [Int.toNat_natCast]
    refine range_up (n := n) (fun j σ' S' => ∃ z5, σ' = [some (Fl.f q).u, some (.ref h), some (.int (i : Nat)), some (.int (m : Nat)), some ((Fl.f q).c f), z5, none] ∧ Rw0 Sb S' h ρ n (fun a => if a = i then rwK (.f q) n (fun c => if c < j then A i c - f * A m c else A i c) else rwK (.f q) n (A a))) ⟨none, rfl, R.congr fun a _ => ?_⟩ ?_ ?_
    · by_cases e : a = i
      · rw [if_pos e, e]
        exact rwK_congr fun c _ => (if_neg (by omega)).symm
      · rw [if_neg e]
    · rintro σ' S' ⟨z5, rfl, R'⟩
      refine hN _ _ ⟨z5, rfl, R'.congr fun a _ => ?_⟩
      by_cases e : a = i
      · rw [if_pos e]
        exact rwK_congr fun c hc => by
          unfold clrR
          rw [if_pos hc, if_pos e, e]
      · rw [if_neg e]
        exact rwK_congr fun c hc => by
          unfold clrR
          rw [if_neg e]
    · rintro j σ' S' K' hj ⟨z5, rfl, R'⟩ hK
      have hh := R'.hd
      have hr := R'.row i hi
      have hr2 := R'.row m hm
      rw [if_pos rfl] at hr
      rw [if_neg (Ne.symm him)] at hr2
      dsimp! only []
      refine B_cons ?_
      dsimp! only [hh]
      refine ⟨_, at_rangeN hi, ?_⟩
      dsimp! only [hr]
      refine ⟨_, at_rangeN hj, ?_⟩
      dsimp! only [hh]
      refine ⟨_, at_rangeN hm, ?_⟩
      dsimp! only [hr2]
      refine ⟨_, at_rangeN hj, ?_⟩
      refine mulF hq2 ?_
      refine subF hq2 ?_
      dsimp! only [hh]
      refine ⟨_, at_rangeN hi, ?_⟩
      dsimp! only [hr]
      refine ⟨j, ixN_nat (by simpa using hj), ?_⟩
      rw [rwK_set, if_neg (Nat.lt_irrefl j)]
      refine hK _ _ ⟨_, rfl, (R'.set_row hi _).congr fun b hb => ?_⟩
      by_cases e : b = i
      · rw [e, upd_at, if_pos rfl]
        refine rwK_congr fun c hc => ?_
        show (if c = j then A i j - f * A m j else if c < j then A i c - f * A m c else A i c) = _
        by_cases e2 : c = j
        · rw [if_pos e2, if_pos (by omega), e2]
        · rw [if_neg e2]
          by_cases e3 : c < j
          · rw [if_pos e3, if_pos (by omega)]
          · rw [if_neg e3, if_neg (by omega)]
      · rw [upd_ne e, if_neg e, if_neg e]
  · rintro σ' S' ⟨z5, rfl, R'⟩
    refine B_cons ?_
    have hh := R'.hd
    dsimp! only [hh]
    refine for_mapR (N := n) (g := fun a => U.ref (ρ a)) (fun a σ' S' => ∃ z6, σ' = [some (Fl.f q).u, some (.ref h), some (.int (i : Nat)), some (.int (m : Nat)), some ((Fl.f q).c f), z5, z6] ∧ Rw0 Sb S' h ρ n (fun b => if b < a then rwK (.f q) n (clrC f i m (clrR f i m A) b) else rwK (.f q) n (clrR f i m A b))) ?_ ⟨none, rfl, R'.congr fun b _ => (if_neg (by omega)).symm⟩ ?_ ?_
    · rintro a σ' S' ⟨_, _, R'⟩
      exact ⟨_, R'.hd, rfl⟩
    · rintro σ' S' ⟨z6, rfl, R'⟩
      exact fin_id (hq _ (R'.congr fun b hb => if_pos hb))
    · rintro a σ' S' K' ha ⟨z6, rfl, R'⟩ hK
      have hr := R'.row a ha
      rw [if_neg (Nat.lt_irrefl a)] at hr
      dsimp! only []
      refine B_cons ?_
      dsimp! only [hr]
      refine ⟨_, at_rangeN hm, ?_⟩
      refine ⟨_, at_rangeN hi, ?_⟩
      refine mulF hq2 ?_
      refine addF hq2 ?_
      dsimp! only [hr]
      refine ⟨m, ixN_nat (by simpa using hm), ?_⟩
      rw [rwK_set]
      refine hK _ _ ⟨_, rfl, (R'.set_row ha _).congr fun b hb => ?_⟩
      by_cases e : b = a
      · rw [e, upd_at, if_pos (Nat.lt_succ_self a)]
        rfl
      · rw [upd_ne e]
        by_cases e2 : b < a
        · rw [if_pos e2, if_pos (by omega)]
        · rw [if_neg e2, if_neg (by omega)]
theorem hessenberg_spec {q : Nat} (hq2 : q < 2 ^ 60) (hw : Kw (.f q)) {A : Nat → Nat → (Fl.f q).T} (hn : n ≤ 4) (hq : ∀ S' h ρ B, (∀ k, Ek.ch B n k = Ek.ch A n k) → (∀ i j, i < n → j + 1 < i → B i j = 0) → Rw0 S S' h ρ n (rwA (.f q) n B) → Q (.ref h) S') :
    wpC G (k + 8) f_hessenberg [(Fl.f q).u, matK (.f q) n n A] S Q E := by
  have bg : (1000 : Nat) ≤ big := by decide
  refine ente (d := d_hessenberg) 8 rfl rfl rfl (B_cons ?_)
  dsimp! only []
  refine comp_rows (fun i => rwK (.f q) n (A i)) (fun _ => trivial) (by omega) (fun i K' T hi hK => ?_) fun T ρ R0 => ?_
  · dsimp! only []
    have := hK []
    simp only [List.append_nil, List.length_append] at this
    exact this
  generalize S ++ T ++ [Ob.lst ((List.range n).map fun i => U.ref (ρ i))] = S1 at R0 ⊢
  generalize (S ++ T).length = h at R0 ⊢
  have hh := R0.hd
  dsimp! only [hh, List.length_range]
  refine B_cons ?_
  dsimp! only [hh, List.length_range]
  refine B_cons ?_
  dsimp! only []
  refine ⟨⟨by omega, by omega⟩, ⟨by omega, by omega⟩, ?_⟩
  rw [show ((n : Int) - 1 - 1).toNat = n - 2 by omega]
  refine range_lo (lo := 1) (n := n - 2) (fun t σ' S' => ∃ ρ B z5 z6 z7 z8 z9, σ' = [some (Fl.f q).u, some (matK (.f q) n n A), some (.ref h), none, some (.int (n : Nat)), z5, z6, z7, z8, z9] ∧
    Rw0 S S' h ρ n (rwA (.f q) n B) ∧ (∀ k, Ek.ch B n k = Ek.ch A n k) ∧ ∀ i j, i < n → j + 1 < i → j < t → B i j = 0) ⟨ρ, A, none, none, none, none, none, rfl, R0, fun _ => rfl, fun i j _ _ h => absurd h (by omega)⟩ ?_ ?_
  · rintro σ' S' ⟨ρ, B, z5, z6, z7, z8, z9, rfl, R, c1, z1⟩
    refine B_cons ?_
    dsimp! only []
    refine fin_id (hq _ _ _ B c1 (fun i j h1 h2 => z1 i j h1 h2 (by omega)) R)
  · rintro t σ' S' K' ht ⟨ρ, B, z5, z6, z7, z8, z9, rfl, R, c1, z1⟩ hK
    have em : (1 : Int) + (t : Int) = ((t + 1 : Nat) : Int) := by omega
    have em1 : ((t + 1 : Nat) : Int) - 1 = (t : Int) := by omega
    rw [em]
    dsimp! only []
    refine B_cons ?_
    dsimp! only []
    refine ⟨nearN (by omega), nearN (by omega), ?_⟩
    rw [show ((n : Int) - ((t + 1 : Nat) : Int)).toNat = n - (t + 1) by omega]
    refine comp_find (P := fun i => B i t ≠ 0) (by omega) (fun i K1 K2 hi h1 h2 => ?_) ?_
    · have hri : t + 1 + i < n := by omega
      dsimp! only [R.hd]
      rw [show (((t + 1 : Nat) : Int)) + ((i : Nat) : Int) = ((t + 1 + i : Nat) : Int) by omega]
      refine ⟨_, at_rangeN hri, ?_⟩
      dsimp! only [R.row _ hri, em1]
      refine ⟨_, at_rangeN (show t < n by omega), ?_⟩
      refine zero_spec ?_
      dsimp! only [eqU_c]
      refine ite_rule (fun e => h1 e) (fun e => h2 e)
    · rcases find_cases (P := fun i => B i t ≠ 0) (N := n - (t + 1)) (lo := t + 1) with ⟨eL, hz0⟩ | ⟨f, tl, eL, f1, f2, f3⟩
      · rw [eL]
        refine B_cons ?_
        dsimp! only []
        refine hK _ _ ⟨ρ, B, _, _, _, _, _, rfl, R.app _, c1, fun i j h1 h2 h3 => ?_⟩
        by_cases e : j = t
        · rw [e]
          exact Classical.byContradiction fun w => hz0 i (by omega) (by omega) w
        · exact z1 i j h1 h2 (by omega)
      · rw [eL]
        have fn : f < n := by omega
        have tn : t + 1 < n := by omega
        obtain ⟨S2, hS2⟩ : ∃ S2 : Sto, S2 = S' ++ [Ob.lst ((f :: tl).map fun i => U.int ((i : Nat) : Int))] := ⟨_, rfl⟩
        rw [← hS2]
        have R2 : Rw0 S S2 h ρ n (rwA (.f q) n B) := by rw [hS2]; exact R.app _
        have eF : S2[S'.length]? = some (.lst (U.int (f : Nat) :: tl.map fun i => U.int ((i : Nat) : Int))) := by rw [hS2]; simp
        refine B_cons ?_
        dsimp! only [eF]
        refine B_cons ?_
        dsimp! only [eF]
        refine exchange_spec (k := k + 6) R2 (by omega) fn tn fun S3 ρ3 R3 => ?_
        have sx : ∀ a, a ≤ t → xcn f (t + 1) a = a := fun a ha => by
          unfold xcn
          rw [if_neg (by omega), if_neg (by omega)]
        have s1 : xcn f (t + 1) (t + 1) = f := by
          unfold xcn
          by_cases e : t + 1 = f
          · rw [if_pos e]; exact e
          · rw [if_neg e, if_pos rfl]
        have sge : ∀ a, t + 1 ≤ a → t + 1 ≤ xcn f (t + 1) a := fun a ha => by
          unfold xcn
          split
          · omega
          · split <;> omega
        obtain ⟨B1, hB1⟩ : ∃ B1, B1 = swpM f (t + 1) B := ⟨_, rfl⟩
        have c2 : ∀ k, Ek.ch B1 n k = Ek.ch A n k := fun k => by
          rw [hB1, ← c1 k]
          by_cases e : f = t + 1
          · have : swpM f (t + 1) B = B := by
              funext a b
              have s : ∀ a, xcn f (t + 1) a = a := fun a => by
                unfold xcn
                split
                · omega
                · split <;> omega
              unfold swpM
              rw [s, s]
            rw [this]
          · exact ch_swp hn (by omega) (by omega) fn
        have z2 : ∀ i j, i < n → j + 1 < i → j < t → B1 i j = 0 := fun i j h1 h2 h3 => by
          rw [hB1]
          show B (xcn f (t + 1) i) (xcn f (t + 1) j) = 0
          rw [sx j (by omega)]
          by_cases e : i ≤ t
          · rw [sx i e]; exact z1 i j h1 h2 h3
          · exact z1 _ j (xcn_lt fn tn h1) (by have := sge i (by omega); omega) h3
        have p2 : B1 (t + 1) t ≠ 0 := by
          rw [hB1]
          show B (xcn f (t + 1) (t + 1)) (xcn f (t + 1) t) ≠ 0
          rw [s1, sx t (Nat.le_refl t)]
          exact f3
        rw [← hB1] at R3
        refine B_cons ?_
        dsimp! only [R3.hd]
        refine ⟨_, at_rangeN tn, ?_⟩
        dsimp! only [R3.row _ tn, em1]
        refine ⟨_, at_rangeN (show t < n by omega), ?_⟩
        refine inverse_spec (k := k + 3) hw p2 ?_
        refine B_cons ?_
        dsimp! only []
        refine ⟨nearN (n := t + 1 + 1) (by omega), nearN (by omega), ?_⟩
        rw [show ((n : Int) - (((t + 1 : Nat) : Int) + 1)).toNat = n - (t + 2) by omega]
        refine range_lo (lo := ((t + 1 : Nat) : Int) + 1) (n := n - (t + 2)) (fun s σ5 S5 => ∃ B2 z7 z9, σ5 = [some (Fl.f q).u, some (matK (.f q) n n A), some (.ref h), none, some (.int (n : Nat)), some (.int ((t + 1 : Nat) : Int)), some (.ref S'.length), z7, some ((Fl.f q).c ((Fl.f q).inv (B1 (t + 1) t))), z9] ∧
          Rw0 S S5 h ρ3 n (rwA (.f q) n B2) ∧ (∀ k, Ek.ch B2 n k = Ek.ch A n k) ∧ (∀ i j, i < n → j + 1 < i → j < t → B2 i j = 0) ∧ B2 (t + 1) t = B1 (t + 1) t ∧ ∀ i, t + 1 < i → i < t + 2 + s → B2 i t = 0) ⟨B1, _, _, rfl, R3, c2, z2, rfl, fun i h1 h2 => absurd h2 (by omega)⟩ ?_ ?_
        · rintro σ5 S5 ⟨B2, z7, z9, rfl, R5, c3, z3, p3, d3⟩
          refine hK _ _ ⟨ρ3, B2, _, _, _, _, _, rfl, R5, c3, fun i j h1 h2 h3 => ?_⟩
          by_cases e : j = t
          · rw [e]; exact d3 i (by omega) (by omega)
          · exact z3 i j h1 h2 (by omega)
        · rintro s σ5 S5 K5 hs ⟨B2, z7, z9, rfl, R5, c3, z3, p3, d3⟩ hK5
          have ei : ((t + 1 : Nat) : Int) + 1 + (s : Int) = ((t + 2 + s : Nat) : Int) := by omega
          have hi : t + 2 + s < n := by omega
          rw [ei]
          dsimp! only []
          refine B_cons ?_
          dsimp! only [R5.hd]
          refine ⟨_, at_rangeN hi, ?_⟩
          dsimp! only [R5.row _ hi, em1]
          refine ⟨_, at_rangeN (show t < n by omega), ?_⟩
          refine mulF hq2 ?_
          refine B_cons ?_
          dsimp! only []
          refine zero_spec ?_
          dsimp! only [eqU_c]
          have hinv := mul_inv hw.fp p2
          refine ite_rule (fun e => B_cons ?_) (fun e => ?_)
          · dsimp! only []
            refine clear_entry_spec (k := k + 1) hq2 R5 (by omega) hi tn (by omega) fun S6 R6 => ?_
            refine hK5 _ _ ⟨_, _, _, rfl, R6, fun k => (ch_clr hn (by omega) (by omega) hi).trans (c3 k), fun i j h1 h2 h3 => ?_, ?_, fun i h1 h2 => ?_⟩
            · unfold clrC clrR
              rw [if_neg (by omega)]
              by_cases e2 : i = t + 2 + s
              · rw [if_pos e2, z3 i j h1 h2 h3, z3 (t + 1) j tn (by omega) h3]; grind
              · rw [if_neg e2]; exact z3 i j h1 h2 h3
            · unfold clrC clrR
              rw [if_neg (by omega), if_neg (by omega)]; exact p3
            · unfold clrC clrR
              rw [if_neg (by omega)]
              by_cases e2 : i = t + 2 + s
              · rw [if_pos e2, e2, p3]
                grind
              · rw [if_neg e2]; exact d3 i h1 (by omega)
          · dsimp! only []
            refine hK5 _ _ ⟨B2, _, _, rfl, R5, c3, z3, p3, fun i h1 h2 => ?_⟩
            by_cases e2 : i = t + 2 + s
            · rw [e2]
              have e : B2 (t + 2 + s) t * (Fl.f q).inv (B1 (t + 1) t) = 0 := Classical.not_not.mp e
              grind
            · exact d3 i h1 (by omega)
end

section
open Ek PySem
variable {Q : UQ} {E : Nat → Sto → Prop} {k : Nat} {S : Sto} {q n : Nat}
theorem len_strip {R : Type} [Lean.Grind.CommRing R] [DecidableEq R] {l : List R} : (strip l).length ≤ l.length := by
  rw [strip_len]; exact dg_le l
theorem len_mul {R : Type} [Lean.Grind.CommRing R] [DecidableEq R] {x y : Pol R} : (x * y).1.length ≤ x.1.length + y.1.length := by
  refine Nat.le_trans (len_strip (l := (List.range (x.1.length + y.1.length)).map (cv x.1 y.1))) ?_
  simp
theorem len_add {R : Type} [Lean.Grind.CommRing R] [DecidableEq R] {x y : Pol R} : (x + y).1.length ≤ max x.1.length y.1.length := by
  refine Nat.le_trans (len_strip (l := (List.range (max x.1.length y.1.length)).map fun n => co x.1 n + co y.1 n)) ?_
  simp
theorem len_neg {R : Type} [Lean.Grind.CommRing R] [DecidableEq R] {x : Pol R} : (-x).1.length = x.1.length := by
  show (pneg x.1).length = _
  simp [pneg]
theorem len_Cc {R : Type} [Lean.Grind.CommRing R] [DecidableEq R] {c : R} : (Cc c).1.length ≤ 1 := len_strip (l := [c])
theorem len_lin {R : Type} [Lean.Grind.CommRing R] [DecidableEq R] {c : R} : (lin c).1.length ≤ 2 := len_strip (l := [-c, 1])
theorem len_cur {R : Type} [Lean.Grind.CommRing R] [DecidableEq R] {H : Nat → Nat → R} {F : Nat → Pol R} {k : Nat} (h : ∀ i, i ≤ k → (F i).1.length ≤ 2 * i + 1) : ∀ j, (cur H F k j).1.length ≤ 2 * k + 3
  | 0 => by
    unfold cur
    have := len_mul (x := F k) (y := lin (H k k))
    have := len_lin (c := H k k)
    have := h k (Nat.le_refl k)
    omega
  | j + 1 => by
    unfold cur
    have h1 := len_cur (H := H) h j
    have h2 := len_add (x := cur H F k j) (y := -(Cc (prd H k (j + 1) * H (k - 1 - j) k) * F (k - 1 - j)))
    have h3 := len_mul (x := Cc (prd H k (j + 1) * H (k - 1 - j) k)) (y := F (k - 1 - j))
    have h4 := len_Cc (c := prd H k (j + 1) * H (k - 1 - j) k)
    have h5 := h (k - 1 - j) (by omega)
    rw [len_neg] at h2
    omega
theorem pbF (hq2 : q < 2 ^ 60) {l : List (Fl.f q).T} : PB (.f q) ⟨1, 1⟩ l := fun _ _ => hq2
theorem mulPF (hq2 : q < 2 ^ 60) {x y : Pol (Fl.f q).T} (lx : x.1.length ≤ 100) (ly : y.1.length ≤ 100) (h : Q ((Fl.f q).pc (x * y).1) S) : wpC G (k + 4) f_multiply [pu (.f q), (Fl.f q).pc x.1, (Fl.f q).pc y.1] S Q E :=
  mulP_spec (D := 1) (D' := 1) (V := 1) (W := 1) (M := 0) sz1 sz1 (pbF hq2) (pbF hq2) ⟨Nat.le_refl 1, (show 1 < 2 ^ EX by decide +kernel), by
    show x.1.length * (1 * 1) < 2 ^ EX
    refine Nat.lt_of_le_of_lt (show x.1.length * (1 * 1) ≤ 100 by omega) (by decide +kernel)⟩ (by omega) (by omega) h
theorem subPF (hq2 : q < 2 ^ 60) {x y : Pol (Fl.f q).T} (lx : x.1.length ≤ 100) (ly : y.1.length ≤ 100) (h : Q ((Fl.f q).pc (x + -y).1) S) : wpC G (k + 5) f_subtract [pu (.f q), (Fl.f q).pc x.1, (Fl.f q).pc y.1] S Q E := by
  refine ente (d := d_subtract) 0 rfl rfl rfl (B_cons ?_)
  dsimp! only []
  refine negP_spec (k := k + 2) (by omega) ?_
  refine addP_spec (D := 1) (V := 1) (W := 1) sz1 sz1 (pbF hq2) (pbF hq2) (by omega) (by
    have : (pneg y.1).length = y.1.length := by simp [pneg]
    omega) (fin_id h)
theorem at_lastN {g : Nat → U} {N : Nat} : atU ((List.range (N + 1)).map g) (-1) = some (g N) := by
  unfold atU
  rw [if_neg (by omega), if_pos (by simp; omega)]
  have e : ((-1 : Int) + (((List.range (N + 1)).map g).length : Int)).toNat = N := by simp; omega
  rw [e, List.getElem?_map, List.getElem?_range (by omega)]
  rfl
theorem dat_pc (l : List (Fl.f q).T) : U.dat 60 ((Fl.f q).pc l) = true := by
  show U.dats 59 _ = true
  exact dats_map fun _ => rfl
theorem characteristic_spec (hq2 : q < 2 ^ 60) (hw : Kw (.f q)) {A : Nat → Nat → (Fl.f q).T} (hn : n ≤ 4) (hq : ∀ P : Pol (Fl.f q).T, (∀ k, co P.1 k = Ek.ch A n k) → Q ((Fl.f q).pc P.1) S) :
    wpC G (k + 20) f_characteristic [(Fl.f q).u, matK (.f q) n n A] S Q E := by
  have bg : (1000 : Nat) ≤ big := by decide
  refine ente (d := d_characteristic) 8 rfl rfl rfl (B_cons ?_)
  dsimp! only []
  refine need_field_spec (k := k + 16) hw (B_cons ?_)
  dsimp! only []
  refine ente (d := d_need_square) 0 rfl rfl rfl (B_cons ?_)
  dsimp! only []
  refine need_shape_spec (fun _ => fin_id (B_cons ?_)) (fun e => absurd (of_decide_eq_false e) (by simp))
  dsimp! only []
  refine B_cons ?_
  dsimp! only []
  refine hessenberg_spec (k := k + 11) hq2 hw hn fun S1 h ρ B hc hz R0 => ?_
  dsimp! only []
  refine B_cons ?_
  dsimp! only []
  refine oneP_spec (k := k + 17) ?_
  dsimp! only []
  have one1 : (1 : Pol (Fl.f q).T).1 = [1] := by
    rw [Pol.one_val]
    exact Nrm.strip fun _ => one_ne
  have linv : ∀ c : (Fl.f q).T, (lin c).1 = [-c, 1] := fun c => Nrm.strip fun _ => one_ne
  obtain ⟨S2, hS2⟩ : ∃ S2, S2 = S1 ++ [Ob.lst [(Fl.f q).pc [1]]] := ⟨_, rfl⟩
  have R2 : Rw S S2 h S1.length ρ n [(Fl.f q).pc [1]] (rwA (.f q) n B) := by rw [hS2]; exact R0.push _
  rw [← hS2]
  generalize S1.length = g at R2 ⊢
  refine B_cons ?_
  dsimp! only [R2.hd, List.length_range]
  refine ⟨nearN (by omega), ?_⟩
  rw [Int.toNat_natCast]
  refine range_up (n := n) (fun k' σ' S' => ∃ F z5 z6 z7 z8 z9, σ' = [some (Fl.f q).u, some (matK (.f q) n n A), some (pu (.f q)), some (.ref h), some (.ref g), z5, z6, z7, z8, z9] ∧
    Rw S S' h g ρ n ((List.range (k' + 1)).map fun i => (Fl.f q).pc (F i).1) (rwA (.f q) n B) ∧ F 0 = 1 ∧ (∀ i, i < k' → F (i + 1) = cur B F i i) ∧ ∀ i, i ≤ k' → (F i).1.length ≤ 2 * i + 1) ⟨fun _ => 1, _, _, _, _, _, rfl, by rw [show (List.range (0 + 1)).map (fun _ => (Fl.f q).pc (1 : Pol (Fl.f q).T).1) = [(Fl.f q).pc [1]] by rw [one1]; rfl]; exact R2, rfl, fun i h => absurd h (by omega), fun i hi => by rw [one1]; show 1 ≤ _; omega⟩ ?_ ?_
  · rintro σ' S' ⟨F, z5, z6, z7, z8, z9, rfl, R, f0, fs, fl⟩
    refine B_cons ?_
    dsimp! only [R.qd]
    refine ⟨_, at_lastN, ?_⟩
    refine R.toRw0.fin (n := 60) (dat_pc _) (hq (F n) fun k => ?_)
    rw [hess_ch hn f0 fs (fun i j h1 h2 => hz i j h1 h2) k]
    exact hc k
  · rintro k' σ' S' K' hk ⟨F, z5, z6, z7, z8, z9, rfl, R, f0, fs, fl⟩ hK
    dsimp! only []
    refine B_cons ?_
    dsimp! only [R.qd]
    refine ⟨_, at_rangeN (show k' < k' + 1 by omega), ?_⟩
    dsimp! only [R.hd]
    refine ⟨_, at_rangeN hk, ?_⟩
    dsimp! only [R.row _ hk]
    refine ⟨_, at_rangeN hk, ?_⟩
    refine negF (k := k + 16) hq2 ?_
    dsimp! only []
    refine one_spec ?_
    dsimp! only []
    rw [show (U.tup [(Fl.f q).c (-B k' k'), (Fl.f q).c 1]) = (Fl.f q).pc (lin (B k' k')).1 by rw [linv]; rfl]
    have l1 := fl k' (Nat.le_refl k')
    refine mulPF (k := k + 15) hq2 (by omega) (by have := len_lin (c := B k' k'); omega) ?_
    refine B_cons ?_
    dsimp! only []
    refine one_spec ?_
    refine B_cons ?_
    dsimp! only []
    refine ⟨⟨by omega, by omega⟩, ⟨by omega, by omega⟩, ?_⟩
    rw [show ((k' : Int) - 1 - -1).toNat = k' by omega]
    refine range_dn (lo := (k' : Int) - 1) (n := k') (fun j σ5 S5 => ∃ z8 z9, σ5 = [some (Fl.f q).u, some (matK (.f q) n n A), some (pu (.f q)), some (.ref h), some (.ref g), some (.int (k' : Nat)), some ((Fl.f q).pc (cur B F k' j).1), some ((Fl.f q).c (prd B k' j)), z8, z9] ∧
      Rw S S5 h g ρ n ((List.range (k' + 1)).map fun i => (Fl.f q).pc (F i).1) (rwA (.f q) n B)) ⟨_, _, rfl, R⟩ ?_ ?_
    · rintro σ5 S5 ⟨z8, z9, rfl, R5⟩
      refine B_cons ?_
      dsimp! only [R5.qd]
      refine ⟨by rw [List.length_range]; omega, ?_⟩
      refine hK _ _ ⟨fun i => if i = k' + 1 then cur B F k' k' else F i, _, _, _, _, _, rfl, (R5.set_q _).congrP ?_, ?_, fun i hi => ?_, fun i hi => ?_⟩
      · rw [List.range_succ (n := k' + 1), List.map_append]
        congr 1
        · exact List.map_congr_left fun i hi => by
            show (Fl.f q).pc (F i).1 = (Fl.f q).pc (if i = k' + 1 then cur B F k' k' else F i).1
            rw [if_neg (by have := List.mem_range.mp hi; omega)]
        · simp
      · show (if 0 = k' + 1 then cur B F k' k' else F 0) = 1
        rw [if_neg (by omega)]; exact f0
      · have cc : ∀ m, m ≤ k' → cur B (fun i => if i = k' + 1 then cur B F k' k' else F i) m m = cur B F m m := fun m hm => cur_congr (fun a ha => if_neg (by omega)) m
        show (if i + 1 = k' + 1 then cur B F k' k' else F (i + 1)) = _
        rw [cc i (by omega)]
        by_cases e : i = k'
        · rw [if_pos (by omega), e]
        · rw [if_neg (by omega)]; exact fs i (by omega)
      · show (if i = k' + 1 then cur B F k' k' else F i).1.length ≤ _
        by_cases e : i = k' + 1
        · rw [if_pos e]
          have := len_cur (H := B) fl k'
          omega
        · rw [if_neg e]; exact fl i (by omega)
    · rintro j σ5 S5 K5 hj ⟨z8, z9, rfl, R5⟩ hK5
      have ei : (k' : Int) - 1 - (j : Int) = ((k' - 1 - j : Nat) : Int) := by omega
      have ei1 : ((k' - 1 - j : Nat) : Int) + 1 = ((k' - j : Nat) : Int) := by omega
      rw [ei]
      dsimp! only []
      refine B_cons ?_
      dsimp! only [R5.hd, ei1]
      refine ⟨_, at_rangeN (show k' - j < n by omega), ?_⟩
      dsimp! only [R5.row _ (show k' - j < n by omega)]
      refine ⟨_, at_rangeN (show k' - 1 - j < n by omega), ?_⟩
      refine mulF (k := k + 16) hq2 ?_
      refine B_cons ?_
      dsimp! only [R5.hd]
      refine ⟨_, at_rangeN (show k' - 1 - j < n by omega), ?_⟩
      dsimp! only [R5.row _ (show k' - 1 - j < n by omega)]
      refine ⟨_, at_rangeN hk, ?_⟩
      refine mulF (k := k + 16) hq2 ?_
      dsimp! only []
      refine trimmed_spec (k := k + 17) (l := [prd B k' j * B (k' - j) (k' - 1 - j) * B (k' - 1 - j) k']) (by simp) (by show 1 ≤ big; omega) ?_
      have R6 := R5.app [Ob.lst [(Fl.f q).c (prd B k' j * B (k' - j) (k' - 1 - j) * B (k' - 1 - j) k')]]
      generalize S5 ++ _ = S6 at R6 ⊢
      refine B_cons ?_
      dsimp! only [R6.qd]
      refine ⟨_, at_rangeN (show k' - 1 - j < k' + 1 by omega), ?_⟩
      have l2 := len_Cc (c := prd B k' (j + 1) * B (k' - 1 - j) k')
      have l3 := fl (k' - 1 - j) (by omega)
      refine mulPF (k := k + 15) (x := Cc (prd B k' (j + 1) * B (k' - 1 - j) k')) (y := F (k' - 1 - j)) hq2 (by omega) (by omega) ?_
      have l4 := len_cur (H := B) fl j
      have l5 := len_mul (x := Cc (prd B k' (j + 1) * B (k' - 1 - j) k')) (y := F (k' - 1 - j))
      refine subPF (k := k + 14) (x := cur B F k' j) (y := Cc (prd B k' (j + 1) * B (k' - 1 - j) k') * F (k' - 1 - j)) hq2 (by omega) (by omega) ?_
      exact hK5 _ _ ⟨_, _, rfl, R6⟩
end

section
open Ek PySem
variable {Q : UQ} {E : Nat → Sto → Prop} {k : Nat} {S : Sto} {q n : Nat}
theorem pi_prime {i : Nat} (h : i < 45) : Ek.Pm (pi (i + 1)) := by
  obtain ⟨h1, h2, h3, h4, h5⟩ := tab_i h
  have lo := pi_lo (i := i) (by omega)
  have key : ∀ m, 2 ≤ m → m < 183 → ¬ m ∣ pi (i + 1) := fun m a b hd => by
    have := List.all_eq_true.mp (List.all_eq_true.mp tab_p (pi (i + 1)) (by simpa using h4)) m (List.mem_range.mpr b)
    rw [decide_eq_false (show ¬ m < 2 by omega), Bool.false_or, Nat.mod_eq_zero_of_dvd hd] at this
    cases this
  refine ⟨by omega, fun m hm => ?_⟩
  obtain ⟨c, hc⟩ := hm
  by_cases m1 : m = 1
  · exact .inl m1
  · refine .inr ?_
    have m0 : m ≠ 0 := fun e => by rw [e, Nat.zero_mul] at hc; omega
    have c0 : c ≠ 0 := fun e => by rw [e, Nat.mul_zero] at hc; omega
    have a1 : 183 ≤ m := Nat.le_of_not_lt fun w => key m (by omega) w ⟨c, hc⟩
    by_cases c1 : c = 1
    · rw [hc, c1, Nat.mul_one]
    · have a2 : 183 ≤ c := Nat.le_of_not_lt fun w => key c (by omega) w ⟨m, by rw [hc, Nat.mul_comm]⟩
      have : 183 * 183 ≤ m * c := Nat.mul_le_mul a1 a2
      omega
theorem pi_kw {i : Nat} (h : i < 45) : Kw (.f (pi (i + 1) - 2)) := by
  obtain ⟨h1, h2, h3, h4, h5⟩ := tab_i h
  have lo := pi_lo (i := i) (by omega)
  intro n e
  have e : pi (i + 1) - 2 = n := by injection e
  refine ⟨by omega, ?_⟩
  rw [← e, show pi (i + 1) - 2 + 2 = pi (i + 1) by omega]
  exact pi_prime h
theorem symmetric_spec {d : Int} {M : Int} (hM : 0 < M) (h1 : 2 * (d.natAbs : Int) < M) (hb : M.natAbs < 2 ^ CX) (hq : Q (.int d) S) : wpC G (k + 1) f_symmetric [.int (d.fmod M), .int M] S Q E := by
  have a := fm_lt (a := d) hM
  have b := fm_dvd (a := d) hM
  obtain ⟨r, hr⟩ : ∃ r, r = d.fmod M := ⟨_, rfl⟩
  rw [← hr] at a b ⊢
  have e : r.fmod M = r := by
    rw [Int.fmod_eq_emod_of_nonneg _ (by omega), Int.emod_eq_of_lt a.1 a.2]
  refine ente (d := d_symmetric) 0 rfl rfl rfl (B_cons ?_)
  dsimp! only []
  refine ⟨by omega, B_cons ?_⟩
  rw [e]
  dsimp! only []
  refine ⟨mulS (.inl (by omega)), ?_⟩
  obtain ⟨z, hz⟩ := b
  have zz : z = 0 ∨ z = -1 := by
    rcases Int.lt_or_le z (-1) with w | w
    · have : M * z ≤ M * (-2) := Int.mul_le_mul_of_nonneg_left (by omega) (by omega)
      omega
    · rcases Int.lt_or_le 0 z with w2 | w2
      · have : M * 1 ≤ M * z := Int.mul_le_mul_of_nonneg_left (by omega) (by omega)
        omega
      · omega
  refine ite_rule (fun h => B_cons ?_) (fun h => B_cons ?_)
  · dsimp! only []
    have : r - M = d := by
      rcases zz with rfl | rfl
      · omega
      · omega
    rw [this]
    exact fin_id hq
  · dsimp! only []
    have : r = d := by
      rcases zz with rfl | rfl
      · omega
      · omega
    rw [this]
    exact fin_id hq
section
variable {K : Fl}
theorem is_domainZ_spec (h : Q (.bl true) S) : wpC G (k + 1) f_is_domain [zu] S Q E := by
  refine ente (d := d_is_domain) 0 rfl rfl rfl (B_cons ?_)
  dsimp! only [zu]
  refine B_cons ?_
  dsimp! only []
  refine B_cons ?_
  dsimp! only []
  exact ⟨by decide +kernel, by decide +kernel, ifp (by decide +kernel) (fin_id h)⟩
theorem is_domainK_spec (hw : Kw K) (h : Q (.bl true) S) : wpC G (k + 3) f_is_domain [K.u] S Q E := by
  cases K with
  | q =>
    show wpC G (k + 3) f_is_domain [.tup [.str "Q"]] S Q E
    refine ente (d := d_is_domain) 0 rfl rfl rfl (B_cons ?_)
    dsimp! only []
    refine B_cons ?_
    dsimp! only []
    refine B_cons ?_
    dsimp! only []
    exact ⟨by decide +kernel, by decide +kernel, ifn (by decide +kernel) (is_field_spec (K := .q) hw (fin_id h))⟩
  | f n =>
    show wpC G (k + 3) f_is_domain [.tup [.str "F", .int ((n + 2 : Nat) : Int)]] S Q E
    refine ente (d := d_is_domain) 0 rfl rfl rfl (B_cons ?_)
    dsimp! only []
    refine B_cons ?_
    dsimp! only []
    refine B_cons ?_
    dsimp! only []
    exact ⟨by simp only [U.dat, U.dats, Bool.and_true]; decide +kernel, by decide +kernel, ifn (by simp [U.eqv, U.eqvs, sFZ]) (is_field_spec (K := .f n) hw (fin_id h))⟩
theorem dat_rwK {w n : Nat} {f : Nat → K.T} : (U.tup (rwK K w f)).dat (n + 6) = true := dats_map fun x => Fl.c_dat (n := n + 3)
theorem dat_matK {m n k : Nat} {f : Nat → Nat → K.T} : (matK K m n f).dat (k + 8) = true := by
  show (true && (true && ((U.dats (k + 6) _) && true))) = true
  rw [dats_map fun x => dat_rwK]; rfl
end
theorem fu_dat : U.dat 60 (Fl.f q).u = true := by
  show (U.dat 59 (.str "F") && (true && true)) = true
  rw [show U.dat 59 (.str "F") = true by decide +kernel]; rfl
theorem may_change_ZF (hw : Kw (.f q)) (h : Q (.bl true) S) : wpC G (k + 3) f_may_change [zu, (Fl.f q).u] S Q E := by
  refine ente (d := d_may_change) 0 rfl rfl rfl (B_cons ?_)
  dsimp! only [zu]
  refine B_cons ?_
  dsimp! only []
  exact is_field_spec hw (fin_id h)
theorem changed_ZF (hw : Kw (.f q)) {i : Int} (h : Q ((Fl.f q).c ((Fl.f q).of i)) S) : wpC G (k + 3) f_changed [zu, (Fl.f q).u, .int i] S Q E := by
  refine ente (d := d_changed) 0 rfl rfl rfl (B_cons ?_)
  dsimp! only [zu]
  refine ⟨by decide +kernel, fu_dat, ifn (by simp [U.eqv, U.eqvs, Fl.u]) (B_cons ?_)⟩
  dsimp! only [zu]
  refine is_field_spec hw ?_
  dsimp! only []
  refine B_cons ?_
  dsimp! only []
  exact from_spec (fin_id h)
theorem change_ZF (hw : Kw (.f q)) {m n : Nat} {f : Nat → Nat → Int} (m1 : m ≤ 100) (n1 : n ≤ 100) (h : Q (matK (.f q) m n fun i j => (Fl.f q).of (f i j)) S) : wpC G (k + 4) f_change [zu, (Fl.f q).u, matU MZ m n f] S Q E := by
  have bg : (1000 : Nat) ≤ big := by decide
  refine ente (d := d_change) 2 rfl rfl rfl (B_cons ?_)
  dsimp! only []
  refine is_domainZ_spec ?_
  dsimp! only []
  refine is_domainK_spec hw ?_
  dsimp! only [zu]
  refine ⟨by decide +kernel, fu_dat, ?_⟩
  refine ifp (by simp [U.eqv, U.eqvs, Fl.u]) (may_change_ZF hw ?_)
  dsimp! only []
  refine B_cons ?_
  dsimp! only [matU]
  refine comp_mapG (fun i => .tup (rwK (.f q) n fun j => (Fl.f q).of (f i j))) (fun _ => trivial) (by omega) (fun i K2 T hi hK2 => ?_) fun T => ?_
  · dsimp! only [rowU]
    refine comp_mapR (fun j => (Fl.f q).c ((Fl.f q).of (f i j))) trivial (by omega) (fun j K3 hj hK3 => ?_) ?_
    · dsimp! only []
      exact changed_ZF hw hK3
    · dsimp! only [get_end]
      have := hK2 (T ++ [.lst (rwK (.f q) n fun j => (Fl.f q).of (f i j))])
      rw [← List.append_assoc] at this
      exact this
  · dsimp! only [get_end]
    rw [List.append_assoc]
    exact fin_dat (dat_matK (k := 0)) h
/-- the value of a number modulo p -/
theorem ch_hom {R R' : Type} [Lean.Grind.CommRing R] [Lean.Grind.CommRing R'] [DecidableEq R] [DecidableEq R'] {φ : R → R'} (h : Hom φ) {A : Nat → Nat → R} (hn : n ≤ 4) (k : Nat) : φ (Ek.ch A n k) = Ek.ch (fun i j => φ (A i j)) n k := by
  have hs : ∀ a b : R, φ (a - b) = φ a - φ b := fun a b => by
    have e : a - b = a + -b := by grind
    rw [e, h.add, h.neg]; grind
  rcases (show n = 0 ∨ n = 1 ∨ n = 2 ∨ n = 3 ∨ n = 4 by omega) with rfl | rfl | rfl | rfl | rfl
  · match k with
    | 0 => exact h.one
    | k + 1 => exact h.zero
  · match k with
    | 0 => simp only [Ek.ch, h.neg]
    | 1 => exact h.one
    | k + 2 => exact h.zero
  · match k with
    | 0 => simp only [Ek.ch, m2, hs, h.mul]
    | 1 => simp only [Ek.ch, h.neg, h.add]
    | 2 => exact h.one
    | k + 3 => exact h.zero
  · match k with
    | 0 => simp only [Ek.ch, m3, d3m, h.neg, hs, h.mul, h.add]
    | 1 => simp only [Ek.ch, m2, hs, h.mul, h.add]
    | 2 => simp only [Ek.ch, h.neg, h.add]
    | 3 => exact h.one
    | k + 4 => exact h.zero
  · match k with
    | 0 => simp only [Ek.ch, m4, d3m, h.neg, hs, h.mul, h.add]
    | 1 => simp only [Ek.ch, m3, d3m, h.neg, hs, h.mul, h.add]
    | 2 => simp only [Ek.ch, m2, hs, h.mul, h.add]
    | 3 => simp only [Ek.ch, h.neg, h.add]
    | 4 => exact h.one
    | k + 5 => exact h.zero
theorem ch_top {R : Type} [Lean.Grind.CommRing R] {A : Nat → Nat → R} (hn : n ≤ 4) : Ek.ch A n n = 1 ∧ ∀ k, n < k → Ek.ch A n k = 0 := by
  rcases (show n = 0 ∨ n = 1 ∨ n = 2 ∨ n = 3 ∨ n = 4 by omega) with rfl | rfl | rfl | rfl | rfl <;> refine ⟨rfl, fun k hk => ?_⟩
  · match k, hk with
    | k + 1, _ => rfl
  · match k, hk with
    | k + 2, _ => rfl
  · match k, hk with
    | k + 3, _ => rfl
  · match k, hk with
    | k + 4, _ => rfl
  · match k, hk with
    | k + 5, _ => rfl
/-- the image modulo a prime -/
def imC (A : Nat → Nat → Int) (n t : Nat) : U := .tup ((List.range (n + 1)).map fun k => U.int ((Ek.ch A n k).fmod ((pi (t + 1) : Nat) : Int)))
theorem image_eq (hn : n ≤ 4) {A : Nat → Nat → Int} {P : Pol (Fl.f q).T} (h : ∀ k, co P.1 k = Ek.ch (fun i j => (Fl.f q).of (A i j)) n k) : (Fl.f q).pc P.1 = .tup ((List.range (n + 1)).map fun k => U.int ((Ek.ch A n k).fmod ((q + 2 : Nat) : Int))) := by
  have e : P.1 = (List.range (n + 1)).map fun k => (Fl.f q).of (Ek.ch A n k) := by
    refine P.2.ext (fun _ => ?_) fun k => ?_
    · rw [List.length_map, List.length_range, Nat.add_sub_cancel, co_map_range, if_pos (by omega), (ch_top hn).1]
      rw [of_hom.one]
      exact one_ne
    · rw [h, co_map_range]
      split
      · exact (ch_hom of_hom hn k).symm
      · exact (ch_top hn).2 k (by omega)
  unfold Fl.pc
  rw [e, List.map_map]
  congr 1
  refine List.map_congr_left fun k _ => ?_
  show (Fl.f q).c ((Fl.f q).of (Ek.ch A n k)) = _
  rw [of_f]
theorem characteristic_by_primes_spec {A : Nat → Nat → Int} (n4 : n ≤ 4) (hA : ∀ i j, (A i j).natAbs < 2 ^ 160) (hb : ∀ g : Nat → Int, (∀ i, i < n → Rt (sq n (A i)) (g i)) → ∀ k, k ≤ n → ((Ek.ch A n k).natAbs : Int) ≤ pb g 2 n)
    (hq : Q (.tup ((List.range (n + 1)).map fun k => U.int (Ek.ch A n k))) S) : wpC G (k + 26) f_characteristic_by_primes [matU MZ n n A] S Q E := by
  have bg : (1000 : Nat) ≤ big := by decide
  refine ente (d := d_characteristic_by_primes) 9 rfl rfl rfl (B_cons ?_)
  dsimp! only []
  refine coefficient_bound_spec (k := k + 22) n4 hA fun g hg => ?_
  have gb : ∀ i, i < n → 0 ≤ g i ∧ g i < 2 ^ 165 := fun i hi => ⟨(hg i hi).nn, (hg i hi).lt (sq_lt (hA i) n4)⟩
  have hb' := hb g hg
  have pb0 : 1 ≤ pb g 2 n ∧ pb g 2 n < 2 ^ 665 := by
    have e : pb g 2 n = pb (fun i => if i < n then g i else 0) 2 n := pb_congr fun i hi => (if_pos hi).symm
    have h1 := pb_bd (g := fun i => if i < n then g i else 0) (c := 2) (by omega) (fun i => by
      by_cases w : i < n
      · rw [if_pos w]; exact gb i w
      · rw [if_neg w]; exact ⟨by omega, by decide +kernel⟩) n
    have h2 := hb' n (Nat.le_refl n)
    rw [(ch_top n4).1] at h2
    have h2 : (1 : Int) ≤ pb g 2 n := h2
    have h3 : (2 : Nat) ^ (166 * n + 1) ≤ 2 ^ 665 := Nat.pow_le_pow_right (by decide) (by omega)
    rw [← e] at h1
    refine ⟨h2, ?_⟩
    have : ((pb g 2 n).natAbs : Int) < ((2 ^ 665 : Nat) : Int) := by exact_mod_cast Nat.lt_of_lt_of_le h1 h3
    rw [Int.natAbs_of_nonneg (by omega)] at this
    exact this
  have pm : 2 * pb g 2 n ≤ 2 ^ 672 := by
    have : (2 : Int) * 2 ^ 665 ≤ 2 ^ 672 := by decide +kernel
    omega
  dsimp! only []
  refine ⟨mulS (.inl (by omega)), ?_⟩
  refine primes_for_spec (k := k + 22) pm fun N hN => ?_
  have n45 := hN.i9
  refine B_cons ?_
  dsimp! only [get_end]
  obtain ⟨S1, hS1⟩ : ∃ S1 : Sto, S1 = S ++ [Ob.lst (pL N)] := ⟨_, rfl⟩
  rw [← hS1]
  have hl : S1[S.length]? = some (.lst (pL N)) := by rw [hS1]; simp
  unfold pL
  refine comp_mapR (fun t => imC A n t) ⟨_, hl, rfl⟩ (by omega) (fun t K2 ht hK2 => ?_) ?_
  · obtain ⟨h1, h2, h3, h4, h5⟩ := tab_i (i := t) (by omega)
    have lo := pi_lo (i := t) (by omega)
    have hkw := pi_kw (i := t) (by omega)
    have e : pi (t + 1) - 2 + 2 = pi (t + 1) := by omega
    have q60 : pi (t + 1) - 2 < 2 ^ 60 := by omega
    dsimp! only []
    have eu : U.tup [.str "F", .int ((pi (t + 1) : Nat) : Int)] = (Fl.f (pi (t + 1) - 2)).u := by
      show _ = U.tup [.str "F", .int ((pi (t + 1) - 2 + 2 : Nat) : Int)]
      rw [e]
    rw [eu]
    refine change_ZF (k := k + 21) hkw (by omega) (by omega) ?_
    refine characteristic_spec (k := k + 5) q60 hkw n4 fun P hP => ?_
    rw [image_eq n4 hP, e]
    exact hK2
  have hl1 := get_app (t := [Ob.lst ((List.range N).map fun t => imC A n t)]) hl
  obtain ⟨S2, hS2⟩ : ∃ S2 : Sto, S2 = S1 ++ [Ob.lst ((List.range N).map fun t => imC A n t)] := ⟨_, rfl⟩
  have hl2 : S2[S1.length]? = some (.lst ((List.range N).map fun t => imC A n t)) := by rw [hS2]; simp
  rw [← hS2] at hl1 ⊢
  refine B_cons ?_
  dsimp! only []
  refine B_cons ?_
  dsimp! only [matU]
  refine ⟨nearN (n := n + 1) (by omega), ?_⟩
  rw [show ((n : Int) + 1).toNat = n + 1 by omega]
  refine range_up (n := n + 1) (fun j σ' S' => ∃ T z5 z6 z7, σ' = [some (matU MZ n n A), some (.ref S.length), some (.ref S1.length), none, some (.ref S2.length), z5, z6, z7, none, none] ∧
    S' = S2 ++ [Ob.lst ((List.range j).map fun k => U.int (Ek.ch A n k))] ++ T) ⟨[], none, none, none, rfl, by simp⟩ ?_ ?_
  · rintro σ' S' ⟨T, z5, z6, z7, rfl, rfl⟩
    have e1 : (S2 ++ [Ob.lst ((List.range (n + 1)).map fun k => U.int (Ek.ch A n k))] ++ T)[S2.length]? = some (.lst ((List.range (n + 1)).map fun k => U.int (Ek.ch A n k))) := get_mid
    refine B_cons ?_
    dsimp! only [e1]
    have dt : U.dat 60 (.tup ((List.range (n + 1)).map fun k => U.int (Ek.ch A n k))) = true := dats_map fun _ => rfl
    have := fin_dat (S := S) (T := [Ob.lst (pL N)] ++ [Ob.lst ((List.range N).map fun t => imC A n t)] ++ [Ob.lst ((List.range (n + 1)).map fun k => U.int (Ek.ch A n k))] ++ T) (n := 60) dt hq
    rw [hS2, hS1]
    simpa only [List.append_assoc] using this
  · rintro j σ' S' K' hj ⟨T, z5, z6, z7, rfl, rfl⟩ hK
    dsimp! only []
    refine B_cons ?_
    have e2 : (S2 ++ [Ob.lst ((List.range j).map fun k => U.int (Ek.ch A n k))] ++ T)[S1.length]? = some (.lst ((List.range N).map fun t => imC A n t)) := by
      rw [List.append_assoc]; exact get_app hl2
    have e3 : (S2 ++ [Ob.lst ((List.range j).map fun k => U.int (Ek.ch A n k))] ++ T)[S.length]? = some (.lst ((List.range N).map fun t => U.int ((pi (t + 1) : Nat) : Int))) := by
      rw [List.append_assoc]; exact get_app hl1
    dsimp! only [e2, enum_map0]
    refine comp_mapR (fun t => prU (Ek.ch A n j) t) ⟨_, e2, rfl⟩ (by omega) (fun t K2 ht hK2 => ?_) ?_
    · dsimp! only []
      simp only [List.zip_cons_cons, List.zip_nil_left, List.foldl_cons, List.foldl_nil]
      dsimp! only [imC]
      refine ⟨_, at_rangeN hj, _, e3, _, at_rangeN ht, hK2⟩
    have hl3 : (S2 ++ [Ob.lst ((List.range j).map fun k => U.int (Ek.ch A n k))] ++ T ++ [Ob.lst ((List.range N).map fun t => prU (Ek.ch A n j) t)])[(S2 ++ [Ob.lst ((List.range j).map fun k => U.int (Ek.ch A n k))] ++ T).length]? = some (.lst ((List.range N).map fun t => prU (Ek.ch A n j) t)) := by simp
    refine combine_prS (k := k + 23) n45 hl3 ?_
    refine ⟨_, rfl, rfl, ?_⟩
    dsimp! only []
    refine B_cons ?_
    have m0 := pp_pos (i := N) n45
    have mb := pp_b (i := N) n45
    have cx : (2 : Nat) ^ 690 < 2 ^ CX := by decide +kernel
    have gt := hN.gt
    have da := hb' j (by omega)
    dsimp! only []
    refine symmetric_spec (k := k + 24) (by omega) (by omega) (by rw [Int.natAbs_natCast]; exact Nat.lt_trans mb cx) ?_
    rw [List.append_assoc (S2 ++ [Ob.lst ((List.range j).map fun k => U.int (Ek.ch A n k))])]
    refine ⟨_, get_mid, by simp; omega, ?_⟩
    rw [set_mid, map_succ (g := fun k => U.int (Ek.ch A n k))]
    exact hK _ _ ⟨_, _, _, _, rfl, rfl⟩
end

section
open Ek PySem
variable {Q : UQ} {E : Nat → Sto → Prop} {k : Nat} {S : Sto} {n : Nat}
def chL (kk : Nat) : Nat → List (List Nat)
  | 0 => [[]]
  | j + 1 => chL kk j ++ ((chL kk j).filter fun o => decide (o.length < kk)).map fun o => o ++ [j]
def chs (n kk : Nat) : List (List Nat) := (chL kk n).filter fun o => decide (o.length = kk)
theorem nest_head {S1 : Sto} {rr : U} {r : List U} {Lr : List (List Nat)} (b1 : nestU S1 (rr :: r) = some (Lr.map uo)) : ∃ h o Lr', rr = .ref h ∧ Lr = o :: Lr' ∧ S1[h]? = some (.lst (uo o)) ∧ nestU S1 r = some (Lr'.map uo) := by
  obtain ⟨rr, ob, L', rfl, c1, c2, c3⟩ := nest_inv b1
  cases Lr with
  | nil => cases c3
  | cons o Lr' =>
    rw [List.map_cons] at c3
    injection c3 with c3a c3b
    refine ⟨rr, o, Lr', rfl, rfl, ?_, by rw [c3b]; exact c2⟩
    rw [c1]
    cases ob with
    | lst v =>
      have c4 : v = uo o := c3a.symm
      rw [c4]
theorem get_lastE {X : Sto} {a : Ob} {i : Nat} (e : X.length = i) : (X ++ [a])[i]? = some a := by
  subst e
  simp
theorem law_choices_spec {kk : Nat} (hn : n ≤ 4) (hk : kk ≤ 4) (h : ∀ T us hd, (S ++ T)[hd]? = some (.lst us) → nestU (S ++ T) us = some ((chs n kk).map uo) → Q (.ref hd) (S ++ T)) : wpC G (k + 1) f_law_choices [.int (n : Nat), .int (kk : Nat)] S Q E := by
  have bg : (1000 : Nat) ≤ big := by decide
  have cnt : ∀ j, j ≤ 4 → (chL kk j).length ≤ 16 ∧ ∀ o ∈ chL kk j, o.length ≤ 4 := fun j hj => by
    have : ((List.range 5).all fun kk => (List.range 5).all fun j => decide ((chL kk j).length ≤ 16) && (chL kk j).all fun o => decide (o.length ≤ 4)) = true := by decide +kernel
    have := List.all_eq_true.mp (List.all_eq_true.mp this kk (List.mem_range.mpr (by omega))) j (List.mem_range.mpr (by omega))
    simpa using this
  refine ente (d := d_law_choices) 3 rfl rfl rfl (B_cons ?_)
  dsimp! only []
  refine B_cons ?_
  dsimp! only []
  refine ⟨nearN (by omega), ?_⟩
  rw [Int.toNat_natCast, range_map0]
  refine for_mapR (fun j σ' S' => ∃ T us hd z3 z4, S' = S ++ T ∧ (S ++ T)[hd]? = some (.lst us) ∧ nestU (S ++ T) us = some ((chL kk j).map uo) ∧ σ' = [some (.int (n : Nat)), some (.int (kk : Nat)), some (.ref hd), z3, z4]) (fun _ _ _ _ => trivial) ⟨[.lst [], .lst [.ref S.length]], [.ref S.length], S.length + 1, none, none, by simp, ?_, ?_, rfl⟩ ?_ ?_
  · rw [List.getElem?_append_right (by omega), show S.length + 1 - S.length = 1 by omega]; rfl
  · refine nest_cons (o := .lst []) ?_ rfl
    rw [List.getElem?_append_right (by omega), Nat.sub_self]; rfl
  · rintro σ' S' ⟨T, us, hd, z3, z4, rfl, e1, e2, rfl⟩
    refine B_cons ?_
    obtain ⟨S1, hS1⟩ : ∃ S1, S ++ T = S1 := ⟨_, rfl⟩
    rw [hS1] at e1 e2 ⊢
    dsimp! only [e1]
    refine comp_ruleT (fun xs acc S' => S' = S1 ∧ ∃ L0 Lr, L0 ++ Lr = chL kk n ∧ nestU S1 xs = some (Lr.map uo) ∧ nestU S1 acc = some ((L0.filter fun o => decide (o.length = kk)).map uo)) ?_ ?_ ?_ _ _ _ ⟨rfl, [], chL kk n, rfl, e2, rfl⟩
    · rintro xs acc S' ⟨rfl, L0, Lr, h1, h2, h3⟩
      refine ⟨⟨_, e1, rfl⟩, ?_⟩
      have l1 := nest_len h2
      have l2 := nest_len h3
      have l3 := (cnt n hn).1
      have l4 := List.length_filter_le (fun o : List Nat => decide (o.length = kk)) L0
      rw [← h1, List.length_append] at l3
      rw [List.length_map] at l1 l2
      omega
    · rintro acc S' ⟨rfl, L0, Lr, h1, h2, h3⟩
      have : Lr = [] := by
        cases Lr with
        | nil => rfl
        | cons x y => cases h2
      subst this
      rw [List.append_nil] at h1
      subst h1
      dsimp! only []
      have := h (T ++ [.lst acc]) acc S'.length (by rw [← List.append_assoc, hS1]; simp) (by rw [← List.append_assoc, hS1]; exact nest_ext h3)
      rw [← List.append_assoc, hS1] at this
      exact fin_id this
    · rintro x xs acc S' K1 K2 ⟨rfl, L0, Lr, h1, h2, h3⟩ hk1 hk2
      obtain ⟨hh, o, Lr', rfl, rfl, c1, c2⟩ := nest_head h2
      dsimp! only [c1]
      have hl : (uo o).length = o.length := by simp [uo]
      rw [hl]
      refine ite_rule (fun e => ?_) (fun e => ?_)
      · refine hk1 _ _ ⟨rfl, L0 ++ [o], Lr', by simp [← h1], c2, ?_⟩
        rw [List.filter_append, List.map_append]
        have e : o.length = kk := by omega
        refine nest_app ?_ h3
        rw [List.filter_cons_of_pos (by simpa using e)]
        exact nest_cons c1 rfl
      · refine hk2 _ ⟨rfl, L0 ++ [o], Lr', by simp [← h1], c2, ?_⟩
        have e : ¬ o.length = kk := by omega
        rw [List.filter_append, List.filter_cons_of_neg (by simpa using e), List.filter_nil, List.append_nil]
        exact h3
  · rintro j σ' S' K hj ⟨T, us, hd, z3, z4, rfl, e1, e2, rfl⟩ hK
    obtain ⟨S1, hS1⟩ : ∃ S1, S ++ T = S1 := ⟨_, rfl⟩
    rw [hS1] at e1 e2 ⊢
    dsimp! only []
    refine B_cons ?_
    dsimp! only [e1]
    refine comp_ruleT (fun xs acc S' => ∃ T1, S' = S1 ++ T1 ∧ ∃ L0 Lr, L0 ++ Lr = chL kk j ∧ nestU S1 xs = some (Lr.map uo) ∧ nestU (S1 ++ T1) acc = some (((L0.filter fun o => decide (o.length < kk)).map fun o => o ++ [j]).map uo)) ?_ ?_ ?_ _ _ _ ⟨[], (List.append_nil _).symm, [], chL kk j, rfl, e2, rfl⟩
    · rintro xs acc S' ⟨T1, rfl, L0, Lr, h1, h2, h3⟩
      refine ⟨live_ext ⟨_, e1, rfl⟩, ?_⟩
      have l1 := nest_len h2
      have l2 := nest_len h3
      have l3 := (cnt j (by omega)).1
      have l4 := List.length_filter_le (fun o : List Nat => decide (o.length < kk)) L0
      rw [← h1, List.length_append] at l3
      rw [List.length_map] at l1
      rw [List.length_map, List.length_map] at l2
      omega
    · rintro acc S' ⟨T1, rfl, L0, Lr, h1, h2, h3⟩
      have : Lr = [] := by
        cases Lr with
        | nil => rfl
        | cons x y => cases h2
      subst this
      rw [List.append_nil] at h1
      rw [h1] at h3
      dsimp! only [get_ext e1]
      have l1 := nest_len e2
      have l2 := nest_len h3
      have l3 := (cnt j (by omega)).1
      have l4 := List.length_filter_le (fun o : List Nat => decide (o.length < kk)) (chL kk j)
      refine ⟨us, get_ext (get_ext e1), acc, get_end, by rw [l1, l2, List.length_map, List.length_map, List.length_map]; omega, ?_⟩
      refine hK _ _ ⟨T ++ T1 ++ [.lst acc] ++ [.lst (us ++ acc)], us ++ acc, S1.length + T1.length + 1, _, _, by simp [← hS1], ?_, ?_, rfl⟩
      · have : S ++ (T ++ T1 ++ [Ob.lst acc] ++ [Ob.lst (us ++ acc)]) = S1 ++ T1 ++ [Ob.lst acc] ++ [Ob.lst (us ++ acc)] := by simp [← hS1]
        rw [this]
        exact get_lastE (by simp; omega)
      · have : S ++ (T ++ T1 ++ [Ob.lst acc] ++ [Ob.lst (us ++ acc)]) = S1 ++ T1 ++ [Ob.lst acc] ++ [Ob.lst (us ++ acc)] := by simp [← hS1]
        rw [this, chL, List.map_append]
        exact nest_app (nest_ext (nest_ext h3)) (nest_ext (nest_ext (nest_ext e2)))
    · rintro x xs acc S' K1 K2 ⟨T1, rfl, L0, Lr, h1, h2, h3⟩ hk1 hk2
      obtain ⟨hh, o, Lr', rfl, rfl, c1, c2⟩ := nest_head h2
      have c3 : (S1 ++ T1)[hh]? = some (.lst (uo o)) := get_ext c1
      dsimp! only [c3]
      have hl : (uo o).length = o.length := by simp [uo]
      rw [hl]
      refine ite_rule (fun e => ?_) (fun e => ?_)
      · dsimp! only [c3]
        have hl4 := (cnt j (by omega)).2 o (by rw [← h1]; simp)
        refine ⟨uo o, get_ext c3, by rw [hl]; omega, ?_⟩
        refine hk1 _ _ ⟨T1 ++ [.lst [.int (j : Nat)]] ++ [.lst (uo o ++ [.int (j : Nat)])], by simp, L0 ++ [o], Lr', by simp [← h1], c2, ?_⟩
        have e : o.length < kk := by omega
        rw [List.filter_append, List.filter_cons_of_pos (by simpa using e), List.filter_nil, List.map_append, List.map_append]
        have ee : S1 ++ (T1 ++ [Ob.lst [U.int (j : Nat)]] ++ [Ob.lst (uo o ++ [U.int (j : Nat)])]) = S1 ++ T1 ++ [Ob.lst [U.int (j : Nat)]] ++ [Ob.lst (uo o ++ [U.int (j : Nat)])] := by simp
        rw [ee]
        refine nest_app ?_ (nest_ext (nest_ext h3))
        have := nest_cons (S := S1 ++ T1 ++ [Ob.lst [U.int (j : Nat)]] ++ [Ob.lst (uo o ++ [U.int (j : Nat)])]) (h := S1.length + T1.length + 1) (us := []) (get_lastE (by simp; omega)) rfl
        rw [this]
        simp [uo, Ob.items]
      · refine hk2 _ ⟨T1, rfl, L0 ++ [o], Lr', by simp [← h1], c2, ?_⟩
        have e : ¬ o.length < kk := by omega
        rw [List.filter_append, List.filter_cons_of_neg (by simpa using e), List.filter_nil, List.append_nil]
        exact h3
def subM (A : Nat → Nat → Int) (o : List Nat) : Nat → Nat → Int := fun x y => A (o.getD x 0) (o.getD y 0)
/-- the sum of the minors of these choices -/
def smn (A : Nat → Nat → Int) (j : Nat) : Int → List (List Nat) → Int
  | t, [] => t
  | t, o :: L => smn A j (t + dt (subM A o) j) L
def bym (A : Nat → Nat → Int) (n k : Nat) : Int := (1 - 2 * (((n - k : Nat) : Int) % 2)) * smn A (n - k) 0 (chs n (n - k))
theorem chs_mem {n kk : Nat} (hn : n ≤ 4) (hk : kk ≤ 4) : ∀ o ∈ chs n kk, o.length = kk ∧ ∀ x ∈ o, x < n := by
  have : ((List.range 5).all fun n => (List.range 5).all fun kk => (chs n kk).all fun o => decide (o.length = kk) && o.all fun x => decide (x < n)) = true := by decide +kernel
  have := List.all_eq_true.mp (List.all_eq_true.mp this n (List.mem_range.mpr (by omega))) kk (List.mem_range.mpr (by omega))
  intro o ho
  have := List.all_eq_true.mp this o ho
  simpa using this
theorem uo_range {o : List Nat} {N : Nat} (h : o.length = N) : uo o = (List.range N).map fun i => U.int (o.getD i 0 : Nat) := by
  subst h
  unfold uo
  refine List.ext_getElem (by simp) fun i h1 h2 => ?_
  have h3 : i < o.length := by simpa using h1
  simp [List.getElem?_eq_getElem h3]
theorem getD_mem {o : List Nat} {i : Nat} (h : i < o.length) : o.getD i 0 ∈ o := by
  rw [List.getD_eq_getElem?_getD, List.getElem?_eq_getElem h]
  exact List.getElem_mem h
theorem subM_lt {A : Nat → Nat → Int} {b : Nat} {o : List Nat} (hA : ∀ i j, (A i j).natAbs < b) : ∀ i j, (subM A o i j).natAbs < b := fun _ _ => hA _ _
theorem law_by_minors_spec {A : Nat → Nat → Int} (hn : n ≤ 4) (hA : ∀ i j, (A i j).natAbs < 2 ^ 160) (hq : Q (.tup ((List.range (n + 1)).map fun k => U.int (bym A n k))) S) : wpC G (k + 8) f_law_by_minors [zu, matU MZ n n A] S Q E := by
  have bg : (1000 : Nat) ≤ big := by decide
  refine ente (d := d_law_by_minors) 8 rfl rfl rfl (B_cons ?_)
  dsimp! only [matU]
  refine B_cons ?_
  dsimp! only []
  refine B_cons ?_
  dsimp! only []
  refine ⟨nearN (n := n + 1) (by omega), ?_⟩
  rw [show ((n : Int) + 1).toNat = n + 1 by omega]
  refine range_up (n := n + 1) (fun j σ' S' => ∃ T z4 z5 z6 z7, σ' = [some zu, some (matU MZ n n A), some (.int (n : Nat)), some (.ref S.length), z4, z5, z6, z7, none, none] ∧ S' = S ++ [Ob.lst ((List.range j).map fun k => U.int (bym A n k))] ++ T) ⟨[], none, none, none, none, rfl, by simp⟩ ?_ ?_
  · rintro σ' S' ⟨T, z4, z5, z6, z7, rfl, rfl⟩
    have e1 : (S ++ [Ob.lst ((List.range (n + 1)).map fun k => U.int (bym A n k))] ++ T)[S.length]? = some (.lst ((List.range (n + 1)).map fun k => U.int (bym A n k))) := get_mid
    refine B_cons ?_
    dsimp! only [e1]
    exact fin_dat2 (n := 60) (dats_map fun _ => rfl) hq
  · rintro j σ' S' K hj ⟨T, z4, z5, z6, z7, rfl, rfl⟩ hK
    have enj : (n : Int) - (j : Int) = ((n - j : Nat) : Int) := by omega
    dsimp! only []
    refine B_cons ?_
    dsimp! only []
    refine law_zeroZ_spec (B_cons ?_)
    dsimp! only [enj]
    refine law_choices_spec (k := k + 6) hn (by omega) fun T1 us hd e1 e2 => ?_
    obtain ⟨S1, hS1⟩ : ∃ S1, S ++ [Ob.lst ((List.range j).map fun k => U.int (bym A n k))] ++ T ++ T1 = S1 := ⟨_, rfl⟩
    rw [hS1] at e1 e2 ⊢
    have mem := chs_mem (kk := n - j) hn (by omega)
    dsimp! only [e1]
    refine for_rule (fun xs σ' S' => ∃ T2 Lr tot z6 z7, S' = S1 ++ T2 ∧ nestU S1 xs = some (Lr.map uo) ∧ (∀ o ∈ Lr, o ∈ chs n (n - j)) ∧ smn A (n - j) tot Lr = smn A (n - j) 0 (chs n (n - j)) ∧ σ' = [some zu, some (matU MZ n n A), some (.int (n : Nat)), some (.ref S.length), some (.int (j : Nat)), some (.int tot), z6, z7, none, none]) ?_ ?_ ?_ _ _ _ ⟨[], chs n (n - j), 0, z6, z7, (List.append_nil _).symm, e2, fun o h => h, rfl, rfl⟩
    · rintro xs σ' S' ⟨T2, Lr, tot, z6, z7, rfl, _⟩
      exact live_ext ⟨_, e1, rfl⟩
    · rintro σ' S' ⟨T2, Lr, tot, z6, z7, rfl, e, _, ht, rfl⟩
      have : Lr = [] := by
        cases Lr with
        | nil => rfl
        | cons x y => cases e
      subst this
      rw [smn] at ht
      refine B_cons ?_
      dsimp! only [enj]
      rw [Int.fmod_eq_emod_of_nonneg _ (by omega)]
      refine ⟨mulS (.inl (by omega)), law_numberZ_spec ?_⟩
      refine law_mulZ_spec (mulS (.inl (by omega))) ?_
      dsimp! only []
      have es : S1 ++ T2 = S ++ [Ob.lst ((List.range j).map fun k => U.int (bym A n k))] ++ (T ++ T1 ++ T2) := by simp [← hS1]
      rw [es]
      refine ⟨_, get_mid, by rw [List.length_map, List.length_range]; omega, ?_⟩
      rw [set_mid]
      have ev : (1 - 2 * (((n - j : Nat) : Int) % 2)) * tot = bym A n j := by rw [ht]; rfl
      rw [ev, map_succ (N := j) (g := fun k => U.int (bym A n k))]
      exact hK _ _ ⟨T ++ T1 ++ T2, _, _, _, _, rfl, rfl⟩
    · rintro x xs σ' S' K' ⟨T2, Lr, tot, z6, z7, rfl, e, hm, ht, rfl⟩ hK'
      obtain ⟨hh, o, Lr', rfl, rfl, c1, c2⟩ := nest_head e
      have ho := mem o (hm o List.mem_cons_self)
      have c3 : ∀ T', (S1 ++ T2 ++ T')[hh]? = some (.lst (uo o)) := fun T' => get_ext (get_ext c1)
      have c4 : (S1 ++ T2)[hh]? = some (.lst (uo o)) := get_ext c1
      dsimp! only []
      refine B_cons ?_
      dsimp! only [matU, enj, c4]
      have hu := uo_range ho.1
      rw [hu] at c3 c4 ⊢
      refine comp_mapG (fun x => rowU MZ (n - j) (subM A o x)) (fun T => ⟨_, c3 T, rfl⟩) (by omega) (fun x K2 T3 hx hK2 => ?_) (fun T3 => ?_)
      · have hxn := ho.2 _ (getD_mem (o := o) (i := x) (by omega))
        dsimp! only [c3 T3]
        refine comp_mapR (fun y => U.int (subM A o x y)) ⟨_, c3 T3, rfl⟩ (by omega) (fun y K3 hy hK3 => ?_) ?_
        · have hyn := ho.2 _ (getD_mem (o := o) (i := y) (by omega))
          dsimp! only []
          refine ⟨_, at_rangeN hxn, ?_⟩
          dsimp! only [rowU]
          exact ⟨_, at_rangeN hyn, hK3⟩
        · dsimp! only []
          refine ⟨_, by rw [get_lastE (by simp [Nat.add_assoc])]; rfl, ?_⟩
          rw [List.append_assoc (S1 ++ T2)]
          exact hK2 _
      · dsimp! only []
        refine ⟨_, by rw [get_lastE (by simp [Nat.add_assoc])]; rfl, ?_⟩
        refine B_cons ?_
        dsimp! only []
        refine law_determinant_spec (n := n - j) (f := subM A o) (by omega) (subM_lt hA) ?_
        rw [tt_dt (by omega)]
        dsimp! only []
        refine law_addZ_spec ?_
        refine hK' _ _ ⟨T2 ++ T3 ++ [.lst ((List.range (n - j)).map fun x => rowU MZ (n - j) (subM A o x))], Lr', _, _, _, by simp, c2, fun o h => hm o (List.mem_cons_of_mem _ h), ht, rfl⟩
end

section
open Ek PySem
theorem ch_bym {A : Nat → Nat → Int} {n k : Nat} (hn : n ≤ 4) (hk : k ≤ n) : ch A n k = bym A n k := by
  match n, k, hn, hk with
  | 0, 0, _, _ => show (1 : Int) = 1 * (0 + 1); rfl
  | 1, 0, _, _ => show -A 0 0 = (-1) * (0 + A 0 0); omega
  | 1, 1, _, _ => show (1 : Int) = 1 * (0 + 1); rfl
  | 2, 0, _, _ => show A 0 0 * A 1 1 - A 0 1 * A 1 0 = 1 * (0 + (A 0 0 * A 1 1 - A 0 1 * A 1 0)); omega
  | 2, 1, _, _ => show -(A 0 0 + A 1 1) = (-1) * (0 + A 0 0 + A 1 1); omega
  | 2, 2, _, _ => show (1 : Int) = 1 * (0 + 1); rfl
  | 3, 0, _, _ =>
    have : bym A 3 0 = (-1) * (0 + dt (subM A [0, 1, 2]) 3) := rfl
    rw [this]; simp [dt, subM, ch, m3, d3m]; grind
  | 3, 1, _, _ =>
    have : bym A 3 1 = 1 * (0 + dt (subM A [0, 1]) 2 + dt (subM A [0, 2]) 2 + dt (subM A [1, 2]) 2) := rfl
    rw [this]; simp [dt, subM, ch, m2]
  | 3, 2, _, _ =>
    have : bym A 3 2 = (-1) * (0 + dt (subM A [0]) 1 + dt (subM A [1]) 1 + dt (subM A [2]) 1) := rfl
    rw [this]; simp [dt, subM, ch]
  | 3, 3, _, _ => show (1 : Int) = 1 * (0 + 1); rfl
  | 4, 0, _, _ =>
    have : bym A 4 0 = 1 * (0 + dt (subM A [0, 1, 2, 3]) 4) := rfl
    rw [this]; simp [dt, subM, ch, m4, d3m]; grind
  | 4, 1, _, _ =>
    have : bym A 4 1 = (-1) * (0 + dt (subM A [0, 1, 2]) 3 + dt (subM A [0, 1, 3]) 3 + dt (subM A [0, 2, 3]) 3 + dt (subM A [1, 2, 3]) 3) := rfl
    rw [this]; simp [dt, subM, ch, m3, d3m]; grind
  | 4, 2, _, _ =>
    have : bym A 4 2 = 1 * (0 + dt (subM A [0, 1]) 2 + dt (subM A [0, 2]) 2 + dt (subM A [1, 2]) 2 + dt (subM A [0, 3]) 2 + dt (subM A [1, 3]) 2 + dt (subM A [2, 3]) 2) := rfl
    rw [this]; simp [dt, subM, ch, m2]
  | 4, 3, _, _ =>
    have : bym A 4 3 = (-1) * (0 + dt (subM A [0]) 1 + dt (subM A [1]) 1 + dt (subM A [2]) 1 + dt (subM A [3]) 1) := rfl
    rw [this]; simp [dt, subM, ch]
  | 4, 4, _, _ => show (1 : Int) = 1 * (0 + 1); rfl
theorem b2 {a b c d p q : Int} (hp : 0 ≤ p) (hq : 0 ≤ q) (h1 : a * a + b * b ≤ p * p) (h2 : c * c + d * d ≤ q * q) : a * d - b * c ≤ p * q ∧ -(p * q) ≤ a * d - b * c := by
  refine sq_abs (Int.mul_nonneg hp hq) (Int.le_trans had2 ?_)
  have e : p * q * (p * q) = p * p * (q * q) := by grind
  rw [e]
  exact Int.mul_le_mul h1 h2 (by have := sqn c; have := sqn d; omega) (sqn p)
theorem b3 {a b c d e f g h i p q r : Int} (hp : 0 ≤ p) (hq : 0 ≤ q) (hr : 0 ≤ r) (h1 : a * a + b * b + c * c ≤ p * p) (h2 : d * d + e * e + f * f ≤ q * q) (h3 : g * g + h * h + i * i ≤ r * r) : a * (e * i - f * h) - b * (d * i - f * g) + c * (d * h - e * g) ≤ p * q * r ∧ -(p * q * r) ≤ a * (e * i - f * h) - b * (d * i - f * g) + c * (d * h - e * g) := by
  have x : a * (e * i - f * h) - b * (d * i - f * g) + c * (d * h - e * g) = a * (e * i - f * h) + b * (f * g - d * i) + c * (d * h - e * g) := by grind
  rw [x]
  refine sq_abs (Int.mul_nonneg (Int.mul_nonneg hp hq) hr) (Int.le_trans had3 ?_)
  have e1 : p * q * r * (p * q * r) = p * p * (q * q * (r * r)) := by grind
  have n2 : 0 ≤ d * d + e * e + f * f := by have := sqn d; have := sqn e; have := sqn f; omega
  have n3 : 0 ≤ g * g + h * h + i * i := by have := sqn g; have := sqn h; have := sqn i; omega
  rw [e1]
  exact Int.mul_le_mul h1 (Int.mul_le_mul h2 h3 n3 (sqn q)) (Int.mul_nonneg n2 n3) (sqn p)
theorem ch_bound {A : Nat → Nat → Int} {n k : Nat} {g : Nat → Int} (hn : n ≤ 4) (hk : k ≤ n) (hg : ∀ i, i < n → Rt (sq n (A i)) (g i)) : ((ch A n k).natAbs : Int) ≤ pb g 2 n := by
  obtain ⟨w, hw⟩ : ∃ w : Nat → Int, ∀ i, w i = g i + 1 := ⟨_, fun _ => rfl⟩
  have e1 : ∀ i, g i + 2 = w i + 1 := fun i => by rw [hw]; omega
  have w0 : ∀ i, i < n → 0 ≤ w i := fun i hi => by have := (hg i hi).nn; rw [hw]; omega
  have wh : ∀ i, i < n → sq n (A i) ≤ w i * w i := fun i hi => by have := (hg i hi).hi; rw [hw]; omega
  match n, hn with
  | 0, _ =>
    have : k = 0 := by omega
    subst this
    show (1 : Int) ≤ 1; decide
  | 1, _ =>
    have a0 := w0 0 (by omega)
    have r0 := wh 0 (by omega)
    rw [sq1] at r0
    have l0 := sq_abs a0 r0
    have ep : pb g 2 1 = 1 + w 0 := by simp only [pb, e1]; omega
    rw [ep]
    match k, hk with
    | 0, _ => show ((-A 0 0).natAbs : Int) ≤ _; omega
    | 1, _ => show (1 : Int) ≤ _; omega
  | 2, _ =>
    have a0 := w0 0 (by omega)
    have a1 := w0 1 (by omega)
    have r0 := wh 0 (by omega)
    have r1 := wh 1 (by omega)
    rw [sq2] at r0 r1
    have q : ∀ i j, 0 ≤ A i j * A i j := fun i j => sqn _
    have l0 := sq_abs (x := A 0 0) a0 (by have := q 0 1; omega)
    have l1 := sq_abs (x := A 1 1) a1 (by have := q 1 0; omega)
    have l2 := b2 a0 a1 r0 r1
    have p1 := Int.mul_nonneg a0 a1
    have ep : pb g 2 2 = 1 + w 0 + w 1 + w 0 * w 1 := by simp only [pb, e1]; grind
    rw [ep]
    match k, hk with
    | 0, _ => show ((A 0 0 * A 1 1 - A 0 1 * A 1 0).natAbs : Int) ≤ _; omega
    | 1, _ => show ((-(A 0 0 + A 1 1)).natAbs : Int) ≤ _; omega
    | 2, _ => show (1 : Int) ≤ _; omega
  | 3, _ =>
    have a0 := w0 0 (by omega)
    have a1 := w0 1 (by omega)
    have a2 := w0 2 (by omega)
    have r0 := wh 0 (by omega)
    have r1 := wh 1 (by omega)
    have r2 := wh 2 (by omega)
    rw [sq3] at r0 r1 r2
    have q : ∀ i j, 0 ≤ A i j * A i j := fun i j => sqn _
    have l0 := sq_abs (x := A 0 0) a0 (by have := q 0 1; have := q 0 2; omega)
    have l1 := sq_abs (x := A 1 1) a1 (by have := q 1 0; have := q 1 2; omega)
    have l2 := sq_abs (x := A 2 2) a2 (by have := q 2 0; have := q 2 1; omega)
    have m01 := b2 (a := A 0 0) (b := A 0 1) (c := A 1 0) (d := A 1 1) a0 a1 (by have := q 0 2; omega) (by have := q 1 2; omega)
    have m02 := b2 (a := A 0 0) (b := A 0 2) (c := A 2 0) (d := A 2 2) a0 a2 (by have := q 0 1; omega) (by have := q 2 1; omega)
    have m12 := b2 (a := A 1 1) (b := A 1 2) (c := A 2 1) (d := A 2 2) a1 a2 (by have := q 1 0; omega) (by have := q 2 0; omega)
    have m012 := b3 a0 a1 a2 r0 r1 r2
    have p01 := Int.mul_nonneg a0 a1
    have p02 := Int.mul_nonneg a0 a2
    have p12 := Int.mul_nonneg a1 a2
    have p012 := Int.mul_nonneg p01 a2
    have ep : pb g 2 3 = 1 + w 0 + w 1 + w 2 + w 0 * w 1 + w 0 * w 2 + w 1 * w 2 + w 0 * w 1 * w 2 := by simp only [pb, e1]; grind
    rw [ep]
    match k, hk with
    | 0, _ => simp only [ch, m3, d3m]; omega
    | 1, _ => simp only [ch, m2]; omega
    | 2, _ => simp only [ch]; omega
    | 3, _ => show (1 : Int) ≤ _; omega
  | 4, _ =>
    have a0 := w0 0 (by omega)
    have a1 := w0 1 (by omega)
    have a2 := w0 2 (by omega)
    have a3 := w0 3 (by omega)
    have r0 := wh 0 (by omega)
    have r1 := wh 1 (by omega)
    have r2 := wh 2 (by omega)
    have r3 := wh 3 (by omega)
    rw [sq4] at r0 r1 r2 r3
    have q : ∀ i j, 0 ≤ A i j * A i j := fun i j => sqn _
    have l0 := sq_abs (x := A 0 0) a0 (by have := q 0 1; have := q 0 2; have := q 0 3; omega)
    have l1 := sq_abs (x := A 1 1) a1 (by have := q 1 0; have := q 1 2; have := q 1 3; omega)
    have l2 := sq_abs (x := A 2 2) a2 (by have := q 2 0; have := q 2 1; have := q 2 3; omega)
    have l3 := sq_abs (x := A 3 3) a3 (by have := q 3 0; have := q 3 1; have := q 3 2; omega)
    have m01 := b2 (a := A 0 0) (b := A 0 1) (c := A 1 0) (d := A 1 1) a0 a1 (by have := q 0 2; have := q 0 3; omega) (by have := q 1 2; have := q 1 3; omega)
    have m02 := b2 (a := A 0 0) (b := A 0 2) (c := A 2 0) (d := A 2 2) a0 a2 (by have := q 0 1; have := q 0 3; omega) (by have := q 2 1; have := q 2 3; omega)
    have m03 := b2 (a := A 0 0) (b := A 0 3) (c := A 3 0) (d := A 3 3) a0 a3 (by have := q 0 1; have := q 0 2; omega) (by have := q 3 1; have := q 3 2; omega)
    have m12 := b2 (a := A 1 1) (b := A 1 2) (c := A 2 1) (d := A 2 2) a1 a2 (by have := q 1 0; have := q 1 3; omega) (by have := q 2 0; have := q 2 3; omega)
    have m13 := b2 (a := A 1 1) (b := A 1 3) (c := A 3 1) (d := A 3 3) a1 a3 (by have := q 1 0; have := q 1 2; omega) (by have := q 3 0; have := q 3 2; omega)
    have m23 := b2 (a := A 2 2) (b := A 2 3) (c := A 3 2) (d := A 3 3) a2 a3 (by have := q 2 0; have := q 2 1; omega) (by have := q 3 0; have := q 3 1; omega)
    have m012 := b3 (a := A 0 0) (b := A 0 1) (c := A 0 2) (d := A 1 0) (e := A 1 1) (f := A 1 2) (g := A 2 0) (h := A 2 1) (i := A 2 2) a0 a1 a2 (by have := q 0 3; omega) (by have := q 1 3; omega) (by have := q 2 3; omega)
    have m013 := b3 (a := A 0 0) (b := A 0 1) (c := A 0 3) (d := A 1 0) (e := A 1 1) (f := A 1 3) (g := A 3 0) (h := A 3 1) (i := A 3 3) a0 a1 a3 (by have := q 0 2; omega) (by have := q 1 2; omega) (by have := q 3 2; omega)
    have m023 := b3 (a := A 0 0) (b := A 0 2) (c := A 0 3) (d := A 2 0) (e := A 2 2) (f := A 2 3) (g := A 3 0) (h := A 3 2) (i := A 3 3) a0 a2 a3 (by have := q 0 1; omega) (by have := q 2 1; omega) (by have := q 3 1; omega)
    have m123 := b3 (a := A 1 1) (b := A 1 2) (c := A 1 3) (d := A 2 1) (e := A 2 2) (f := A 2 3) (g := A 3 1) (h := A 3 2) (i := A 3 3) a1 a2 a3 (by have := q 1 0; omega) (by have := q 2 0; omega) (by have := q 3 0; omega)
    have p01 := Int.mul_nonneg a0 a1
    have p02 := Int.mul_nonneg a0 a2
    have p03 := Int.mul_nonneg a0 a3
    have p12 := Int.mul_nonneg a1 a2
    have p13 := Int.mul_nonneg a1 a3
    have p23 := Int.mul_nonneg a2 a3
    have p012 := Int.mul_nonneg p01 a2
    have p013 := Int.mul_nonneg p01 a3
    have p023 := Int.mul_nonneg p02 a3
    have p123 := Int.mul_nonneg p12 a3
    have p0123 := Int.mul_nonneg p012 a3
    have ep : pb g 2 4 = 1 + w 0 + w 1 + w 2 + w 3 + w 0 * w 1 + w 0 * w 2 + w 0 * w 3 + w 1 * w 2 + w 1 * w 3 + w 2 * w 3 + w 0 * w 1 * w 2 + w 0 * w 1 * w 3 + w 0 * w 2 * w 3 + w 1 * w 2 * w 3 + w 0 * w 1 * w 2 * w 3 := by simp only [pb, e1]; grind
    rw [ep]
    match k, hk with
    | 0, _ =>
      have em : ch A 4 0 = dt A 4 := by simp only [ch, m4, d3m, dt]; grind
      have d0 := ps_pb (n := 4) (f := A) (g := g) 4 hg
      have d1 := sq_abs d0.2.1 (Int.le_trans (dt_sq (f := A) (n := 4) (by omega)) d0.2.2)
      have d2 : pb g 1 4 = w 0 * w 1 * w 2 * w 3 := by simp only [pb, ← hw]; grind
      rw [d2] at d1
      rw [em]
      omega
    | 1, _ => simp only [ch, m3, d3m]; omega
    | 2, _ => simp only [ch, m2]; omega
    | 3, _ => simp only [ch]; omega
    | 4, _ => show (1 : Int) ≤ _; omega
end

section
open Ek PySem
variable {ns : List Int} {B : Ob}
theorem exact_ints {Q : UQ} {E : Nat → Sto → Prop} {k : Nat} {S : Sto} {N : Nat} {g : Nat → Int} (hN : N ≤ 45) (h : Q (.bl true) S) : wpC G (k + 3) f_law_exact [.tup ((List.range N).map fun t => .int (g t))] S Q E := by
  refine exact_tup (by simp; omega) (fun u hu S Q E hq => ?_) h
  obtain ⟨t, _, rfl⟩ := List.mem_map.mp hu
  exact exact_int (k := k) hq
theorem law_ok (ns : List Int) (h : ns.length ≤ 63) : wpC G 40 f_law [.fz (ns.map U.int)] [] (fun u _ => u = .bl true) (fun _ _ => False) := by
  have bg : (1000 : Nat) ≤ big := by decide
  refine ente (d := d_law) 6 rfl rfl rfl (B_cons ?_)
  dsimp! only []
  refine start_spec h fun B0 hB0 => B_cons ?_
  dsimp! only []
  refine take_spec (by omega) (by omega) hB0 fun B1 d hB1 h0 h1 => B_cons ?_
  obtain ⟨n, rfl⟩ : ∃ n : Nat, d = (n : Nat) := ⟨d.toNat, by omega⟩
  have hn : n ≤ 4 := by omega
  dsimp! only []
  refine law_low_spec (k := 28) hB1 hn fun B2 f0 hB2 hf0 => ?_
  refine law_wide_spec (k := 36) hB2 hn hf0 fun B3 f hB3 hf => B_cons ?_
  obtain ⟨S0, hS0⟩ : ∃ S0 : Sto, S0 = An ns :: An ns :: B3 :: [] := ⟨_, rfl⟩
  rw [← hS0]
  dsimp! only []
  refine characteristic_by_primes_spec (k := 13) hn hf (fun g hg k hk => ch_bound hn hk hg) (B_cons ?_)
  dsimp! only []
  refine coefficient_bound_spec (k := 36) hn hf fun g hg => B_cons ?_
  dsimp! only []
  refine exact_ints (k := 36) (by omega) ?_
  dsimp! only []
  refine law_by_minors_spec (k := 31) hn hf ?_
  have eb : ((List.range (n + 1)).map fun k => U.int (bym f n k)) = (List.range (n + 1)).map fun k => U.int (ch f n k) := List.map_congr_left fun k hk => by rw [ch_bym hn (by have := List.mem_range.mp hk; omega)]
  rw [eb]
  have dr : U.dat 60 (.tup ((List.range (n + 1)).map fun k => U.int (ch f n k))) = true := by
    show U.dats 59 ((List.range (n + 1)).map fun k => U.int (ch f n k)) = true
    exact dats_map fun _ => rfl
  refine ⟨dr, dr, ?_⟩
  rw [eqv_refl 60 _ dr, if_pos rfl]
  refine comp_mapR (fun _ => U.bl true) trivial (by omega) (fun k K2 hk hK2 => ?_) ?_
  · have hb := ch_bound hn (show k ≤ n by omega) hg
    dsimp! only []
    rw [decide_eq_true (by split <;> omega)]
    exact hK2
  · dsimp! only []
    refine ⟨_, blsU_map', ?_⟩
    rw [all_map_true]
    exact fin_id rfl
end

end Lw
namespace Lw
open Ek PySem PySem.Spec PyProof.Rows
theorem cases_g {P : Df → Stmt → Prop} (pc0 : P d_common (topS 6)) (pc1 : P d_divisor (topS 7)) (pc2 : P d_combine (topS 8)) (pc3 : P d_is_prime (topS 9)) (pc4 : P d_next_prime (topS 10)) (pc5 : P d_fraction (topS 11)) (pc6 : P d_root (topS 12)) (pc7 : P d_symmetric (topS 13)) (pc8 : P d_is_integer (topS 16)) (pc9 : P d_is_domain (topS 17)) (pc10 : P d_is_field (topS 18)) (pc11 : P d_need_field (topS 19)) (pc12 : P d_zero (topS 20)) (pc13 : P d_one (topS 21)) (pc14 : P d_from_integer (topS 22)) (pc15 : P d_trimmed (topS 23)) (pc16 : P d_add (topS 24)) (pc17 : P d_negate (topS 25)) (pc18 : P d_subtract (topS 26)) (pc19 : P d_multiply (topS 27)) (pc20 : P d_inverse (topS 28)) (pc21 : P d_quotient (topS 29)) (pc22 : P d_need_shape (topS 31)) (pc23 : P d_need_square (topS 32)) (pc24 : P d_may_change (topS 33)) (pc25 : P d_changed (topS 34)) (pc26 : P d_change (topS 35)) (pc27 : P d_hessenberg (topS 37)) (pc28 : P d_exchange (topS 38)) (pc29 : P d_clear_entry (topS 39)) (pc30 : P d_characteristic (topS 40)) (pc31 : P d_row_square (topS 43)) (pc32 : P d_coefficient_bound (topS 44)) (pc33 : P d_primes_for (topS 45)) (pc34 : P d_characteristic_by_primes (topS 46)) (pc35 : P d_law_start (topS 48)) (pc36 : P d_law_fill (topS 49)) (pc37 : P d_law_take (topS 50)) (pc38 : P d_law_common (topS 52)) (pc39 : P d_law_fraction (topS 53)) (pc40 : P d_law_zero (topS 54)) (pc41 : P d_law_strip (topS 55)) (pc42 : P d_law_number (topS 56)) (pc43 : P d_law_part (topS 57)) (pc44 : P d_law_add (topS 58)) (pc45 : P d_law_multiply (topS 59)) (pc46 : P d_law_small (topS 68)) (pc47 : P d_law_matrix (topS 69)) (pc48 : P d_law_dot (topS 70)) (pc49 : P d_law_column (topS 71)) (pc50 : P d_law_product (topS 72)) (pc51 : P d_law_low (topS 74)) (pc52 : P d_law_orders (topS 76)) (pc53 : P d_law_sign (topS 77)) (pc54 : P d_law_determinant (topS 78)) (pc55 : P d_law_by_minors (topS 79)) (pc56 : P d_law_choices (topS 80)) (pc57 : P d_law_whole (topS 81)) (pc58 : P d_law_exact (topS 85)) (pc59 : P d_law_wide (topS 86)) (pc60 : P d_law (topS 87)) : ∀ (g : Nat) (d : Df) (st : Stmt), G[g]? = some d → sts[g]? = some st → P d st := by
  intro g d st h1 h2
  match g, h1, h2 with
  | 0, h1, h2 => cases h1; cases h2; exact pc0
  | 1, h1, h2 => cases h1; cases h2; exact pc1
  | 2, h1, h2 => cases h1; cases h2; exact pc2
  | 3, h1, h2 => cases h1; cases h2; exact pc3
  | 4, h1, h2 => cases h1; cases h2; exact pc4
  | 5, h1, h2 => cases h1; cases h2; exact pc5
  | 6, h1, h2 => cases h1; cases h2; exact pc6
  | 7, h1, h2 => cases h1; cases h2; exact pc7
  | 8, h1, h2 => cases h1; cases h2; exact pc8
  | 9, h1, h2 => cases h1; cases h2; exact pc9
  | 10, h1, h2 => cases h1; cases h2; exact pc10
  | 11, h1, h2 => cases h1; cases h2; exact pc11
  | 12, h1, h2 => cases h1; cases h2; exact pc12
  | 13, h1, h2 => cases h1; cases h2; exact pc13
  | 14, h1, h2 => cases h1; cases h2; exact pc14
  | 15, h1, h2 => cases h1; cases h2; exact pc15
  | 16, h1, h2 => cases h1; cases h2; exact pc16
  | 17, h1, h2 => cases h1; cases h2; exact pc17
  | 18, h1, h2 => cases h1; cases h2; exact pc18
  | 19, h1, h2 => cases h1; cases h2; exact pc19
  | 20, h1, h2 => cases h1; cases h2; exact pc20
  | 21, h1, h2 => cases h1; cases h2; exact pc21
  | 22, h1, h2 => cases h1; cases h2; exact pc22
  | 23, h1, h2 => cases h1; cases h2; exact pc23
  | 24, h1, h2 => cases h1; cases h2; exact pc24
  | 25, h1, h2 => cases h1; cases h2; exact pc25
  | 26, h1, h2 => cases h1; cases h2; exact pc26
  | 27, h1, h2 => cases h1; cases h2; exact pc27
  | 28, h1, h2 => cases h1; cases h2; exact pc28
  | 29, h1, h2 => cases h1; cases h2; exact pc29
  | 30, h1, h2 => cases h1; cases h2; exact pc30
  | 31, h1, h2 => cases h1; cases h2; exact pc31
  | 32, h1, h2 => cases h1; cases h2; exact pc32
  | 33, h1, h2 => cases h1; cases h2; exact pc33
  | 34, h1, h2 => cases h1; cases h2; exact pc34
  | 35, h1, h2 => cases h1; cases h2; exact pc35
  | 36, h1, h2 => cases h1; cases h2; exact pc36
  | 37, h1, h2 => cases h1; cases h2; exact pc37
  | 38, h1, h2 => cases h1; cases h2; exact pc38
  | 39, h1, h2 => cases h1; cases h2; exact pc39
  | 40, h1, h2 => cases h1; cases h2; exact pc40
  | 41, h1, h2 => cases h1; cases h2; exact pc41
  | 42, h1, h2 => cases h1; cases h2; exact pc42
  | 43, h1, h2 => cases h1; cases h2; exact pc43
  | 44, h1, h2 => cases h1; cases h2; exact pc44
  | 45, h1, h2 => cases h1; cases h2; exact pc45
  | 46, h1, h2 => cases h1; cases h2; exact pc46
  | 47, h1, h2 => cases h1; cases h2; exact pc47
  | 48, h1, h2 => cases h1; cases h2; exact pc48
  | 49, h1, h2 => cases h1; cases h2; exact pc49
  | 50, h1, h2 => cases h1; cases h2; exact pc50
  | 51, h1, h2 => cases h1; cases h2; exact pc51
  | 52, h1, h2 => cases h1; cases h2; exact pc52
  | 53, h1, h2 => cases h1; cases h2; exact pc53
  | 54, h1, h2 => cases h1; cases h2; exact pc54
  | 55, h1, h2 => cases h1; cases h2; exact pc55
  | 56, h1, h2 => cases h1; cases h2; exact pc56
  | 57, h1, h2 => cases h1; cases h2; exact pc57
  | 58, h1, h2 => cases h1; cases h2; exact pc58
  | 59, h1, h2 => cases h1; cases h2; exact pc59
  | 60, h1, h2 => cases h1; cases h2; exact pc60
  | (_ + 61), h1, _ => simp [G] at h1
theorem cases_f {P : Nat → Str → Prop} (pc0 : P 0 "common") (pc1 : P 1 "divisor") (pc2 : P 2 "combine") (pc3 : P 3 "is_prime") (pc4 : P 4 "next_prime") (pc5 : P 5 "fraction") (pc6 : P 6 "root") (pc7 : P 7 "symmetric") (pc8 : P 8 "is_integer") (pc9 : P 9 "is_domain") (pc10 : P 10 "is_field") (pc11 : P 11 "need_field") (pc12 : P 12 "zero") (pc13 : P 13 "one") (pc14 : P 14 "from_integer") (pc15 : P 15 "trimmed") (pc16 : P 16 "add") (pc17 : P 17 "negate") (pc18 : P 18 "subtract") (pc19 : P 19 "multiply") (pc20 : P 20 "inverse") (pc21 : P 21 "quotient") (pc22 : P 22 "need_shape") (pc23 : P 23 "need_square") (pc24 : P 24 "may_change") (pc25 : P 25 "changed") (pc26 : P 26 "change") (pc27 : P 27 "hessenberg") (pc28 : P 28 "exchange") (pc29 : P 29 "clear_entry") (pc30 : P 30 "characteristic") (pc31 : P 31 "row_square") (pc32 : P 32 "coefficient_bound") (pc33 : P 33 "primes_for") (pc34 : P 34 "characteristic_by_primes") (pc35 : P 35 "_law_start") (pc36 : P 36 "_law_fill") (pc37 : P 37 "_law_take") (pc38 : P 38 "_law_common") (pc39 : P 39 "_law_fraction") (pc40 : P 40 "_law_zero") (pc41 : P 41 "_law_strip") (pc42 : P 42 "_law_number") (pc43 : P 43 "_law_part") (pc44 : P 44 "_law_add") (pc45 : P 45 "_law_multiply") (pc46 : P 46 "_law_small") (pc47 : P 47 "_law_matrix") (pc48 : P 48 "_law_dot") (pc49 : P 49 "_law_column") (pc50 : P 50 "_law_product") (pc51 : P 51 "_law_low") (pc52 : P 52 "_law_orders") (pc53 : P 53 "_law_sign") (pc54 : P 54 "_law_determinant") (pc55 : P 55 "_law_by_minors") (pc56 : P 56 "_law_choices") (pc57 : P 57 "_law_whole") (pc58 : P 58 "_law_exact") (pc59 : P 59 "_law_wide") (pc60 : P 60 "law") : ∀ (g : Nat) (x : Str), FN[g]? = some x → P g x := by
  intro g x h
  match g, h with
  | 0, h => cases h; exact pc0
  | 1, h => cases h; exact pc1
  | 2, h => cases h; exact pc2
  | 3, h => cases h; exact pc3
  | 4, h => cases h; exact pc4
  | 5, h => cases h; exact pc5
  | 6, h => cases h; exact pc6
  | 7, h => cases h; exact pc7
  | 8, h => cases h; exact pc8
  | 9, h => cases h; exact pc9
  | 10, h => cases h; exact pc10
  | 11, h => cases h; exact pc11
  | 12, h => cases h; exact pc12
  | 13, h => cases h; exact pc13
  | 14, h => cases h; exact pc14
  | 15, h => cases h; exact pc15
  | 16, h => cases h; exact pc16
  | 17, h => cases h; exact pc17
  | 18, h => cases h; exact pc18
  | 19, h => cases h; exact pc19
  | 20, h => cases h; exact pc20
  | 21, h => cases h; exact pc21
  | 22, h => cases h; exact pc22
  | 23, h => cases h; exact pc23
  | 24, h => cases h; exact pc24
  | 25, h => cases h; exact pc25
  | 26, h => cases h; exact pc26
  | 27, h => cases h; exact pc27
  | 28, h => cases h; exact pc28
  | 29, h => cases h; exact pc29
  | 30, h => cases h; exact pc30
  | 31, h => cases h; exact pc31
  | 32, h => cases h; exact pc32
  | 33, h => cases h; exact pc33
  | 34, h => cases h; exact pc34
  | 35, h => cases h; exact pc35
  | 36, h => cases h; exact pc36
  | 37, h => cases h; exact pc37
  | 38, h => cases h; exact pc38
  | 39, h => cases h; exact pc39
  | 40, h => cases h; exact pc40
  | 41, h => cases h; exact pc41
  | 42, h => cases h; exact pc42
  | 43, h => cases h; exact pc43
  | 44, h => cases h; exact pc44
  | 45, h => cases h; exact pc45
  | 46, h => cases h; exact pc46
  | 47, h => cases h; exact pc47
  | 48, h => cases h; exact pc48
  | 49, h => cases h; exact pc49
  | 50, h => cases h; exact pc50
  | 51, h => cases h; exact pc51
  | 52, h => cases h; exact pc52
  | 53, h => cases h; exact pc53
  | 54, h => cases h; exact pc54
  | 55, h => cases h; exact pc55
  | 56, h => cases h; exact pc56
  | 57, h => cases h; exact pc57
  | 58, h => cases h; exact pc58
  | 59, h => cases h; exact pc59
  | 60, h => cases h; exact pc60
  | (_ + 61), h => simp [FN] at h
theorem cases_m {P : Nat → Str → Str → Prop}  : ∀ (g : Nat) (x y : Str), ML[g]? = some (x, y) → P g x y := by
  intro g x y h
  match g, h with
  | _, h => simp [ML] at h
section
variable {K : PySem.W.Frag} {h : Heap} {mg : Str → Option Value} (X : K.In h) (GG : h.Ns mainGlobals mg) (c : Hx.Says Hd.fd K)
include X GG c
theorem fF0 : ∃ fd, F1 K mg d_common (topS 6) (He.ga K "common") fd := f1_of X GG c (d := d_common) 0 rfl (by kernel_rfl) (by decide +kernel) (fun _ _ _ _ _ _ us hl => match us, hl with | [_, _], _ => rfl)
theorem fF1 : ∃ fd, F1 K mg d_divisor (topS 7) (He.ga K "divisor") fd := f1_of X GG c (d := d_divisor) 1 rfl (by kernel_rfl) (by decide +kernel) (fun _ _ _ _ _ _ us hl => match us, hl with | [_, _], _ => rfl)
theorem fF2 : ∃ fd, F1 K mg d_combine (topS 8) (He.ga K "combine") fd := f1_of X GG c (d := d_combine) 2 rfl (by kernel_rfl) (by decide +kernel) (fun _ _ _ _ _ _ us hl => match us, hl with | [_], _ => rfl)
theorem fF3 : ∃ fd, F1 K mg d_is_prime (topS 9) (He.ga K "is_prime") fd := f1_of X GG c (d := d_is_prime) 3 rfl (by kernel_rfl) (by decide +kernel) (fun _ _ _ _ _ _ us hl => match us, hl with | [_], _ => rfl)
theorem fF4 : ∃ fd, F1 K mg d_next_prime (topS 10) (He.ga K "next_prime") fd := f1_of X GG c (d := d_next_prime) 4 rfl (by kernel_rfl) (by decide +kernel) (fun _ _ _ _ _ _ us hl => match us, hl with | [_], _ => rfl)
theorem fF5 : ∃ fd, F1 K mg d_fraction (topS 11) (He.ga K "fraction") fd := f1_of X GG c (d := d_fraction) 5 rfl (by kernel_rfl) (by decide +kernel) (fun _ _ _ _ _ _ us hl => match us, hl with | [_, _], _ => rfl)
theorem fF6 : ∃ fd, F1 K mg d_root (topS 12) (He.ga K "root") fd := f1_of X GG c (d := d_root) 6 rfl (by kernel_rfl) (by decide +kernel) (fun _ _ _ _ _ _ us hl => match us, hl with | [_], _ => rfl)
theorem fF7 : ∃ fd, F1 K mg d_symmetric (topS 13) (He.ga K "symmetric") fd := f1_of X GG c (d := d_symmetric) 7 rfl (by kernel_rfl) (by decide +kernel) (fun _ _ _ _ _ _ us hl => match us, hl with | [_, _], _ => rfl)
theorem fF8 : ∃ fd, F1 K mg d_is_integer (topS 16) (He.ga K "is_integer") fd := f1_of X GG c (d := d_is_integer) 8 rfl (by kernel_rfl) (by decide +kernel) (fun _ _ _ _ _ _ us hl => match us, hl with | [_], _ => rfl)
theorem fF9 : ∃ fd, F1 K mg d_is_domain (topS 17) (He.ga K "is_domain") fd := f1_of X GG c (d := d_is_domain) 9 rfl (by kernel_rfl) (by decide +kernel) (fun _ _ _ _ _ _ us hl => match us, hl with | [_], _ => rfl)
theorem fF10 : ∃ fd, F1 K mg d_is_field (topS 18) (He.ga K "is_field") fd := f1_of X GG c (d := d_is_field) 10 rfl (by kernel_rfl) (by decide +kernel) (fun _ _ _ _ _ _ us hl => match us, hl with | [_], _ => rfl)
theorem fF11 : ∃ fd, F1 K mg d_need_field (topS 19) (He.ga K "need_field") fd := f1_of X GG c (d := d_need_field) 11 rfl (by kernel_rfl) (by decide +kernel) (fun _ _ _ _ _ _ us hl => match us, hl with | [_], _ => rfl)
theorem fF12 : ∃ fd, F1 K mg d_zero (topS 20) (He.ga K "zero") fd := f1_of X GG c (d := d_zero) 12 rfl (by kernel_rfl) (by decide +kernel) (fun _ _ _ _ _ _ us hl => match us, hl with | [_], _ => rfl)
theorem fF13 : ∃ fd, F1 K mg d_one (topS 21) (He.ga K "one") fd := f1_of X GG c (d := d_one) 13 rfl (by kernel_rfl) (by decide +kernel) (fun _ _ _ _ _ _ us hl => match us, hl with | [_], _ => rfl)
theorem fF14 : ∃ fd, F1 K mg d_from_integer (topS 22) (He.ga K "from_integer") fd := f1_of X GG c (d := d_from_integer) 14 rfl (by kernel_rfl) (by decide +kernel) (fun _ _ _ _ _ _ us hl => match us, hl with | [_, _], _ => rfl)
theorem fF15 : ∃ fd, F1 K mg d_trimmed (topS 23) (He.ga K "trimmed") fd := f1_of X GG c (d := d_trimmed) 15 rfl (by kernel_rfl) (by decide +kernel) (fun _ _ _ _ _ _ us hl => match us, hl with | [_, _], _ => rfl)
theorem fF16 : ∃ fd, F1 K mg d_add (topS 24) (He.ga K "add") fd := f1_of X GG c (d := d_add) 16 rfl (by kernel_rfl) (by decide +kernel) (fun _ _ _ _ _ _ us hl => match us, hl with | [_, _, _], _ => rfl)
theorem fF17 : ∃ fd, F1 K mg d_negate (topS 25) (He.ga K "negate") fd := f1_of X GG c (d := d_negate) 17 rfl (by kernel_rfl) (by decide +kernel) (fun _ _ _ _ _ _ us hl => match us, hl with | [_, _], _ => rfl)
theorem fF18 : ∃ fd, F1 K mg d_subtract (topS 26) (He.ga K "subtract") fd := f1_of X GG c (d := d_subtract) 18 rfl (by kernel_rfl) (by decide +kernel) (fun _ _ _ _ _ _ us hl => match us, hl with | [_, _, _], _ => rfl)
theorem fF19 : ∃ fd, F1 K mg d_multiply (topS 27) (He.ga K "multiply") fd := f1_of X GG c (d := d_multiply) 19 rfl (by kernel_rfl) (by decide +kernel) (fun _ _ _ _ _ _ us hl => match us, hl with | [_, _, _], _ => rfl)
theorem fF20 : ∃ fd, F1 K mg d_inverse (topS 28) (He.ga K "inverse") fd := f1_of X GG c (d := d_inverse) 20 rfl (by kernel_rfl) (by decide +kernel) (fun _ _ _ _ _ _ us hl => match us, hl with | [_, _], _ => rfl)
theorem fF21 : ∃ fd, F1 K mg d_quotient (topS 29) (He.ga K "quotient") fd := f1_of X GG c (d := d_quotient) 21 rfl (by kernel_rfl) (by decide +kernel) (fun _ _ _ _ _ _ us hl => match us, hl with | [_, _, _], _ => rfl)
theorem fF22 : ∃ fd, F1 K mg d_need_shape (topS 31) (He.ga K "need_shape") fd := f1_of X GG c (d := d_need_shape) 22 rfl (by kernel_rfl) (by decide +kernel) (fun _ _ _ _ _ _ us hl => match us, hl with | [_], _ => rfl)
theorem fF23 : ∃ fd, F1 K mg d_need_square (topS 32) (He.ga K "need_square") fd := f1_of X GG c (d := d_need_square) 23 rfl (by kernel_rfl) (by decide +kernel) (fun _ _ _ _ _ _ us hl => match us, hl with | [_], _ => rfl)
theorem fF24 : ∃ fd, F1 K mg d_may_change (topS 33) (He.ga K "may_change") fd := f1_of X GG c (d := d_may_change) 24 rfl (by kernel_rfl) (by decide +kernel) (fun _ _ _ _ _ _ us hl => match us, hl with | [_, _], _ => rfl)
theorem fF25 : ∃ fd, F1 K mg d_changed (topS 34) (He.ga K "changed") fd := f1_of X GG c (d := d_changed) 25 rfl (by kernel_rfl) (by decide +kernel) (fun _ _ _ _ _ _ us hl => match us, hl with | [_, _, _], _ => rfl)
theorem fF26 : ∃ fd, F1 K mg d_change (topS 35) (He.ga K "change") fd := f1_of X GG c (d := d_change) 26 rfl (by kernel_rfl) (by decide +kernel) (fun _ _ _ _ _ _ us hl => match us, hl with | [_, _, _], _ => rfl)
theorem fF27 : ∃ fd, F1 K mg d_hessenberg (topS 37) (He.ga K "hessenberg") fd := f1_of X GG c (d := d_hessenberg) 27 rfl (by kernel_rfl) (by decide +kernel) (fun _ _ _ _ _ _ us hl => match us, hl with | [_, _], _ => rfl)
theorem fF28 : ∃ fd, F1 K mg d_exchange (topS 38) (He.ga K "exchange") fd := f1_of X GG c (d := d_exchange) 28 rfl (by kernel_rfl) (by decide +kernel) (fun _ _ _ _ _ _ us hl => match us, hl with | [_, _, _], _ => rfl)
theorem fF29 : ∃ fd, F1 K mg d_clear_entry (topS 39) (He.ga K "clear_entry") fd := f1_of X GG c (d := d_clear_entry) 29 rfl (by kernel_rfl) (by decide +kernel) (fun _ _ _ _ _ _ us hl => match us, hl with | [_, _, _, _, _], _ => rfl)
theorem fF30 : ∃ fd, F1 K mg d_characteristic (topS 40) (He.ga K "characteristic") fd := f1_of X GG c (d := d_characteristic) 30 rfl (by kernel_rfl) (by decide +kernel) (fun _ _ _ _ _ _ us hl => match us, hl with | [_, _], _ => rfl)
theorem fF31 : ∃ fd, F1 K mg d_row_square (topS 43) (He.ga K "row_square") fd := f1_of X GG c (d := d_row_square) 31 rfl (by kernel_rfl) (by decide +kernel) (fun _ _ _ _ _ _ us hl => match us, hl with | [_], _ => rfl)
theorem fF32 : ∃ fd, F1 K mg d_coefficient_bound (topS 44) (He.ga K "coefficient_bound") fd := f1_of X GG c (d := d_coefficient_bound) 32 rfl (by kernel_rfl) (by decide +kernel) (fun _ _ _ _ _ _ us hl => match us, hl with | [_], _ => rfl)
theorem fF33 : ∃ fd, F1 K mg d_primes_for (topS 45) (He.ga K "primes_for") fd := f1_of X GG c (d := d_primes_for) 33 rfl (by kernel_rfl) (by decide +kernel) (fun _ _ _ _ _ _ us hl => match us, hl with | [_], _ => rfl)
theorem fF34 : ∃ fd, F1 K mg d_characteristic_by_primes (topS 46) (He.ga K "characteristic_by_primes") fd := f1_of X GG c (d := d_characteristic_by_primes) 34 rfl (by kernel_rfl) (by decide +kernel) (fun _ _ _ _ _ _ us hl => match us, hl with | [_], _ => rfl)
theorem fF35 : ∃ fd, F1 K mg d_law_start (topS 48) (He.ga K "_law_start") fd := f1_of X GG c (d := d_law_start) 35 rfl (by kernel_rfl) (by decide +kernel) (fun _ _ _ _ _ _ us hl => match us, hl with | [_], _ => rfl)
theorem fF36 : ∃ fd, F1 K mg d_law_fill (topS 49) (He.ga K "_law_fill") fd := f1_of X GG c (d := d_law_fill) 36 rfl (by kernel_rfl) (by decide +kernel) (fun _ _ _ _ _ _ us hl => match us, hl with | [_], _ => rfl)
theorem fF37 : ∃ fd, F1 K mg d_law_take (topS 50) (He.ga K "_law_take") fd := f1_of X GG c (d := d_law_take) 37 rfl (by kernel_rfl) (by decide +kernel) (fun _ _ _ _ _ _ us hl => match us, hl with | [_, _], _ => rfl)
theorem fF38 : ∃ fd, F1 K mg d_law_common (topS 52) (He.ga K "_law_common") fd := f1_of X GG c (d := d_law_common) 38 rfl (by kernel_rfl) (by decide +kernel) (fun _ _ _ _ _ _ us hl => match us, hl with | [_, _], _ => rfl)
theorem fF39 : ∃ fd, F1 K mg d_law_fraction (topS 53) (He.ga K "_law_fraction") fd := f1_of X GG c (d := d_law_fraction) 39 rfl (by kernel_rfl) (by decide +kernel) (fun _ _ _ _ _ _ us hl => match us, hl with | [_, _], _ => rfl)
theorem fF40 : ∃ fd, F1 K mg d_law_zero (topS 54) (He.ga K "_law_zero") fd := f1_of X GG c (d := d_law_zero) 40 rfl (by kernel_rfl) (by decide +kernel) (fun _ _ _ _ _ _ us hl => match us, hl with | [_], _ => rfl)
theorem fF41 : ∃ fd, F1 K mg d_law_strip (topS 55) (He.ga K "_law_strip") fd := f1_of X GG c (d := d_law_strip) 41 rfl (by kernel_rfl) (by decide +kernel) (fun _ _ _ _ _ _ us hl => match us, hl with | [_, _], _ => rfl)
theorem fF42 : ∃ fd, F1 K mg d_law_number (topS 56) (He.ga K "_law_number") fd := f1_of X GG c (d := d_law_number) 42 rfl (by kernel_rfl) (by decide +kernel) (fun _ _ _ _ _ _ us hl => match us, hl with | [_, _], _ => rfl)
theorem fF43 : ∃ fd, F1 K mg d_law_part (topS 57) (He.ga K "_law_part") fd := f1_of X GG c (d := d_law_part) 43 rfl (by kernel_rfl) (by decide +kernel) (fun _ _ _ _ _ _ us hl => match us, hl with | [_, _, _], _ => rfl)
theorem fF44 : ∃ fd, F1 K mg d_law_add (topS 58) (He.ga K "_law_add") fd := f1_of X GG c (d := d_law_add) 44 rfl (by kernel_rfl) (by decide +kernel) (fun _ _ _ _ _ _ us hl => match us, hl with | [_, _, _], _ => rfl)
theorem fF45 : ∃ fd, F1 K mg d_law_multiply (topS 59) (He.ga K "_law_multiply") fd := f1_of X GG c (d := d_law_multiply) 45 rfl (by kernel_rfl) (by decide +kernel) (fun _ _ _ _ _ _ us hl => match us, hl with | [_, _, _], _ => rfl)
theorem fF46 : ∃ fd, F1 K mg d_law_small (topS 68) (He.ga K "_law_small") fd := f1_of X GG c (d := d_law_small) 46 rfl (by kernel_rfl) (by decide +kernel) (fun _ _ _ _ _ _ us hl => match us, hl with | [_, _], _ => rfl)
theorem fF47 : ∃ fd, F1 K mg d_law_matrix (topS 69) (He.ga K "_law_matrix") fd := f1_of X GG c (d := d_law_matrix) 47 rfl (by kernel_rfl) (by decide +kernel) (fun _ _ _ _ _ _ us hl => match us, hl with | [_, _, _, _], _ => rfl)
theorem fF48 : ∃ fd, F1 K mg d_law_dot (topS 70) (He.ga K "_law_dot") fd := f1_of X GG c (d := d_law_dot) 48 rfl (by kernel_rfl) (by decide +kernel) (fun _ _ _ _ _ _ us hl => match us, hl with | [_, _, _], _ => rfl)
theorem fF49 : ∃ fd, F1 K mg d_law_column (topS 71) (He.ga K "_law_column") fd := f1_of X GG c (d := d_law_column) 49 rfl (by kernel_rfl) (by decide +kernel) (fun _ _ _ _ _ _ us hl => match us, hl with | [_, _], _ => rfl)
theorem fF50 : ∃ fd, F1 K mg d_law_product (topS 72) (He.ga K "_law_product") fd := f1_of X GG c (d := d_law_product) 50 rfl (by kernel_rfl) (by decide +kernel) (fun _ _ _ _ _ _ us hl => match us, hl with | [_, _, _], _ => rfl)
theorem fF51 : ∃ fd, F1 K mg d_law_low (topS 74) (He.ga K "_law_low") fd := f1_of X GG c (d := d_law_low) 51 rfl (by kernel_rfl) (by decide +kernel) (fun _ _ _ _ _ _ us hl => match us, hl with | [_, _, _], _ => rfl)
theorem fF52 : ∃ fd, F1 K mg d_law_orders (topS 76) (He.ga K "_law_orders") fd := f1_of X GG c (d := d_law_orders) 52 rfl (by kernel_rfl) (by decide +kernel) (fun _ _ _ _ _ _ us hl => match us, hl with | [_], _ => rfl)
theorem fF53 : ∃ fd, F1 K mg d_law_sign (topS 77) (He.ga K "_law_sign") fd := f1_of X GG c (d := d_law_sign) 53 rfl (by kernel_rfl) (by decide +kernel) (fun _ _ _ _ _ _ us hl => match us, hl with | [_], _ => rfl)
theorem fF54 : ∃ fd, F1 K mg d_law_determinant (topS 78) (He.ga K "_law_determinant") fd := f1_of X GG c (d := d_law_determinant) 54 rfl (by kernel_rfl) (by decide +kernel) (fun _ _ _ _ _ _ us hl => match us, hl with | [_, _], _ => rfl)
theorem fF55 : ∃ fd, F1 K mg d_law_by_minors (topS 79) (He.ga K "_law_by_minors") fd := f1_of X GG c (d := d_law_by_minors) 55 rfl (by kernel_rfl) (by decide +kernel) (fun _ _ _ _ _ _ us hl => match us, hl with | [_, _], _ => rfl)
theorem fF56 : ∃ fd, F1 K mg d_law_choices (topS 80) (He.ga K "_law_choices") fd := f1_of X GG c (d := d_law_choices) 56 rfl (by kernel_rfl) (by decide +kernel) (fun _ _ _ _ _ _ us hl => match us, hl with | [_, _], _ => rfl)
theorem fF57 : ∃ fd, F1 K mg d_law_whole (topS 81) (He.ga K "_law_whole") fd := f1_of X GG c (d := d_law_whole) 57 rfl (by kernel_rfl) (by decide +kernel) (fun _ _ _ _ _ _ us hl => match us, hl with | [_], _ => rfl)
theorem fF58 : ∃ fd, F1 K mg d_law_exact (topS 85) (He.ga K "_law_exact") fd := f1_of X GG c (d := d_law_exact) 58 rfl (by kernel_rfl) (by decide +kernel) (fun _ _ _ _ _ _ us hl => match us, hl with | [_], _ => rfl)
theorem fF59 : ∃ fd, F1 K mg d_law_wide (topS 86) (He.ga K "_law_wide") fd := f1_of X GG c (d := d_law_wide) 59 rfl (by kernel_rfl) (by decide +kernel) (fun _ _ _ _ _ _ us hl => match us, hl with | [_, _], _ => rfl)
theorem fF60 : ∃ fd, F1 K mg d_law (topS 87) (He.ga K "law") fd := f1_of X GG c (d := d_law) 60 rfl (by kernel_rfl) (by decide +kernel) (fun _ _ _ _ _ _ us hl => match us, hl with | [_], _ => rfl)
theorem topT : Top K mg G sts GL XS (clsOf (XS.map (He.ga K))) FN KL ML :=
  top_of X GG c rfl (cases_g dc_0 dc_1 dc_2 dc_3 dc_4 dc_5 dc_6 dc_7 dc_8 dc_9 dc_10 dc_11 dc_12 dc_13 dc_14 dc_15 dc_16 dc_17 dc_18 dc_19 dc_20 dc_21 dc_22 dc_23 dc_24 dc_25 dc_26 dc_27 dc_28 dc_29 dc_30 dc_31 dc_32 dc_33 dc_34 dc_35 dc_36 dc_37 dc_38 dc_39 dc_40 dc_41 dc_42 dc_43 dc_44 dc_45 dc_46 dc_47 dc_48 dc_49 dc_50 dc_51 dc_52 dc_53 dc_54 dc_55 dc_56 dc_57 dc_58 dc_59 dc_60) (cases_f (f1_top rfl rfl rfl rfl (fF0 X GG c)) (f1_top rfl rfl rfl rfl (fF1 X GG c)) (f1_top rfl rfl rfl rfl (fF2 X GG c)) (f1_top rfl rfl rfl rfl (fF3 X GG c)) (f1_top rfl rfl rfl rfl (fF4 X GG c)) (f1_top rfl rfl rfl rfl (fF5 X GG c)) (f1_top rfl rfl rfl rfl (fF6 X GG c)) (f1_top rfl rfl rfl rfl (fF7 X GG c)) (f1_top rfl rfl rfl rfl (fF8 X GG c)) (f1_top rfl rfl rfl rfl (fF9 X GG c)) (f1_top rfl rfl rfl rfl (fF10 X GG c)) (f1_top rfl rfl rfl rfl (fF11 X GG c)) (f1_top rfl rfl rfl rfl (fF12 X GG c)) (f1_top rfl rfl rfl rfl (fF13 X GG c)) (f1_top rfl rfl rfl rfl (fF14 X GG c)) (f1_top rfl rfl rfl rfl (fF15 X GG c)) (f1_top rfl rfl rfl rfl (fF16 X GG c)) (f1_top rfl rfl rfl rfl (fF17 X GG c)) (f1_top rfl rfl rfl rfl (fF18 X GG c)) (f1_top rfl rfl rfl rfl (fF19 X GG c)) (f1_top rfl rfl rfl rfl (fF20 X GG c)) (f1_top rfl rfl rfl rfl (fF21 X GG c)) (f1_top rfl rfl rfl rfl (fF22 X GG c)) (f1_top rfl rfl rfl rfl (fF23 X GG c)) (f1_top rfl rfl rfl rfl (fF24 X GG c)) (f1_top rfl rfl rfl rfl (fF25 X GG c)) (f1_top rfl rfl rfl rfl (fF26 X GG c)) (f1_top rfl rfl rfl rfl (fF27 X GG c)) (f1_top rfl rfl rfl rfl (fF28 X GG c)) (f1_top rfl rfl rfl rfl (fF29 X GG c)) (f1_top rfl rfl rfl rfl (fF30 X GG c)) (f1_top rfl rfl rfl rfl (fF31 X GG c)) (f1_top rfl rfl rfl rfl (fF32 X GG c)) (f1_top rfl rfl rfl rfl (fF33 X GG c)) (f1_top rfl rfl rfl rfl (fF34 X GG c)) (f1_top rfl rfl rfl rfl (fF35 X GG c)) (f1_top rfl rfl rfl rfl (fF36 X GG c)) (f1_top rfl rfl rfl rfl (fF37 X GG c)) (f1_top rfl rfl rfl rfl (fF38 X GG c)) (f1_top rfl rfl rfl rfl (fF39 X GG c)) (f1_top rfl rfl rfl rfl (fF40 X GG c)) (f1_top rfl rfl rfl rfl (fF41 X GG c)) (f1_top rfl rfl rfl rfl (fF42 X GG c)) (f1_top rfl rfl rfl rfl (fF43 X GG c)) (f1_top rfl rfl rfl rfl (fF44 X GG c)) (f1_top rfl rfl rfl rfl (fF45 X GG c)) (f1_top rfl rfl rfl rfl (fF46 X GG c)) (f1_top rfl rfl rfl rfl (fF47 X GG c)) (f1_top rfl rfl rfl rfl (fF48 X GG c)) (f1_top rfl rfl rfl rfl (fF49 X GG c)) (f1_top rfl rfl rfl rfl (fF50 X GG c)) (f1_top rfl rfl rfl rfl (fF51 X GG c)) (f1_top rfl rfl rfl rfl (fF52 X GG c)) (f1_top rfl rfl rfl rfl (fF53 X GG c)) (f1_top rfl rfl rfl rfl (fF54 X GG c)) (f1_top rfl rfl rfl rfl (fF55 X GG c)) (f1_top rfl rfl rfl rfl (fF56 X GG c)) (f1_top rfl rfl rfl rfl (fF57 X GG c)) (f1_top rfl rfl rfl rfl (fF58 X GG c)) (f1_top rfl rfl rfl rfl (fF59 X GG c)) (f1_top rfl rfl rfl rfl (fF60 X GG c))) (cases_m ) (by kernel_rfl) (by decide +kernel) (by decide +kernel) (by decide +kernel) (by decide +kernel) (by decide +kernel) (by decide +kernel)
end
theorem law_walk : PySem.W.WalkO Hd.qv Hd.loose (PySem.W.XL Hd.qv []) (Hx.hk Hd.fd).says Hd.R.toRowW Hd.dl [] (fun f vs => PySem.call f vs) := by
  refine walk_X (l := PySem.Challenge.rw_echelon_k52_characteristic_by_primes) (n := 63) (k := KK) (x := "_law_script") rfl (by decide) (by kernel_rfl) ⟨rfl, by decide, by decide⟩ ?_
  intro w mg fa h Y GG hmg
  obtain ⟨K, X, c⟩ := Y
  have hmg2 : mg "law" = some (.ref fa) := by
    have e : Hd.dl.name = ("law" : Str) := by kernel_rfl
    rw [← e]; exact hmg
  obtain ⟨fd, F⟩ := fF60 X GG c
  have e := hmg2.symm.trans F.mgd
  cases e
  obtain ⟨_, _, _, _, _, _, _, _, _, ef, _, _⟩ := F.fn.ex
  cases ef
  refine ⟨K, _, spC K (clsOf (XS.map (He.ga K))) (wpC G KK) f_law, X, fun s v => .of_eq rfl, fun H a ns hl hO hS => Ek.law_sp hO hS (Lw.law_ok ns hl), fun base _ _ => all_fns (topT X GG c) KK f_law d_law (topS 87) _ _ _ g_60 rfl F.fn⟩
end Lw
open PySem PySem.W PyProof.Rows
theorem PySem.Challenge.cw_echelon_k52_characteristic_by_primes_holds : PySem.Challenge.rw_echelon_k52_characteristic_by_primes.Holds := by
  exact Lw.top_law Lw.law_walk


