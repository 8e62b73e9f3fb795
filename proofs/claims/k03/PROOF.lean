import PyProof.Rows.All
import HandS.Base
import HandS.Call
import HandS.List
import HandS.Comp
import HandS.Dict
import HandS.Exc
import HandS.Lambda
import HandS.Wide
import HandS.TupLe
import HandS.TupAny
import HandS.IsInst
import HandS.Deep
import HandS.TupMul
import HandS.TupLen
import HandS.WordsDict
import HandS.Text
import HandS.ForExc
import HandS.Small
import HandS.Ends
import HandS.RaiseMore
import HandS.Defaults
import HandS.More
import HandS.Star
import HandS.Property
import OpenK.KMeth
import HandS.ClsMeth
import HandS.OwnEq
import HandS.Zip
import HandS.SortRule
import HandS.Iter
import HandS.DictTup
import HandS.DictComp
import HandS.ExcValue
import PyProof.ReprLen
import HandS.ExcInit
import HandS.ExcField
import HandS.ExcIs
import KE.KExcIs
import KE.KRevSl
import KE.GoesEnum
import KE.KDictKeyed
import KE.KDictCopyH
import PyProof.WalkInts
import PyProof.SeqI3
import HandS.Style
import KE.KDictWalk
import PyProof.Rows.RuleB_bool
import HandS.GenList
import HandS.RepeatKit
import HandS.SetFor
import HandS.Strs
import PyProof.Rows.RuleDivmod
import HandS.Conv
import HandS.SortKw
import KE.DataMinMax
import HandS.Flow
import PyProof.CollectIter
import KE.GoesEnumKw
import HandS.FStr
import KE.KUnpackStar
import PyProof.FString3
import PyProof.StrOps2
import PyProof.Rows.StrIntSpec
import HandS.SuiteRaise
import HandS.RaiseFrom
import HandS.ExcInitHot
import HandS.ForMost
import KE.KStateDown
import HandS.Head0
import HandS.Head1
import HandS.Head2
import HandS.HeadHook1
import HandS.HeadHook2
import KE.RegKIsAll
import HandS.WordsExc
import KE.KNestM
import Wide.FinOn
import PySem.Challenge.RW_pullplain_k03_states_put_together
set_option Elab.async false
set_option linter.all false
set_option maxRecDepth 100000
set_option maxHeartbeats 4000000
/-! DT0: marks in the part of the heap: which tables of code objects are told of. -/
namespace DL
open PySem L2
/-- the table, the name of the lambdas made there, the code object -/
def TKc (K : PySem.W.Frag) : List (Addr × Str × Addr) := K.filterMap fun e => match Nat.beq e.1 mainGlobals with
  | true => (match e.2.data with
    | .fields vs => (match vs.toList with
      | [.ref P, .str q _, .ref c] => some (P, q, c)
      | _ => none)
    | _ => none)
  | false => none
def TK (K : PySem.W.Frag) : List (Addr × Str) := (TKc K).map fun t => (t.1, t.2.1)
end DL

/-! DH: the head's facts, read by a Hook of one's own. -/
namespace DH
open PySem PySem.Spec PyProof.Rows L2
/-- a property's getter, a class method's def, by their records -/
def recF (K : PySem.W.Frag) (q : Addr) (n : String) : Addr := match PySem.W.recIn K q n with
  | some (.ref f :: _) => f
  | _ => 0
def recB (K : PySem.W.Frag) (q : Addr) (n : String) : Bool := match PySem.W.recIn K q n with
  | some (.ref _ :: _) => true
  | _ => false
theorem rec_get {K : PySem.W.Frag} {q : Addr} {n : String} (h : recB K q n = true) : ∃ rr, PySem.W.recIn K q n = some (.ref (recF K q n) :: rr) := by
  unfold recB at h
  unfold recF
  split at h
  · rename_i f rr e
    rw [e]
    exact ⟨rr, rfl⟩
  · cases h
/-- a class method as it is found -/
def cmQ (K : PySem.W.Frag) (C : Addr) (m : Str) : Addr := match PySem.W.findCls K (.ref C) (.type "type") m with
  | some (.get _ (.ref q) _ _) => q
  | _ => 0
def cmB (K : PySem.W.Frag) (C : Addr) (m : Str) : Bool := match PySem.W.findCls K (.ref C) (.type "type") m with
  | some (.get g (.ref _) a b) => decide (g = .builtin "classmethod.__get__") && (decide (a = .none) && decide (b = .ref C))
  | _ => false
theorem cm_get {K : PySem.W.Frag} {C : Addr} {m : Str} (h : cmB K C m = true) : PySem.W.findCls K (.ref C) (.type "type") m = some (.get (.builtin "classmethod.__get__") (.ref (cmQ K C m)) .none (.ref C)) := by
  unfold cmB at h
  unfold cmQ
  split at h
  · rename_i g q a b e
    rw [e]
    obtain ⟨h1, h2⟩ := Bool.and_eq_true_iff.mp h
    obtain ⟨h2, h3⟩ := Bool.and_eq_true_iff.mp h2
    rw [of_decide_eq_true h1, of_decide_eq_true h2, of_decide_eq_true h3]
  · cases h
/-- a class's whole number -/
def cvB (K : PySem.W.Frag) (C : Addr) (m : Str) (v : Int) : Bool := match PySem.W.findCls K (.ref C) (.type "type") m with
  | some (.val (.int j _)) => decide (j = v)
  | _ => false
theorem cv_get {K : PySem.W.Frag} {C : Addr} {m : Str} {v : Int} (h : cvB K C m v = true) : ∃ t, PySem.W.findCls K (.ref C) (.type "type") m = some (.val (.int v t)) := by
  unfold cvB at h
  split at h
  · rename_i j t e
    have := of_decide_eq_true h
    subst this
    exact ⟨t, e⟩
  · cases h
/-- a module's whole number -/
def giB (K : PySem.W.Frag) (g : Str) (v : Int) : Bool := match PySem.W.nsIn K mainGlobals g with
  | some (some (.int j _)) => decide (j = v)
  | _ => false
theorem gi_get {K : PySem.W.Frag} {g : Str} {v : Int} (h : giB K g v = true) : ∃ t, PySem.W.nsIn K mainGlobals g = some (some (.int v t)) := by
  unfold giB at h
  split at h
  · rename_i j t e
    have := of_decide_eq_true h
    subst this
    exact ⟨t, e⟩
  · cases h
def gsB (K : PySem.W.Frag) (g : Str) (v : Str) : Bool := match PySem.W.nsIn K mainGlobals g with
  | some (some (.str j _)) => decide (j = v)
  | _ => false
theorem gs_get {K : PySem.W.Frag} {g : Str} {v : Str} (h : gsB K g v = true) : ∃ t, PySem.W.nsIn K mainGlobals g = some (some (.str v t)) := by
  unfold gsB at h
  split at h
  · rename_i j t e
    have := of_decide_eq_true h
    subst this
    exact ⟨t, e⟩
  · cases h
/-- a def as it stands at an address -/
abbrev FnX : Type := Option (Str × Str × Arguments × FuncBody × Scope × Addr × List (Str × Addr) × Addr)
def fnX (K : PySem.W.Frag) (f : Addr) : FnX := match K.lookup f with
  | some ⟨_, _, .func fd, _⟩ => some (fd.name, fd.qualname, fd.params, fd.body, fd.scope, fd.globals, fd.closure, fd.builtins)
  | _ => none
def dvOf (K : PySem.W.Frag) (f : Addr) : Value := match K.lookup f with
  | some ⟨_, _, .func fd, _⟩ => fd.defaults
  | _ => .none
def codeB (K : PySem.W.Frag) (f : Addr) (q : Str) : Bool := match K.lookup f with
  | some ⟨_, _, .func fd, _⟩ => PySem.W.codeIn K fd.code q
  | _ => false
def isNone : Value → Bool
  | .none => true
  | _ => false
theorem isNone_ok {v : Value} (h : isNone v = true) : v = .none := by
  cases v <;> first | rfl | cases h
structure DefX where
  ad : PySem.W.Frag → Addr
  name : Str
  qual : Str
  st : Stmt
def DefX.val (d : DefX) : FnX := some (d.name, d.qual, L2.defArgs d.st, .stmts (L2.defBody d.st), L2.defScope d.st, mainGlobals, [], builtinsNs)
theorem def_get {K : PySem.W.Frag} {f : Addr} {nm q : Str} {args : Arguments} {body : List Stmt} {sc : Scope} (e : fnX K f = some (nm, q, args, .stmts body, sc, mainGlobals, [], builtinsNs)) (c : codeB K f q = true) :
    ∃ oc od sl kV dc pm an cd ct, K.lookup f = some ⟨oc, od, .func (PySem.W.fnOf nm q args body sc (dvOf K f) kV dc pm an cd ct), sl⟩ ∧ PySem.W.codeIn K cd q = true := by
  unfold fnX at e
  unfold codeB at c
  unfold dvOf
  cases z : K.lookup f with
  | none => rw [z] at e; cases e
  | some o =>
    obtain ⟨oc, od, dt, osl⟩ := o
    rw [z] at c e
    cases dt with
    | func fd =>
      obtain ⟨n1, n2, n3, n4, n5, n6, n7, n8, n9, n10, n11, n12, n13, n14, n15⟩ := fd
      have e2 : (some (n1, n2, n3, n4, n5, n6, n7, n15) : FnX) = some (nm, q, args, .stmts body, sc, mainGlobals, [], builtinsNs) := e
      simp only [Option.some.injEq, Prod.mk.injEq] at e2
      obtain ⟨h1, h2, h3, h4, h5, h6, h7, h8⟩ := e2
      subst h1 h2 h3 h4 h5 h6 h7 h8
      exact ⟨oc, od, osl, n9, n10, n11, n12, n13, n14, rfl, c⟩
    | _ => cases c
theorem def_none {K : PySem.W.Frag} {f : Addr} {nm q : Str} {args : Arguments} {body : List Stmt} {sc : Scope} (e : fnX K f = some (nm, q, args, .stmts body, sc, mainGlobals, [], builtinsNs)) (c : codeB K f q = true) (d : isNone (dvOf K f) = true) :
    ∃ oc od sl kV dc pm an cd ct, K.lookup f = some ⟨oc, od, .func (PySem.W.fnOf nm q args body sc .none kV dc pm an cd ct), sl⟩ ∧ PySem.W.codeIn K cd q = true := by
  have h := def_get e c
  rw [isNone_ok d] at h
  exact h
/-- one default, a tuple of one value -/
def dfB (K : PySem.W.Frag) (v : Value) : Bool := match v with
  | .ref T => (match K.lookup T with
    | some ⟨_, _, .seq its _, _⟩ => (match its.toList with
      | [_] => true
      | _ => false)
    | _ => false)
  | _ => false
theorem df_get {K : PySem.W.Frag} {v : Value} (h : dfB K v = true) : ∃ T cT oT x nT sT, v = .ref T ∧ K.lookup T = some ⟨cT, oT, .seq #[x] nT, sT⟩ := by
  unfold dfB at h
  split at h
  · rename_i T
    split at h
    · rename_i cT oT its nT sT e
      split at h
      · rename_i x e2
        have : its = #[x] := by
          obtain ⟨l⟩ := its
          simp only at e2
          rw [e2]
        subst this
        exact ⟨T, _, _, _, _, _, rfl, e⟩
      · cases h
    · cases h
  · cases h
theorem def_one {K : PySem.W.Frag} {f : Addr} {nm q : Str} {args : Arguments} {body : List Stmt} {sc : Scope} (e : fnX K f = some (nm, q, args, .stmts body, sc, mainGlobals, [], builtinsNs)) (c : codeB K f q = true) (d : dfB K (dvOf K f) = true) :
    ∃ T cT oT x nT sT oc od sl kV dc pm an cd ct, K.lookup T = some ⟨cT, oT, .seq #[x] nT, sT⟩ ∧ K.lookup f = some ⟨oc, od, .func (PySem.W.fnOf nm q args body sc (.ref T) kV dc pm an cd ct), sl⟩ ∧ PySem.W.codeIn K cd q = true := by
  have h := def_get e c
  obtain ⟨T, cT, oT, x, nT, sT, e1, e2⟩ := df_get d
  rw [e1] at h
  obtain ⟨oc, od, sl, kV, dc, pm, an, cd, ct, l, c⟩ := h
  exact ⟨T, cT, oT, x, nT, sT, oc, od, sl, kV, dc, pm, an, cd, ct, e2, l, c⟩
/-- an own exception class with an __init__ -/
def oexB (K : PySem.W.Frag) (C : Addr) : Bool := match K.lookup C with
  | some ⟨.type n, _, .cls cd, sl⟩ => (match cd.mro, sl.toList with
    | .ref C' :: bm, [_, _, _, _, some (.builtin m), _] => n == "type" && C' == C && m == "ValueError.__new__" && !cd.hasDel && cd.hasDict && PySem.HandSPX.refsVE bm
    | _, _ => false)
  | _ => false
theorem oex_get {K : PySem.W.Frag} {C : Addr} (q : oexB K C = true) : ∃ nm q N bs bm sn sub ab col dd k0 k1 k2 k3 k5, K.lookup C = some (excClassObj nm q C N bs bm true sn sub ab col dd k0 k1 k2 k3 k5 "ValueError.__new__") ∧ PySem.HandSPX.refsVE bm = true := by
  unfold oexB at q
  split at q
  · rename_i dd cd sl ho
    split at q
    · rename_i C' bm k0 k1 k2 k3 m k5 hm hs
      simp only [Bool.and_eq_true, beq_iff_eq, Bool.not_eq_true'] at q
      obtain ⟨⟨⟨⟨⟨rfl, rfl⟩, rfl⟩, hdel⟩, hdct⟩, ht⟩ := q
      obtain ⟨nm, bs, mro, ns, qn, hd, sn, sub, ab, col, del⟩ := cd
      dsimp only at hm hdel hdct
      subst hm hdel hdct
      have hsl : sl = #[k0, k1, k2, k3, some (.builtin "ValueError.__new__"), k5] := by
        obtain ⟨l⟩ := sl
        simp only at hs
        rw [hs]
      subst hsl
      exact ⟨nm, qn, ns, bs, bm, sn, sub, ab, col, _, k0, k1, k2, k3, k5, ho, ht⟩
    · cases q
  · cases q
/-- one default, a tuple of whole numbers -/
def intV : Value → Option Int
  | .int i _ => some i
  | _ => none
def tupB (K : PySem.W.Frag) (l : List Int) (v : Value) : Bool := match v with
  | .ref a => (match K.lookup a with
    | some ⟨.type n, none, .seq its _, _⟩ => (n == "tuple") && decide (its.toList.map intV = l.map some) && decide (its.size ≤ 100)
    | _ => false)
  | _ => false
theorem vals_ints : ∀ {l : List Int} {us : List Value}, us.map intV = l.map some → L2.Vals (l.map L2.V.int) us
  | [], [], _ => .nil
  | [], u :: us, h => by cases h
  | i :: l, [], h => by cases h
  | i :: l, u :: us, h => by
    rw [List.map_cons, List.map_cons, List.cons.injEq] at h
    refine .cons ?_ (vals_ints h.2)
    have h1 := h.1
    unfold intV at h1
    split at h1
    · cases h1; exact ⟨_, rfl⟩
    · cases h1
theorem tup_get {K : PySem.W.Frag} {l : List Int} {v : Value} (h : tupB K l v = true) : ∃ (a : Addr) (o : Obj) (its : Array Value) (n : Nat), v = .ref a ∧ K.lookup a = some o ∧ o.cls = .type "tuple" ∧ o.dict = none ∧ o.data = .seq its n ∧ its.size ≤ 100 ∧ L2.Vals (l.map L2.V.int) its.toList := by
  unfold tupB at h
  split at h
  · split at h
    · rename_i e
      simp only [Bool.and_eq_true, beq_iff_eq, decide_eq_true_eq] at h
      obtain ⟨⟨rfl, h1⟩, h2⟩ := h
      exact ⟨_, _, _, _, rfl, e, rfl, rfl, rfl, h2, vals_ints h1⟩
    · cases h
  · cases h
def dfTB (K : PySem.W.Frag) (l : List Int) (v : Value) : Bool := match v with
  | .ref T => (match K.lookup T with
    | some ⟨_, _, .seq its _, _⟩ => (match its.toList with
      | [x] => tupB K l x
      | _ => false)
    | _ => false)
  | _ => false
theorem dfT_get {K : PySem.W.Frag} {l : List Int} {v : Value} (h : dfTB K l v = true) : ∃ T cT oT x nT sT, v = .ref T ∧ K.lookup T = some ⟨cT, oT, .seq #[x] nT, sT⟩ ∧ tupB K l x = true := by
  unfold dfTB at h
  split at h
  · rename_i T
    split at h
    · rename_i cT oT its nT sT e
      split at h
      · rename_i x e2
        have : its = #[x] := by
          obtain ⟨l⟩ := its
          simp only at e2
          rw [e2]
        subst this
        exact ⟨T, _, _, _, _, _, rfl, e, h⟩
      · cases h
    · cases h
  · cases h
theorem def_oneT {K : PySem.W.Frag} {f : Addr} {nm q : Str} {args : Arguments} {body : List Stmt} {sc : Scope} {z : List Int} (e : fnX K f = some (nm, q, args, .stmts body, sc, mainGlobals, [], builtinsNs)) (c : codeB K f q = true) (d : dfTB K z (dvOf K f) = true) :
    ∃ T cT oT x nT sT oc od sl kV dc pm an cd ct, tupB K z x = true ∧ K.lookup T = some ⟨cT, oT, .seq #[x] nT, sT⟩ ∧ K.lookup f = some ⟨oc, od, .func (PySem.W.fnOf nm q args body sc (.ref T) kV dc pm an cd ct), sl⟩ ∧ PySem.W.codeIn K cd q = true := by
  have h := def_get e c
  obtain ⟨T, cT, oT, x, nT, sT, e1, e2, e3⟩ := dfT_get d
  rw [e1] at h
  obtain ⟨oc, od, sl, kV, dc, pm, an, cd, ct, l, c⟩ := h
  exact ⟨T, cT, oT, x, nT, sT, oc, od, sl, kV, dc, pm, an, cd, ct, e3, e2, l, c⟩
/-! ### the Hook -/
abbrev Al : Type := Bool × List FnX
def obsK (fa : List (PySem.W.Frag → Bool)) (ds : List DefX) (K : PySem.W.Frag) : Al := (fa.all fun f => f K, ds.map fun d => fnX K (d.ad K))
def valK (ds : List DefX) : Al := (true, ds.map DefX.val)
def Says (fa : List (PySem.W.Frag → Bool)) (ds : List DefX) (K : PySem.W.Frag) : Prop := obsK fa ds K = valK ds
/-- what an object names, as far as the facts go -/
def kidsO (o : Obj) : List Addr := match o.data with
  | .cls cd => [cd.ns]
  | .dict es _ => es.toList.flatMap fun e => He.refV e.val
  | .func fd => He.refV fd.code ++ He.refV fd.defaults
  | .fields vs => (match o.cls with
    | .type n => (match n == "property" || n == "classmethod" with
      | true => (match vs.toList with
        | v :: _ => He.refV v
        | [] => [])
      | false => [])
    | _ => [])
  | .seq its _ => (match its.toList with
    | [v] => He.refV v
    | _ => [])
  | _ => []
def kids (g : Addr → Option Obj) : List Addr → List Addr
  | [] => []
  | a :: r => (match g a with
    | some o => kidsO o
    | none => []) ++ kids g r
/-- globals; namespaces, code; methods; getters, code; code -/
def asH (g : Addr → Option Obj) : List Addr :=
  [mainGlobals, cStatics] ++ (kids g [mainGlobals] ++ (kids g (kids g [mainGlobals]) ++ (kids g (kids g (kids g [mainGlobals])) ++ (kids g (kids g (kids g (kids g [mainGlobals]))) ++ (kids g (kids g (kids g (kids g (kids g [mainGlobals])))) ++ kids g (kids g (kids g (kids g (kids g (kids g [mainGlobals]))))))))))
/-- the list, worked out -/
def frL {α : Type} : List Addr → (List Addr → α) → α
  | [], k => k []
  | a :: r, k => HandSHeadRun.frNat a fun a => frL r fun r => k (a :: r)
theorem frL_eq {α : Type} : ∀ (l : List Addr) (k : List Addr → α), frL l k = k l
  | [], _ => rfl
  | a :: r, k => by
    show HandSHeadRun.frNat a (fun a => frL r fun r => k (a :: r)) = _
    rw [HandSHeadRun.frNat_eq, frL_eq r]
def asF {α : Type} (g : Addr → Option Obj) (k : List Addr → α) : α :=
  frL (kids g [mainGlobals]) fun l1 => frL (kids g l1) fun l2 => frL (kids g l2) fun l3 => frL (kids g l3) fun l4 => frL (kids g l4) fun l5 => frL (kids g l5) fun l6 => frL ([mainGlobals, cStatics] ++ (l1 ++ (l2 ++ (l3 ++ (l4 ++ (l5 ++ l6)))))) k
theorem asF_eq {α : Type} (g : Addr → Option Obj) (k : List Addr → α) : asF g k = k (asH g) := by
  unfold asF
  simp only [frL_eq]
  rfl
/-- the part of the heap, worked out -/
def frF {α : Type} (g : Addr → Option Obj) : List Addr → (PySem.W.Frag → α) → α
  | [], k => k []
  | a :: r, k => match g a with
    | some ⟨c, d, dt, sl⟩ => frF g r fun R => k ((a, ⟨c, d, dt, sl⟩) :: R)
    | none => frF g r k
theorem frF_eq {α : Type} {g : Addr → Option Obj} : ∀ (l : List Addr) (k : PySem.W.Frag → α), frF g l k = k (He.frG g l)
  | [], _ => rfl
  | a :: r, k => by
    unfold frF He.frG
    cases e : g a with
    | none =>
      simp only [List.filterMap_cons, e, Option.map_none]
      exact frF_eq r k
    | some o =>
      obtain ⟨c, d, dt, sl⟩ := o
      simp only [List.filterMap_cons, e, Option.map_some]
      exact frF_eq r fun R => k ((a, ⟨c, d, dt, sl⟩) :: R)
def obsF (fa : List (PySem.W.Frag → Bool)) (ds : List DefX) (g : Addr → Option Obj) : Al := asF g fun l => frF g l fun K => obsK fa ds K
def hook (fa : List (PySem.W.Frag → Bool)) (ds : List DefX) : PySem.W.Hook where
  α := Al
  obs := fun s => obsK fa ds (He.frG s.heap.get? (asH s.heap.get?))
  val := fun _ => valK ds
  says := fun _ h => ∃ K : PySem.W.Frag, K.In h ∧ Says fa ds K
  of := fun _ _ e => ⟨_, He.frG_in, e⟩
  keeps := fun _ _ _ ⟨K, hK, c⟩ k => ⟨K, PySem.W.Frag.In.keeps hK k, c⟩
theorem obsF_eq {fa : List (PySem.W.Frag → Bool)} {ds : List DefX} {g : Addr → Option Obj} {s : Shared} (h : ∀ a, g a = s.heap.get? a) : obsF fa ds g = (hook fa ds).obs s := by
  have e : g = s.heap.get? := funext h
  unfold obsF
  rw [asF_eq, frF_eq, e]
  rfl
/-! ### marks: tables of code objects -/
/-- the code object of a def, its table -/
def tabA (K : PySem.W.Frag) (f : Addr) : Addr × Addr := match K.lookup f with
  | some ⟨_, _, .func fd, _⟩ => (match fd.code with
    | .ref c => (match K.lookup c with
      | some ⟨_, _, .fields vs, _⟩ => (match (vs[11]? : Option Value) with
        | some (.ref P) => (c, P)
        | _ => (c, 0))
      | _ => (c, 0))
    | _ => (0, 0))
  | _ => (0, 0)
abbrev Mks : Type := List ((PySem.W.Frag → Addr) × Str)
def markO (P : Addr) (q : Str) (c : Addr) : Addr × Obj := (mainGlobals, ⟨.none, none, .fields #[.ref P, .str q 0, .ref c], #[]⟩)
def marksOf (K : PySem.W.Frag) (ts : Mks) : PySem.W.Frag := ts.map fun t => markO (tabA K (t.1 K)).2 t.2 (tabA K (t.1 K)).1
def isTab : Option Obj → Bool
  | some ⟨.none, none, .fields vs, sl⟩ => vs.toList.isEmpty && sl.toList.isEmpty
  | _ => false
theorem isTab_ok {o : Option Obj} (h : isTab o = true) : o = some { cls := .none, data := .fields #[] } := by
  unfold isTab at h
  split at h
  · rename_i vs sl
    obtain ⟨vs⟩ := vs
    obtain ⟨sl⟩ := sl
    simp only [Bool.and_eq_true, List.isEmpty_iff] at h
    obtain ⟨rfl, rfl⟩ := h
    rfl
  · cases h
def tabsB (g : Addr → Option Obj) (K : PySem.W.Frag) : Bool := (DL.TKc K).all fun t => isTab (g t.1) && ((K.lookup t.1).isNone && PySem.W.codeHdIn K t.2.2 t.1)
/-- the tables stand, empty -/
def TabsThere (K : PySem.W.Frag) (h : Heap) : Prop := ∀ t ∈ DL.TKc K, h.get? t.1 = some { cls := .none, data := .fields #[] } ∧ K.lookup t.1 = none ∧ PySem.W.codeHdIn K t.2.2 t.1 = true
theorem tabs_ok {h : Heap} {K : PySem.W.Frag} (e : tabsB h.get? K = true) : TabsThere K h := fun t ht => by
  have e1 := List.all_eq_true.mp e t ht
  simp only [Bool.and_eq_true] at e1
  exact ⟨isTab_ok e1.1, by simpa using e1.2.1, e1.2.2⟩
theorem look_mem {a : Addr} {o : Obj} : ∀ M : PySem.W.Frag, M.lookup a = some o → (a, o) ∈ M
  | [], e => nomatch e
  | x :: M, e => by
    rw [List.lookup_cons] at e
    split at e
    · rename_i z
      cases e
      have : a = x.1 := by simpa using z
      subst this
      exact List.mem_cons_self
    · exact List.mem_cons_of_mem _ (look_mem M e)
theorem in_marks {K M : PySem.W.Frag} {h : Heap} (k : K.In h) (g : (K.lookup mainGlobals).isSome = true) (m : ∀ e ∈ M, e.1 = mainGlobals) : (K ++ M : PySem.W.Frag).In h := fun a o e => by
  rw [List.lookup_append] at e
  cases q : K.lookup a with
  | some u => rw [q] at e; cases e; exact k _ _ q
  | none =>
    rw [q] at e
    have e : M.lookup a = some o := e
    have : (a, o) ∈ M := look_mem M e
    have z := m _ this
    have z : a = mainGlobals := z
    subst z
    rw [q] at g; cases g
theorem marks_at (K : PySem.W.Frag) (ts : Mks) : ∀ e ∈ marksOf K ts, e.1 = mainGlobals := fun e h => by
  obtain ⟨t, _, rfl⟩ := List.mem_map.mp h
  rfl
/-- what the Hook sees: the part with its marks -/
def withM (K : PySem.W.Frag) (ts : Mks) : PySem.W.Frag := K ++ marksOf K ts
def obsT (fa : List (PySem.W.Frag → Bool)) (ds : List DefX) (ts : Mks) (g : Addr → Option Obj) (K0 : PySem.W.Frag) : Bool × Al := ((K0.lookup mainGlobals).isSome && tabsB g (withM K0 ts), obsK fa ds (withM K0 ts))
/-- the marks, worked out -/
def frM {α : Type} (K : PySem.W.Frag) : Mks → (PySem.W.Frag → α) → α
  | [], k => k []
  | t :: r, k => match tabA K (t.1 K) with
    | (c, P) => HandSHeadRun.frNat P fun P => HandSHeadRun.frNat c fun c => frM K r fun M => k (markO P t.2 c :: M)
theorem frM_eq {α : Type} {K : PySem.W.Frag} : ∀ (ts : Mks) (k : PySem.W.Frag → α), frM K ts k = k (marksOf K ts)
  | [], _ => rfl
  | t :: r, k => by
    unfold frM
    simp only [HandSHeadRun.frNat_eq]
    exact frM_eq r fun M => k (markO _ t.2 _ :: M)
def frA {α : Type} : PySem.W.Frag → PySem.W.Frag → (PySem.W.Frag → α) → α
  | [], M, k => k M
  | e :: r, M, k => frA r M fun R => k (e :: R)
theorem frA_eq {α : Type} : ∀ (K M : PySem.W.Frag) (k : PySem.W.Frag → α), frA K M k = k (K ++ M)
  | [], _, _ => rfl
  | e :: r, M, k => frA_eq r M fun R => k (e :: R)
def obsFT (fa : List (PySem.W.Frag → Bool)) (ds : List DefX) (ts : Mks) (g : Addr → Option Obj) : Bool × Al :=
  asF g fun l => frF g l fun K0 => frM K0 ts fun M => frA K0 M fun K => ((K0.lookup mainGlobals).isSome && tabsB g K, obsK fa ds K)
def hookT (fa : List (PySem.W.Frag → Bool)) (ds : List DefX) (ts : Mks) : PySem.W.Hook where
  α := Bool × Al
  obs := fun s => obsT fa ds ts s.heap.get? (He.frG s.heap.get? (asH s.heap.get?))
  val := fun _ => (true, valK ds)
  says := fun _ h => ∃ K : PySem.W.Frag, K.In h ∧ TabsThere K h ∧ Says fa ds K
  of := fun _ s e => by
    have e1 := congrArg (fun z : Bool × Al => z.1) e
    have e2 := congrArg (fun z : Bool × Al => z.2) e
    have e1 : (((He.frG s.heap.get? (asH s.heap.get?)).lookup mainGlobals).isSome && tabsB s.heap.get? (withM (He.frG s.heap.get? (asH s.heap.get?)) ts)) = true := e1
    obtain ⟨a, b⟩ := Bool.and_eq_true_iff.mp e1
    exact ⟨_, in_marks He.frG_in a (marks_at _ ts), tabs_ok b, e2⟩
  keeps := fun _ _ _ ⟨K, hK, t, c⟩ k => ⟨K, PySem.W.Frag.In.keeps hK k, fun x hx => ⟨k _ _ (t x hx).1, (t x hx).2⟩, c⟩
theorem obsFT_eq {fa : List (PySem.W.Frag → Bool)} {ds : List DefX} {ts : Mks} {g : Addr → Option Obj} {s : Shared} (h : ∀ a, g a = s.heap.get? a) : obsFT fa ds ts g = (hookT fa ds ts).obs s := by
  have e : g = s.heap.get? := funext h
  unfold obsFT
  rw [asF_eq, frF_eq, frM_eq, frA_eq, e]
  rfl
/-- the fact that a def makes lambdas: its code object, the table's mark, the built-ins' module -/
def bmB (K : PySem.W.Frag) (P : Addr) : Bool := match PySem.W.nsIn K mainGlobals "__builtins__" with
  | some (some (.ref bm)) => (!Nat.beq bm builtinsNs) && ((!Nat.beq bm mainGlobals) && ((!Nat.beq bm P) && (match K.lookup bm with
    | some ⟨.type n, some d, .plain, _⟩ => (n == "module") && Nat.beq d builtinsNs
    | _ => false)))
  | _ => false
def tabB (K : PySem.W.Frag) (f : Addr) (q : Str) : Bool := match K.lookup f with
  | some ⟨_, _, .func fd, _⟩ => (match fd.code with
    | .ref c => PySem.W.codeHdIn K c (tabA K f).2 && (((DL.TK K).any fun p => Nat.beq p.1 (tabA K f).2 && (p.2 == q)) && (((DL.TK K).all fun p => !Nat.beq p.1 (tabA K f).2 || (p.2 == q)) && (bmB K (tabA K f).2 && !Nat.beq mainGlobals (tabA K f).2)))
    | _ => false)
  | _ => false
section
variable {fa : List (PySem.W.Frag → Bool)} {ds : List DefX} {K : PySem.W.Frag}
theorem Says.fact (c : Says fa ds K) (i : Nat) {f : PySem.W.Frag → Bool} (h : fa[i]? = some f) : f K = true :=
  List.all_eq_true.mp (show (fa.all fun f => f K) = true from congrArg (fun z : Al => z.1) c) f (List.mem_of_getElem? h)
theorem Says.def_ (c : Says fa ds K) (i : Nat) {d : DefX} (h : ds[i]? = some d) : fnX K (d.ad K) = d.val := by
  have e : ds.map (fun d => fnX K (d.ad K)) = ds.map DefX.val := congrArg (fun z : Al => z.2) c
  have e2 : (ds.map fun d => fnX K (d.ad K))[i]? = (ds.map DefX.val)[i]? := by rw [e]
  rw [List.getElem?_map, List.getElem?_map, h] at e2
  exact Option.some.inj e2
end
end DH

namespace LAW
open PySem L2
open PyProof.Rows hiding St
def top (i : Nat) : Stmt := PySem.Challenge.pw_pullplain_k03_states_put_together.main.body.getD i (.Pass ⟨0, 0, 0, 0⟩)
abbrev s_l_pen : Stmt := (top 31)
abbrev s_l_draw : Stmt := (top 32)
abbrev s_l_pulls : Stmt := (top 33)
abbrev s_l_place : Stmt := (top 35)
abbrev s_l_counts : Stmt := (top 34)
abbrev s_l_deal : Stmt := (top 36)
abbrev s_is_integer : Stmt := (top 8)
abbrev s_is_pair : Stmt := (top 9)
abbrev s_is_pull : Stmt := (top 10)
abbrev s_Field___init__ : Stmt := (inClass (top 11) 2)
abbrev s_l_field : Stmt := (top 37)
abbrev s_Field_kinds : Stmt := (inClass (top 11) 5)
abbrev s_are_counts : Stmt := (top 24)
abbrev s_is_piece : Stmt := (top 25)
abbrev s_added : Stmt := (top 27)
abbrev s_merged : Stmt := (top 28)
abbrev s_State___init__ : Stmt := (inClass (top 29) 0)
abbrev s_l_made : Stmt := (top 39)
abbrev s_l_laid : Stmt := (top 38)
abbrev s_State_parts : Stmt := (inClass (top 29) 7)
abbrev s_State_position : Stmt := (inClass (top 29) 5)
abbrev s_State_pieces : Stmt := (inClass (top 29) 6)
abbrev s_State___len__ : Stmt := (inClass (top 29) 11)
abbrev s_Field___eq__ : Stmt := (inClass (top 11) 3)
abbrev s_State_field : Stmt := (inClass (top 29) 4)
abbrev s_State___getitem__ : Stmt := (inClass (top 29) 12)
abbrev s_State___contains__ : Stmt := (inClass (top 29) 13)
abbrev s_l_places_right : Stmt := (top 40)
abbrev s_State___eq__ : Stmt := (inClass (top 29) 10)
abbrev s_State_totals : Stmt := (inClass (top 29) 8)
abbrev s_State_velocity : Stmt := (inClass (top 29) 9)
abbrev s_State_shifted : Stmt := (inClass (top 29) 16)
abbrev s_l_moved : Stmt := (top 41)
abbrev s_State_empty : Stmt := (inClass (top 29) 1)
abbrev s_l_right : Stmt := (top 42)
abbrev s_law : Stmt := (top 43)
abbrev hC0 (K : PySem.W.Frag) : Addr := He.ga K "Field"
abbrev hC1 (K : PySem.W.Frag) : Addr := He.ga K "State"
abbrev hf0 (K : PySem.W.Frag) : Addr := He.ga K "_law_pen"
abbrev hf1 (K : PySem.W.Frag) : Addr := He.ga K "_law_draw"
abbrev hf2 (K : PySem.W.Frag) : Addr := He.ga K "_law_pulls"
abbrev hf3 (K : PySem.W.Frag) : Addr := He.ga K "_law_place"
abbrev hf4 (K : PySem.W.Frag) : Addr := He.ga K "_law_counts"
abbrev hf5 (K : PySem.W.Frag) : Addr := He.ga K "_law_deal"
abbrev hf6 (K : PySem.W.Frag) : Addr := He.ga K "is_integer"
abbrev hf7 (K : PySem.W.Frag) : Addr := He.ga K "is_pair"
abbrev hf8 (K : PySem.W.Frag) : Addr := He.ga K "is_pull"
abbrev hf9 (K : PySem.W.Frag) : Addr := He.ma K (hC0 K) "__init__"
abbrev hf10 (K : PySem.W.Frag) : Addr := He.ga K "_law_field"
abbrev hq11 (K : PySem.W.Frag) : Addr := He.ma K (hC0 K) "kinds"
abbrev hf11 (K : PySem.W.Frag) : Addr := DH.recF K (hq11 K) "property"
abbrev hf12 (K : PySem.W.Frag) : Addr := He.ga K "are_counts"
abbrev hf13 (K : PySem.W.Frag) : Addr := He.ga K "is_piece"
abbrev hf14 (K : PySem.W.Frag) : Addr := He.ga K "added"
abbrev hf15 (K : PySem.W.Frag) : Addr := He.ga K "merged"
abbrev hf16 (K : PySem.W.Frag) : Addr := He.ma K (hC1 K) "__init__"
abbrev hf17 (K : PySem.W.Frag) : Addr := He.ga K "_law_made"
abbrev hf18 (K : PySem.W.Frag) : Addr := He.ga K "_law_laid"
abbrev hq19 (K : PySem.W.Frag) : Addr := He.ma K (hC1 K) "parts"
abbrev hf19 (K : PySem.W.Frag) : Addr := DH.recF K (hq19 K) "property"
abbrev hq20 (K : PySem.W.Frag) : Addr := He.ma K (hC1 K) "position"
abbrev hf20 (K : PySem.W.Frag) : Addr := DH.recF K (hq20 K) "property"
abbrev hq21 (K : PySem.W.Frag) : Addr := He.ma K (hC1 K) "pieces"
abbrev hf21 (K : PySem.W.Frag) : Addr := DH.recF K (hq21 K) "property"
abbrev hf22 (K : PySem.W.Frag) : Addr := He.ma K (hC1 K) "__len__"
abbrev hf23 (K : PySem.W.Frag) : Addr := He.ma K (hC0 K) "__eq__"
abbrev hq24 (K : PySem.W.Frag) : Addr := He.ma K (hC1 K) "field"
abbrev hf24 (K : PySem.W.Frag) : Addr := DH.recF K (hq24 K) "property"
abbrev hf25 (K : PySem.W.Frag) : Addr := He.ma K (hC1 K) "__getitem__"
abbrev hf26 (K : PySem.W.Frag) : Addr := He.ma K (hC1 K) "__contains__"
abbrev hf27 (K : PySem.W.Frag) : Addr := He.ga K "_law_places_right"
abbrev hf28 (K : PySem.W.Frag) : Addr := He.ma K (hC1 K) "__eq__"
abbrev hq29 (K : PySem.W.Frag) : Addr := He.ma K (hC1 K) "totals"
abbrev hf29 (K : PySem.W.Frag) : Addr := DH.recF K (hq29 K) "property"
abbrev hq30 (K : PySem.W.Frag) : Addr := He.ma K (hC1 K) "velocity"
abbrev hf30 (K : PySem.W.Frag) : Addr := DH.recF K (hq30 K) "property"
abbrev hf31 (K : PySem.W.Frag) : Addr := He.ma K (hC1 K) "shifted"
abbrev hf32 (K : PySem.W.Frag) : Addr := He.ga K "_law_moved"
abbrev hq33 (K : PySem.W.Frag) : Addr := DH.cmQ K (hC1 K) "empty"
abbrev hf33 (K : PySem.W.Frag) : Addr := DH.recF K (hq33 K) "classmethod"
abbrev hf34 (K : PySem.W.Frag) : Addr := He.ga K "_law_right"
abbrev hf35 (K : PySem.W.Frag) : Addr := He.ga K "law"
def hfa : List (PySem.W.Frag → Bool) := [fun K => decide ((PySem.W.nsIn K mainGlobals "Field" = some (some (.ref (hC0 K)))) ∧ (PySem.W.plainGet K (hC0 K) Str.empty = true) ∧ (PySem.W.hasDictIn K (hC0 K) = true) ∧ (PySem.W.plainOver K (hC0 K) = true) ∧ (PySem.W.findIn K (.ref (hC0 K)) "__setattr__" = some (some (.builtin "object.__setattr__"))) ∧ (PySem.W.makesIn K (hC0 K) = true) ∧ (PySem.W.keepIn K (.ref (hC0 K)) = true) ∧ (PySem.W.readsIn K (hC0 K) (.type "type") = true)),
  fun K => decide ((PySem.W.specialIn K (.ref (hC0 K)) "__getattribute__" = some (some (.builtin "type.__getattribute__")))),
  fun K => DH.cvB K (hC0 K) "GREATEST" (9 : Int),
  fun K => DH.cvB K (hC0 K) "MOST_KINDS" (4 : Int),
  fun K => decide ((PySem.W.mroIn K (hC0 K) (.type "object") = some true) ∧ (PySem.W.findIn K (.ref (hC0 K)) "__ne__" = some (some (.builtin "object.__ne__"))) ∧ (PySem.W.mroIn K (hC0 K) (.type "NoneType") = some false) ∧ (PySem.W.mroIn K (hC0 K) (.type "int") = some false) ∧ (PySem.W.mroIn K (hC0 K) (.type "tuple") = some false) ∧ (PySem.W.findIn K (.ref (hC0 K)) "__class__" = some (some (.builtin "object.__class__"))) ∧ (PySem.W.specialIn K (.builtin "object.__class__") "__get__" = some (some (.builtin "getset_descriptor.__get__"))) ∧ (PySem.W.takesIn K (.builtin "object.__class__") = some true)),
  fun K => decide ((PySem.W.kitOne K (.type "NoneType") (.ref (hC0 K)) = some false) ∧ (PySem.W.kitOne K (.type "int") (.ref (hC0 K)) = some false) ∧ (PySem.W.kitOne K (.type "tuple") (.ref (hC0 K)) = some false) ∧ (PySem.W.findIn K (.ref (hC0 K)) "vectors" = some none) ∧ (PySem.W.nsIn K mainGlobals "State" = some (some (.ref (hC1 K)))) ∧ (PySem.W.plainGet K (hC1 K) Str.empty = true) ∧ (PySem.W.hasDictIn K (hC1 K) = true) ∧ (PySem.W.plainOver K (hC1 K) = true)),
  fun K => decide ((PySem.W.findIn K (.ref (hC1 K)) "__setattr__" = some (some (.builtin "object.__setattr__"))) ∧ (PySem.W.makesIn K (hC1 K) = true) ∧ (PySem.W.keepIn K (.ref (hC1 K)) = true) ∧ (PySem.W.readsIn K (hC1 K) (.type "type") = true) ∧ (PySem.W.specialIn K (.ref (hC1 K)) "__getattribute__" = some (some (.builtin "type.__getattribute__"))) ∧ (PySem.W.mroIn K (hC1 K) (.type "object") = some true) ∧ (PySem.W.findIn K (.ref (hC1 K)) "__ne__" = some (some (.builtin "object.__ne__"))) ∧ (PySem.W.mroIn K (hC1 K) (.type "NoneType") = some false)),
  fun K => decide ((PySem.W.mroIn K (hC1 K) (.type "int") = some false) ∧ (PySem.W.mroIn K (hC1 K) (.type "tuple") = some false) ∧ (PySem.W.findIn K (.ref (hC1 K)) "__class__" = some (some (.builtin "object.__class__"))) ∧ (PySem.W.specialIn K (.builtin "object.__class__") "__get__" = some (some (.builtin "getset_descriptor.__get__"))) ∧ (PySem.W.takesIn K (.builtin "object.__class__") = some true) ∧ (PySem.W.kitOne K (.type "NoneType") (.ref (hC1 K)) = some false) ∧ (PySem.W.kitOne K (.type "int") (.ref (hC1 K)) = some false) ∧ (PySem.W.kitOne K (.type "tuple") (.ref (hC1 K)) = some false)),
  fun K => decide ((PySem.W.findIn K (.ref (hC1 K)) "ground" = some none) ∧ (PySem.W.findIn K (.ref (hC1 K)) "key" = some none) ∧ (PySem.W.findIn K (.ref (hC1 K)) "laid" = some none) ∧ (PySem.W.findIn K (.ref (hC1 K)) "rows" = some none) ∧ (PySem.W.findIn K (.ref (hC1 K)) "stand" = some none) ∧ (PySem.W.nsIn K mainGlobals "_law_pen" = some (some (.ref (hf0 K))))),
  fun K => DH.codeB K (hf0 K) "_law_pen",
  fun K => DH.isNone (DH.dvOf K (hf0 K)),
  fun K => decide ((PySem.W.keepIn K (.ref (hf0 K)) = true) ∧ (PySem.W.nsIn K mainGlobals "_law_draw" = some (some (.ref (hf1 K))))),
  fun K => DH.codeB K (hf1 K) "_law_draw",
  fun K => DH.isNone (DH.dvOf K (hf1 K)),
  fun K => decide ((PySem.W.keepIn K (.ref (hf1 K)) = true) ∧ (PySem.W.nsIn K mainGlobals "_law_pulls" = some (some (.ref (hf2 K))))),
  fun K => DH.codeB K (hf2 K) "_law_pulls",
  fun K => DH.isNone (DH.dvOf K (hf2 K)),
  fun K => decide ((PySem.W.keepIn K (.ref (hf2 K)) = true) ∧ (PySem.W.nsIn K mainGlobals "_law_place" = some (some (.ref (hf3 K))))),
  fun K => DH.codeB K (hf3 K) "_law_place",
  fun K => DH.isNone (DH.dvOf K (hf3 K)),
  fun K => decide ((PySem.W.keepIn K (.ref (hf3 K)) = true) ∧ (PySem.W.nsIn K mainGlobals "_law_counts" = some (some (.ref (hf4 K))))),
  fun K => DH.codeB K (hf4 K) "_law_counts",
  fun K => DH.isNone (DH.dvOf K (hf4 K)),
  fun K => decide ((PySem.W.keepIn K (.ref (hf4 K)) = true) ∧ (PySem.W.nsIn K mainGlobals "_law_deal" = some (some (.ref (hf5 K))))),
  fun K => DH.codeB K (hf5 K) "_law_deal",
  fun K => DH.isNone (DH.dvOf K (hf5 K)),
  fun K => decide ((PySem.W.keepIn K (.ref (hf5 K)) = true) ∧ (PySem.W.nsIn K mainGlobals "is_integer" = some (some (.ref (hf6 K))))),
  fun K => DH.codeB K (hf6 K) "is_integer",
  fun K => DH.isNone (DH.dvOf K (hf6 K)),
  fun K => decide ((PySem.W.keepIn K (.ref (hf6 K)) = true) ∧ (PySem.W.nsIn K mainGlobals "is_pair" = some (some (.ref (hf7 K))))),
  fun K => DH.codeB K (hf7 K) "is_pair",
  fun K => DH.isNone (DH.dvOf K (hf7 K)),
  fun K => decide ((PySem.W.keepIn K (.ref (hf7 K)) = true) ∧ (PySem.W.nsIn K mainGlobals "is_pull" = some (some (.ref (hf8 K))))),
  fun K => DH.codeB K (hf8 K) "is_pull",
  fun K => DH.isNone (DH.dvOf K (hf8 K)),
  fun K => decide ((PySem.W.keepIn K (.ref (hf8 K)) = true) ∧ (PySem.W.findIn K (.ref (hC0 K)) "__init__" = some (some (.ref (hf9 K)))) ∧ (PySem.W.isFn K (.ref (hf9 K)) = true)),
  fun K => DH.codeB K (hf9 K) "Field.__init__",
  fun K => DH.isNone (DH.dvOf K (hf9 K)),
  fun K => decide ((PySem.W.keepIn K (.ref (hf9 K)) = true) ∧ (PySem.W.nsIn K mainGlobals "_law_field" = some (some (.ref (hf10 K))))),
  fun K => DH.codeB K (hf10 K) "_law_field",
  fun K => DH.isNone (DH.dvOf K (hf10 K)),
  fun K => decide ((PySem.W.keepIn K (.ref (hf10 K)) = true) ∧ (PySem.W.findIn K (.ref (hC0 K)) "kinds" = some (some (.ref (hq11 K)))) ∧ (PySem.W.specialIn K (.ref (hq11 K)) "__get__" = some (some (.builtin "property.__get__"))) ∧ (PySem.W.takesIn K (.ref (hq11 K)) = some true)),
  fun K => DH.recB K (hq11 K) "property",
  fun K => DH.codeB K (hf11 K) "Field.kinds",
  fun K => DH.isNone (DH.dvOf K (hf11 K)),
  fun K => decide ((PySem.W.keepIn K (.ref (hf11 K)) = true) ∧ (PySem.W.nsIn K mainGlobals "are_counts" = some (some (.ref (hf12 K))))),
  fun K => DH.codeB K (hf12 K) "are_counts",
  fun K => DH.isNone (DH.dvOf K (hf12 K)),
  fun K => decide ((PySem.W.keepIn K (.ref (hf12 K)) = true) ∧ (PySem.W.nsIn K mainGlobals "is_piece" = some (some (.ref (hf13 K))))),
  fun K => DH.codeB K (hf13 K) "is_piece",
  fun K => DH.isNone (DH.dvOf K (hf13 K)),
  fun K => decide ((PySem.W.keepIn K (.ref (hf13 K)) = true) ∧ (PySem.W.nsIn K mainGlobals "added" = some (some (.ref (hf14 K))))),
  fun K => DH.codeB K (hf14 K) "added",
  fun K => DH.isNone (DH.dvOf K (hf14 K)),
  fun K => decide ((PySem.W.keepIn K (.ref (hf14 K)) = true) ∧ (PySem.W.nsIn K mainGlobals "merged" = some (some (.ref (hf15 K))))),
  fun K => DH.codeB K (hf15 K) "merged",
  fun K => DH.isNone (DH.dvOf K (hf15 K)),
  fun K => decide ((PySem.W.keepIn K (.ref (hf15 K)) = true) ∧ (PySem.W.findIn K (.ref (hC1 K)) "__init__" = some (some (.ref (hf16 K)))) ∧ (PySem.W.isFn K (.ref (hf16 K)) = true)),
  fun K => DH.codeB K (hf16 K) "State.__init__",
  fun K => DH.isNone (DH.dvOf K (hf16 K)),
  fun K => decide ((PySem.W.keepIn K (.ref (hf16 K)) = true) ∧ (PySem.W.nsIn K mainGlobals "_law_made" = some (some (.ref (hf17 K))))),
  fun K => DH.codeB K (hf17 K) "_law_made",
  fun K => DH.isNone (DH.dvOf K (hf17 K)),
  fun K => decide ((PySem.W.keepIn K (.ref (hf17 K)) = true) ∧ (PySem.W.nsIn K mainGlobals "_law_laid" = some (some (.ref (hf18 K))))),
  fun K => DH.codeB K (hf18 K) "_law_laid",
  fun K => DH.isNone (DH.dvOf K (hf18 K)),
  fun K => decide ((PySem.W.keepIn K (.ref (hf18 K)) = true) ∧ (PySem.W.findIn K (.ref (hC1 K)) "parts" = some (some (.ref (hq19 K)))) ∧ (PySem.W.specialIn K (.ref (hq19 K)) "__get__" = some (some (.builtin "property.__get__"))) ∧ (PySem.W.takesIn K (.ref (hq19 K)) = some true)),
  fun K => DH.recB K (hq19 K) "property",
  fun K => DH.codeB K (hf19 K) "State.parts",
  fun K => DH.isNone (DH.dvOf K (hf19 K)),
  fun K => decide ((PySem.W.keepIn K (.ref (hf19 K)) = true) ∧ (PySem.W.findIn K (.ref (hC1 K)) "position" = some (some (.ref (hq20 K)))) ∧ (PySem.W.specialIn K (.ref (hq20 K)) "__get__" = some (some (.builtin "property.__get__"))) ∧ (PySem.W.takesIn K (.ref (hq20 K)) = some true)),
  fun K => DH.recB K (hq20 K) "property",
  fun K => DH.codeB K (hf20 K) "State.position",
  fun K => DH.isNone (DH.dvOf K (hf20 K)),
  fun K => decide ((PySem.W.keepIn K (.ref (hf20 K)) = true) ∧ (PySem.W.findIn K (.ref (hC1 K)) "pieces" = some (some (.ref (hq21 K)))) ∧ (PySem.W.specialIn K (.ref (hq21 K)) "__get__" = some (some (.builtin "property.__get__"))) ∧ (PySem.W.takesIn K (.ref (hq21 K)) = some true)),
  fun K => DH.recB K (hq21 K) "property",
  fun K => DH.codeB K (hf21 K) "State.pieces",
  fun K => DH.isNone (DH.dvOf K (hf21 K)),
  fun K => decide ((PySem.W.keepIn K (.ref (hf21 K)) = true) ∧ (PySem.W.findIn K (.ref (hC1 K)) "__len__" = some (some (.ref (hf22 K)))) ∧ (PySem.W.isFn K (.ref (hf22 K)) = true)),
  fun K => DH.codeB K (hf22 K) "State.__len__",
  fun K => DH.isNone (DH.dvOf K (hf22 K)),
  fun K => decide ((PySem.W.keepIn K (.ref (hf22 K)) = true) ∧ (PySem.W.findIn K (.ref (hC0 K)) "__eq__" = some (some (.ref (hf23 K)))) ∧ (PySem.W.isFn K (.ref (hf23 K)) = true)),
  fun K => DH.codeB K (hf23 K) "Field.__eq__",
  fun K => DH.isNone (DH.dvOf K (hf23 K)),
  fun K => decide ((PySem.W.keepIn K (.ref (hf23 K)) = true) ∧ (PySem.W.findIn K (.ref (hC1 K)) "field" = some (some (.ref (hq24 K)))) ∧ (PySem.W.specialIn K (.ref (hq24 K)) "__get__" = some (some (.builtin "property.__get__"))) ∧ (PySem.W.takesIn K (.ref (hq24 K)) = some true)),
  fun K => DH.recB K (hq24 K) "property",
  fun K => DH.codeB K (hf24 K) "State.field",
  fun K => DH.isNone (DH.dvOf K (hf24 K)),
  fun K => decide ((PySem.W.keepIn K (.ref (hf24 K)) = true) ∧ (PySem.W.findIn K (.ref (hC1 K)) "__getitem__" = some (some (.ref (hf25 K)))) ∧ (PySem.W.isFn K (.ref (hf25 K)) = true) ∧ (PySem.W.fnIn K (hf25 K) = true)),
  fun K => DH.codeB K (hf25 K) "State.__getitem__",
  fun K => DH.isNone (DH.dvOf K (hf25 K)),
  fun K => decide ((PySem.W.keepIn K (.ref (hf25 K)) = true) ∧ (PySem.W.findIn K (.ref (hC1 K)) "__contains__" = some (some (.ref (hf26 K)))) ∧ (PySem.W.isFn K (.ref (hf26 K)) = true)),
  fun K => DH.codeB K (hf26 K) "State.__contains__",
  fun K => DH.isNone (DH.dvOf K (hf26 K)),
  fun K => decide ((PySem.W.keepIn K (.ref (hf26 K)) = true) ∧ (PySem.W.nsIn K mainGlobals "_law_places_right" = some (some (.ref (hf27 K))))),
  fun K => DH.codeB K (hf27 K) "_law_places_right",
  fun K => DH.isNone (DH.dvOf K (hf27 K)),
  fun K => decide ((PySem.W.keepIn K (.ref (hf27 K)) = true) ∧ (PySem.W.findIn K (.ref (hC1 K)) "__eq__" = some (some (.ref (hf28 K)))) ∧ (PySem.W.isFn K (.ref (hf28 K)) = true)),
  fun K => DH.codeB K (hf28 K) "State.__eq__",
  fun K => DH.isNone (DH.dvOf K (hf28 K)),
  fun K => decide ((PySem.W.keepIn K (.ref (hf28 K)) = true) ∧ (PySem.W.findIn K (.ref (hC1 K)) "totals" = some (some (.ref (hq29 K)))) ∧ (PySem.W.specialIn K (.ref (hq29 K)) "__get__" = some (some (.builtin "property.__get__"))) ∧ (PySem.W.takesIn K (.ref (hq29 K)) = some true)),
  fun K => DH.recB K (hq29 K) "property",
  fun K => DH.codeB K (hf29 K) "State.totals",
  fun K => DH.isNone (DH.dvOf K (hf29 K)),
  fun K => decide ((PySem.W.keepIn K (.ref (hf29 K)) = true) ∧ (PySem.W.findIn K (.ref (hC1 K)) "velocity" = some (some (.ref (hq30 K)))) ∧ (PySem.W.specialIn K (.ref (hq30 K)) "__get__" = some (some (.builtin "property.__get__"))) ∧ (PySem.W.takesIn K (.ref (hq30 K)) = some true)),
  fun K => DH.recB K (hq30 K) "property",
  fun K => DH.codeB K (hf30 K) "State.velocity",
  fun K => DH.isNone (DH.dvOf K (hf30 K)),
  fun K => decide ((PySem.W.keepIn K (.ref (hf30 K)) = true) ∧ (PySem.W.findIn K (.ref (hC1 K)) "shifted" = some (some (.ref (hf31 K)))) ∧ (PySem.W.isFn K (.ref (hf31 K)) = true)),
  fun K => DH.codeB K (hf31 K) "State.shifted",
  fun K => DH.isNone (DH.dvOf K (hf31 K)),
  fun K => decide ((PySem.W.keepIn K (.ref (hf31 K)) = true) ∧ (PySem.W.nsIn K mainGlobals "_law_moved" = some (some (.ref (hf32 K))))),
  fun K => DH.codeB K (hf32 K) "_law_moved",
  fun K => DH.isNone (DH.dvOf K (hf32 K)),
  fun K => decide ((PySem.W.keepIn K (.ref (hf32 K)) = true)),
  fun K => DH.cmB K (hC1 K) "empty",
  fun K => DH.recB K (hq33 K) "classmethod",
  fun K => decide ((PySem.W.fnIn K (hf33 K) = true)),
  fun K => DH.codeB K (hf33 K) "State.empty",
  fun K => DH.dfTB K [0, 0] (DH.dvOf K (hf33 K)),
  fun K => decide ((PySem.W.keepIn K (.ref (hf33 K)) = true) ∧ (PySem.W.nsIn K mainGlobals "_law_right" = some (some (.ref (hf34 K))))),
  fun K => DH.codeB K (hf34 K) "_law_right",
  fun K => DH.isNone (DH.dvOf K (hf34 K)),
  fun K => decide ((PySem.W.keepIn K (.ref (hf34 K)) = true) ∧ (PySem.W.nsIn K mainGlobals "law" = some (some (.ref (hf35 K))))),
  fun K => DH.codeB K (hf35 K) "law",
  fun K => DH.isNone (DH.dvOf K (hf35 K)),
  fun K => decide ((PySem.W.keepIn K (.ref (hf35 K)) = true) ∧ (PySem.W.nsIn K mainGlobals "abs" = some none) ∧ (PySem.W.nsIn K mainGlobals "all" = some none) ∧ (PySem.W.nsIn K mainGlobals "any" = some none) ∧ (PySem.W.nsIn K mainGlobals "bool" = some none) ∧ (PySem.W.nsIn K mainGlobals "dict" = some none) ∧ (PySem.W.nsIn K mainGlobals "int" = some none) ∧ (PySem.W.nsIn K mainGlobals "isinstance" = some none)),
  fun K => decide ((PySem.W.nsIn K mainGlobals "len" = some none) ∧ (PySem.W.nsIn K mainGlobals "list" = some none) ∧ (PySem.W.nsIn K mainGlobals "max" = some none) ∧ (PySem.W.nsIn K mainGlobals "range" = some none) ∧ (PySem.W.nsIn K mainGlobals "repr" = some none) ∧ (PySem.W.nsIn K mainGlobals "sorted" = some none) ∧ (PySem.W.nsIn K mainGlobals "sum" = some none) ∧ (PySem.W.nsIn K mainGlobals "tuple" = some none)),
  fun K => decide ((PySem.W.nsIn K mainGlobals "zip" = some none))]
def hds : List DH.DefX := [⟨fun K => hf0 K, "_law_pen", "_law_pen", s_l_pen⟩,
  ⟨fun K => hf1 K, "_law_draw", "_law_draw", s_l_draw⟩,
  ⟨fun K => hf2 K, "_law_pulls", "_law_pulls", s_l_pulls⟩,
  ⟨fun K => hf3 K, "_law_place", "_law_place", s_l_place⟩,
  ⟨fun K => hf4 K, "_law_counts", "_law_counts", s_l_counts⟩,
  ⟨fun K => hf5 K, "_law_deal", "_law_deal", s_l_deal⟩,
  ⟨fun K => hf6 K, "is_integer", "is_integer", s_is_integer⟩,
  ⟨fun K => hf7 K, "is_pair", "is_pair", s_is_pair⟩,
  ⟨fun K => hf8 K, "is_pull", "is_pull", s_is_pull⟩,
  ⟨fun K => hf9 K, "__init__", "Field.__init__", s_Field___init__⟩,
  ⟨fun K => hf10 K, "_law_field", "_law_field", s_l_field⟩,
  ⟨fun K => hf11 K, "kinds", "Field.kinds", s_Field_kinds⟩,
  ⟨fun K => hf12 K, "are_counts", "are_counts", s_are_counts⟩,
  ⟨fun K => hf13 K, "is_piece", "is_piece", s_is_piece⟩,
  ⟨fun K => hf14 K, "added", "added", s_added⟩,
  ⟨fun K => hf15 K, "merged", "merged", s_merged⟩,
  ⟨fun K => hf16 K, "__init__", "State.__init__", s_State___init__⟩,
  ⟨fun K => hf17 K, "_law_made", "_law_made", s_l_made⟩,
  ⟨fun K => hf18 K, "_law_laid", "_law_laid", s_l_laid⟩,
  ⟨fun K => hf19 K, "parts", "State.parts", s_State_parts⟩,
  ⟨fun K => hf20 K, "position", "State.position", s_State_position⟩,
  ⟨fun K => hf21 K, "pieces", "State.pieces", s_State_pieces⟩,
  ⟨fun K => hf22 K, "__len__", "State.__len__", s_State___len__⟩,
  ⟨fun K => hf23 K, "__eq__", "Field.__eq__", s_Field___eq__⟩,
  ⟨fun K => hf24 K, "field", "State.field", s_State_field⟩,
  ⟨fun K => hf25 K, "__getitem__", "State.__getitem__", s_State___getitem__⟩,
  ⟨fun K => hf26 K, "__contains__", "State.__contains__", s_State___contains__⟩,
  ⟨fun K => hf27 K, "_law_places_right", "_law_places_right", s_l_places_right⟩,
  ⟨fun K => hf28 K, "__eq__", "State.__eq__", s_State___eq__⟩,
  ⟨fun K => hf29 K, "totals", "State.totals", s_State_totals⟩,
  ⟨fun K => hf30 K, "velocity", "State.velocity", s_State_velocity⟩,
  ⟨fun K => hf31 K, "shifted", "State.shifted", s_State_shifted⟩,
  ⟨fun K => hf32 K, "_law_moved", "_law_moved", s_l_moved⟩,
  ⟨fun K => hf33 K, "empty", "State.empty", s_State_empty⟩,
  ⟨fun K => hf34 K, "_law_right", "_law_right", s_l_right⟩,
  ⟨fun K => hf35 K, "law", "law", s_law⟩]
def hnames0 : List PySem.Str := ["_wall", "PlainError", "InvalidPulls", "InvalidState", "InvalidDeed", "InvalidText", "is_integer", "is_pair", "is_pull", "Field", "DIGITS", "MOST_PULLS", "GREATEST_PULL", "number_in", "numbers_in", "pair_in", "pulls_in", "position_in", "piece_in", "state_in", "are_counts", "is_piece", "are_pieces", "added", "merged", "State", "_law_pen", "_law_draw", "_law_pulls", "_law_counts"]
def hnames1 : List PySem.Str := ["_law_place", "_law_deal", "_law_field", "_law_laid", "_law_made", "_law_places_right", "_law_moved", "_law_right"]
def hnames : List PySem.Str := hnames0 ++ hnames1
abbrev hR : PySem.W.OpenRow := PySem.W.OpenLaw.row PySem.Challenge.rw_pullplain_k03_states_put_together
abbrev hqv : Program := PySem.W.view hR.prog [43]
def hts : DH.Mks := []
abbrev hhk : PySem.W.Hook := DH.hookT hfa hds hts
def hob (s : PySem.W.SharedT) : Bool × DH.Al := DH.obsFT hfa hds hts (HandSHeadRun.getT s)
theorem hob_eq (s : PySem.W.SharedT) : hob s = hhk.obs s.abs := DH.obsFT_eq (HandSHeadRun.getT_eq s)
set_option maxHeartbeats 0 in
theorem hrun (w : World) : HandSHeadRun.RunEq hR hqv hhk hob 15000 hnames w := by
  intro os
  kernel_rfl
set_option maxHeartbeats 0 in
theorem hopen (h : (PySem.W.OpenLaw.row PySem.Challenge.rw_pullplain_k03_states_put_together).wellSaid = true → (PySem.W.OpenLaw.row PySem.Challenge.rw_pullplain_k03_states_put_together).Holds) : PySem.Challenge.rw_pullplain_k03_states_put_together.Holds := by
  w_on; o_law
  exact h (by assumption)
end LAW
/-! DL0: data over the abstract heap: D, Is, the environment's invariant EnvOk, how it is carried. -/
namespace DL
open PySem L2

/-- a dict -/
def isDO : HO → Bool
  | .dK _ => true
  | .dT _ => true
  | _ => false
/-- the same object, or the same dict locked -/
def Fz (o o' : HO) : Prop := o' = o ∨ (isDO o = true ∧ ∃ od, o' = .frz od o)
theorem Fz.trans {a b c : HO} (x : Fz a b) (y : Fz b c) : Fz a c := by
  rcases x with rfl | ⟨d, od, rfl⟩
  · exact y
  · rcases y with rfl | ⟨e, _⟩
    · exact .inr ⟨d, od, rfl⟩
    · cases e
def Sub (H H' : Hp) : Prop := ∀ a o, H a = some o → ∃ o', H' a = some o' ∧ Fz o o'
theorem Sub.refl (H : Hp) : Sub H H := fun _ o h => ⟨o, h, .inl rfl⟩
theorem Sub.trans {H H1 H2 : Hp} (a : Sub H H1) (b : Sub H1 H2) : Sub H H2 := fun x o h => by
  obtain ⟨o1, h1, f1⟩ := a x o h
  obtain ⟨o2, h2, f2⟩ := b x o1 h1
  exact ⟨o2, h2, f1.trans f2⟩
/-- an exception object that is known: its class, its dict -/
def XcO (cls : Value) (d : Option Addr) (a : Addr) : HO := .ext fun h => ∃ (oe : Obj) (vs : Array Value), h.get? a = some oe ∧ Zc cls d oe ∧ oe.data = .fields vs
/-- the class of that name -/
def IsCl (K : PySem.W.Frag) (n : Str) (C : Addr) : Prop := PySem.W.nsIn K mainGlobals n = some (some (.ref C))
theorem IsCl.eq {K : PySem.W.Frag} {n : Str} {C C' : Addr} (h : IsCl K n C) (h' : IsCl K n C') : C = C' := by
  unfold IsCl at h h'
  rw [h] at h'
  cases h'; rfl
/-- plain data -/
inductive D where
  | non | bl (b : Bool) | int (i : Int) | str (s : Str) | ty (n : String) | fn (a : Addr)
  /-- a class of the module -/
  | cl (n : Str)
  | tup (ds : List D) | lst (ds : List D)
  /-- a tuple of the module's own, the script: read only -/
  | ktp (ds : List D) | slst (ds : List D)
  | dk (kvs : List (Key × D)) | dt (kvs : List (List Key × D))
  | obj (C : Str) (fs : List (Str × D))
  /-- a dict, an object, one of whose parts is a cell of its own: the one at k, at m; it stands at q -/
  | nest (q : Addr) (k : Key) (kvs : List (Key × D))
  /-- the same, the part at k locked -/
  | nestL (q : Addr) (u : HO) (k : Key) (kvs : List (Key × D))
  | nobj (qs : List (Str × Addr)) (C : Str) (fs : List (Str × D))
  /-- an exception that was caught -/
  | xc (C : Str) (fs : List (Str × D))
  /-- a thing that is only handed on: its object, what is known of it -/
  | lam (f : Addr) (φ : Hp → Prop)

/-- a tuple without a dict of its own: made here and frozen, or the module's -/
def CqT (K : PySem.W.Frag) (H : Hp) (a : Addr) (xs : List V) : Prop :=
  (∃ o : Obj, H a = some (.frz o (.tup xs)) ∧ o.dict = none) ∨
    ∃ (o : Obj) (its : Array Value) (n : Nat), K.lookup a = some o ∧ o.cls = .type "tuple" ∧ o.dict = none ∧ o.data = .seq its n ∧ its.size ≤ sizeLine ∧ Vals xs its.toList
theorem CqT.sq {K : PySem.W.Frag} {H : Hp} {a : Addr} {xs : List V} (h : CqT K H a xs) : SqT K H a xs := by
  rcases h with ⟨o, h, _⟩ | ⟨o, its, n, h1, h2, _, h4⟩
  · exact .inl (.inr ⟨o, h⟩)
  · exact .inr ⟨o, its, n, h1, h2, h4⟩
mutual
/-- the value v stands for the data d, read in H -/
inductive Is (K : PySem.W.Frag) (H : Hp) : V → D → Prop
  | non : Is K H .non .non
  | bl (b : Bool) : Is K H (.bl b) (.bl b)
  | int (i : Int) : Is K H (.int i) (.int i)
  | str (s : Str) : Is K H (.str s) (.str s)
  | ty (n : String) : Is K H (.ty n) (.ty n)
  | fn (a : Addr) : Is K H (.ref a) (.fn a)
  | cl {n : Str} {C : Addr} : IsCl K n C → Is K H (.ref C) (.cl n)
  | tup {a : Addr} {vs : List V} {ds : List D} : H a = some (.tup vs) → IsL K H vs ds → Is K H (.ref a) (.tup ds)
  | lst {a : Addr} {vs : List V} {ds : List D} : H a = some (.lst vs) → IsL K H vs ds → Is K H (.ref a) (.lst ds)
  | ktp {a : Addr} {vs : List V} {ds : List D} : CqT K H a vs → IsL K H vs ds → Is K H (.ref a) (.ktp ds)
  | slst {a : Addr} {vs : List V} {ds : List D} : SqL K H a vs → IsL K H vs ds → Is K H (.ref a) (.slst ds)
  | dk {a : Addr} {vs : List (Key × V)} {kvs : List (Key × D)} : Rd H a (.dK vs) → vs.map (·.1) = kvs.map (·.1) → IsL K H (vs.map (·.2)) (kvs.map (·.2)) → Is K H (.ref a) (.dk kvs)
  | dt {a : Addr} {vs : List (List Key × V)} {kvs : List (List Key × D)} : Rd H a (.dT vs) → vs.map (·.1) = kvs.map (·.1) → IsL K H (vs.map (·.2)) (kvs.map (·.2)) → Is K H (.ref a) (.dt kvs)
  | obj {a C dx : Addr} {n : Str} {vs : List (Str × V)} {fs : List (Str × D)} : IsCl K n C → H a = some (.ins C dx vs) → vs.map (·.1) = fs.map (·.1) → IsL K H (vs.map (·.2)) (fs.map (·.2)) → Is K H (.ref a) (.obj n fs)
  | nest {a q : Addr} {k : Key} {vs : List (Key × V)} {kvs : List (Key × D)} : Rd H a (.dK vs) → vs.map (·.1) = kvs.map (·.1) → IsL K H (vs.map (·.2)) (kvs.map (·.2)) → Is K H (.ref a) (.nest q k kvs)
  | nestL {a q : Addr} {u : HO} {k : Key} {vs : List (Key × V)} {kvs : List (Key × D)} : Rd H a (.dK vs) → vs.map (·.1) = kvs.map (·.1) → IsL K H (vs.map (·.2)) (kvs.map (·.2)) → Is K H (.ref a) (.nestL q u k kvs)
  | nobj {a C dx : Addr} {n : Str} {qs : List (Str × Addr)} {vs : List (Str × V)} {fs : List (Str × D)} : IsCl K n C → H a = some (.ins C dx vs) → vs.map (·.1) = fs.map (·.1) → IsL K H (vs.map (·.2)) (fs.map (·.2)) → Is K H (.ref a) (.nobj qs n fs)
  | xc0 {a C : Addr} {n : Str} : IsCl K n C → H a = some (XcO (.ref C) none a) → Is K H (.ref a) (.xc n [])
  | xcd {a C d : Addr} {n : Str} {vs : List (Str × V)} {fs : List (Str × D)} : IsCl K n C → H a = some (XcO (.ref C) (some d) a) → H d = some (.xd vs) → vs.map (·.1) = fs.map (·.1) → IsL K H (vs.map (·.2)) (fs.map (·.2)) → Is K H (.ref a) (.xc n fs)
  | lam {f : Addr} {φ : Hp → Prop} : φ H → (∀ H', Sub H H' → φ H') → Is K H (.ref f) (.lam f φ)
inductive IsL (K : PySem.W.Frag) (H : Hp) : List V → List D → Prop
  | nil : IsL K H [] []
  | cons {v : V} {d : D} {vs : List V} {ds : List D} : Is K H v d → IsL K H vs ds → IsL K H (v :: vs) (d :: ds)
end

theorem Sub.of {H H' : Hp} (s : ∀ a o, H a = some o → H' a = some o) : Sub H H' := fun a o h => ⟨o, s a o h, .inl rfl⟩
/-- what is no dict stands as it stood -/
theorem Sub.at {H H' : Hp} {a : Addr} {o : HO} (s : Sub H H') (h : H a = some o) (n : isDO o = false := by rfl) : H' a = some o := by
  obtain ⟨o', h', f⟩ := s a o h
  rcases f with rfl | ⟨d, _⟩
  · exact h'
  · rw [n] at d; cases d
theorem Sub.new {H : Hp} {p : Addr} {o : HO} (h : H p = none) : Sub H (upd H p o) := .of fun a u e => by
  rw [upd_ne (ne_of_none e h)]; exact e
theorem Sub.rd {H H' : Hp} {a : Addr} {u : HO} (s : Sub H H') (h : Rd H a u) : Rd H' a u := by
  rcases h with h | ⟨o, h⟩
  · obtain ⟨o', h', f⟩ := s _ _ h
    rcases f with rfl | ⟨_, od, rfl⟩
    · exact .inl h'
    · exact .inr ⟨od, h'⟩
  · exact .inr ⟨o, s.at h⟩
theorem Sub.sqL {K : PySem.W.Frag} {H H' : Hp} {a : Addr} {xs : List V} (s : Sub H H') (h : SqL K H a xs) : SqL K H' a xs := by
  rcases h with h | h
  · exact .inl (s.rd h)
  · exact .inr h
theorem Sub.sqT {K : PySem.W.Frag} {H H' : Hp} {a : Addr} {xs : List V} (s : Sub H H') (h : SqT K H a xs) : SqT K H' a xs := by
  rcases h with h | h
  · exact .inl (s.rd h)
  · exact .inr h
theorem Sub.cqT {K : PySem.W.Frag} {H H' : Hp} {a : Addr} {xs : List V} (s : Sub H H') (h : CqT K H a xs) : CqT K H' a xs := by
  rcases h with ⟨o, h, e⟩ | h
  · exact .inl ⟨o, s.at h, e⟩
  · exact .inr h
theorem Sub.none {H H' : Hp} (s : Sub H H') {p : Addr} (h : H' p = none) : H p = none := by
  cases e : H p with
  | none => rfl
  | some o =>
    obtain ⟨_, h', _⟩ := s p o e
    rw [h'] at h; cases h

mutual
theorem Is.mono {K : PySem.W.Frag} {H H' : Hp} (s : Sub H H') : ∀ {v : V} {d : D}, Is K H v d → Is K H' v d
  | _, _, .non => .non
  | _, _, .bl b => .bl b
  | _, _, .int i => .int i
  | _, _, .str x => .str x
  | _, _, .ty n => .ty n
  | _, _, .fn a => .fn a
  | _, _, .cl c => .cl c
  | _, _, .tup h l => .tup (s.at h) (IsL.mono s l)
  | _, _, .lst h l => .lst (s.at h) (IsL.mono s l)
  | _, _, .ktp h l => .ktp (s.cqT h) (IsL.mono s l)
  | _, _, .slst h l => .slst (s.sqL h) (IsL.mono s l)
  | _, _, .dk h e l => .dk (s.rd h) e (IsL.mono s l)
  | _, _, .dt h e l => .dt (s.rd h) e (IsL.mono s l)
  | _, _, .obj c h e l => .obj c (s.at h) e (IsL.mono s l)
  | _, _, .nest h e l => .nest (s.rd h) e (IsL.mono s l)
  | _, _, .nestL h e l => .nestL (s.rd h) e (IsL.mono s l)
  | _, _, .nobj c h e l => .nobj c (s.at h) e (IsL.mono s l)
  | _, _, .xc0 c h => .xc0 c (s.at h)
  | _, _, .xcd c h g e l => .xcd c (s.at h) (s.at g) e (IsL.mono s l)
  | _, _, .lam p m => .lam (m _ s) fun H' s' => m H' (s.trans s')
theorem IsL.mono {K : PySem.W.Frag} {H H' : Hp} (s : Sub H H') : ∀ {vs : List V} {ds : List D}, IsL K H vs ds → IsL K H' vs ds
  | _, _, .nil => .nil
  | _, _, .cons a l => .cons (Is.mono s a) (IsL.mono s l)
end
section
variable {K : PySem.W.Frag} {H : Hp}
theorem IsL.length : ∀ {vs : List V} {ds : List D}, IsL K H vs ds → vs.length = ds.length
  | _, _, .nil => rfl
  | _, _, .cons _ l => congrArg (· + 1) (IsL.length l)
theorem IsL.get : ∀ {vs : List V} {ds : List D} {i : Nat} {d : D}, IsL K H vs ds → ds[i]? = some d → ∃ v, vs[i]? = some v ∧ Is K H v d
  | _, _, _, _, .nil, e => by simp at e
  | _, _, 0, _, .cons a l, e => by simp at e; subst e; exact ⟨_, rfl, a⟩
  | _, _, i + 1, _, .cons a l, e => by
    obtain ⟨v, h1, h2⟩ := IsL.get (i := i) l (by simpa using e)
    exact ⟨v, by simpa using h1, h2⟩
theorem IsL.append : ∀ {vs ws : List V} {ds es : List D}, IsL K H vs ds → IsL K H ws es → IsL K H (vs ++ ws) (ds ++ es)
  | _, _, _, _, .nil, l => l
  | _, _, _, _, .cons a l, m => .cons a (IsL.append l m)
theorem IsL.take : ∀ {vs : List V} {ds : List D} (n : Nat), IsL K H vs ds → IsL K H (vs.take n) (ds.take n)
  | _, _, 0, _ => .nil
  | _, _, _ + 1, .nil => .nil
  | _, _, n + 1, .cons a l => .cons a (IsL.take n l)
theorem IsL.drop : ∀ {vs : List V} {ds : List D} (n : Nat), IsL K H vs ds → IsL K H (vs.drop n) (ds.drop n)
  | _, _, 0, l => l
  | _, _, _ + 1, .nil => .nil
  | _, _, n + 1, .cons a l => IsL.drop n l
theorem IsL.reverse : ∀ {vs : List V} {ds : List D}, IsL K H vs ds → IsL K H vs.reverse ds.reverse
  | _, _, .nil => .nil
  | _, _, .cons a l => by rw [List.reverse_cons, List.reverse_cons]; exact IsL.append (IsL.reverse l) (.cons a .nil)
theorem IsL.set : ∀ {vs : List V} {ds : List D} {v : V} {d : D} (i : Nat), IsL K H vs ds → Is K H v d → IsL K H (vs.set i v) (ds.set i d)
  | _, _, _, _, _, .nil, _ => .nil
  | _, _, _, _, 0, .cons a l, b => .cons b l
  | _, _, _, _, i + 1, .cons a l, b => .cons a (IsL.set i l b)
theorem IsL.snoc {vs : List V} {ds : List D} {v : V} {d : D} (l : IsL K H vs ds) (a : Is K H v d) : IsL K H (vs ++ [v]) (ds ++ [d]) := l.append (.cons a .nil)
end

/-! ### environments of data -/
abbrev Env := List (Option D)
def get : Env → Nat → Option D
  | [], _ => none
  | x :: _, 0 => x
  | _ :: r, n + 1 => get r n
def put : Env → Nat → Option D → Env
  | [], _, _ => []
  | _ :: r, 0, d => d :: r
  | x :: r, n + 1, d => x :: put r n d
theorem put_length : ∀ (ρ : Env) (i : Nat) (d : Option D), (put ρ i d).length = ρ.length
  | [], _, _ => rfl
  | _ :: _, 0, _ => rfl
  | _ :: r, n + 1, d => congrArg (· + 1) (put_length r n d)
theorem get_put_ne : ∀ (ρ : Env) (i j : Nat) (d : Option D), i ≠ j → get (put ρ i d) j = get ρ j
  | [], _, _, _, _ => rfl
  | _ :: _, 0, 0, _, h => absurd rfl h
  | _ :: _, 0, _ + 1, _, _ => rfl
  | _ :: _, _ + 1, 0, _, _ => rfl
  | _ :: r, i + 1, j + 1, d, h => get_put_ne r i j d (fun e => h (congrArg (· + 1) e))
theorem get_put_same : ∀ (ρ : Env) (i : Nat) (d : Option D), i < ρ.length → get (put ρ i d) i = d
  | [], _, _, h => absurd h (by simp)
  | _ :: _, 0, _, _ => rfl
  | _ :: r, i + 1, d, h => get_put_same r i d (by simpa using h)
theorem get_lt : ∀ {ρ : Env} {i : Nat} {d : D}, get ρ i = some d → i < ρ.length
  | [], _, _, h => by simp [get] at h
  | _ :: _, 0, _, _ => by simp
  | _ :: r, i + 1, d, h => by have := get_lt (ρ := r) (i := i) (d := d) h; simp; omega
theorem get_put {ρ : Env} {i j : Nat} {d : Option D} {x : D} (h : get (put ρ i d) j = some x) : (j = i ∧ d = some x) ∨ (j ≠ i ∧ get ρ j = some x) := by
  by_cases e : i = j
  · subst e
    have hl : i < ρ.length := by have := get_lt h; rw [put_length] at this; exact this
    rw [get_put_same _ _ _ hl] at h
    exact .inl ⟨rfl, h⟩
  · rw [get_put_ne _ _ _ _ e] at h
    exact .inr ⟨fun q => e q.symm, h⟩

/-! ### a cell that one slot owns -/
/-- a cell whose parts are plain -/
def Cell0 (K : PySem.W.Frag) (Hb H : Hp) (p : Addr) : D → Prop
  | .lst ds => ∃ vs, H p = some (.lst vs) ∧ IsL K Hb vs ds
  | .dk kvs => ∃ vs : List (Key × V), H p = some (.dK vs) ∧ vs.map (·.1) = kvs.map (·.1) ∧ IsL K Hb (vs.map (·.2)) (kvs.map (·.2))
  | .dt kvs => ∃ vs : List (List Key × V), H p = some (.dT vs) ∧ vs.map (·.1) = kvs.map (·.1) ∧ IsL K Hb (vs.map (·.2)) (kvs.map (·.2))
  | .obj n fs => ∃ (C dx : Addr) (vs : List (Str × V)), IsCl K n C ∧ H p = some (.ins C dx vs) ∧ vs.map (·.1) = fs.map (·.1) ∧ IsL K Hb (vs.map (·.2)) (fs.map (·.2))
  | _ => False
/-- a dict of tuple keys that is locked, as u -/
def CellF (K : PySem.W.Frag) (Hb H : Hp) (u : HO) (p : Addr) : D → Prop
  | .dt kvs => H p = some u ∧ ∃ (od : Obj) (vs : List (List Key × V)), u = .frz od (.dT vs) ∧ vs.map (·.1) = kvs.map (·.1) ∧ IsL K Hb (vs.map (·.2)) (kvs.map (·.2))
  | _ => False
/-- the parts of a dict, of an object at p, of which the one at k is a cell -/
def ER {κ : Type} [DecidableEq κ] (K : PySem.W.Frag) (Hb : Hp) (C : Addr → D → Prop) (p : Addr) (k : κ) : List (κ × V) → List (κ × D) → Prop
  | [], [] => True
  | v :: vs, d :: ds => v.1 = d.1 ∧ (if d.1 = k then (∃ q, v.2 = .ref q ∧ q ≠ p ∧ C q d.2) ∧ k ∉ ds.map (·.1) else Is K Hb v.2 d.2) ∧ ER K Hb C p k vs ds
  | _, _ => False
/-- where the part at k stands -/
def partAt {κ : Type} [DecidableEq κ] (k : κ) : List (κ × V) → Option Addr
  | [] => none
  | v :: vs => if v.1 = k then (match v.2 with
    | .ref q => some q
    | _ => none) else partAt k vs
/-- the fields of an object at p, of which those that qs names are cells, where it says -/
def EQ (K : PySem.W.Frag) (Hb : Hp) (C : Addr → D → Prop) (p : Addr) (qs : List (Str × Addr)) : List (Str × V) → List (Str × D) → Prop
  | [], [] => True
  | v :: vs, d :: ds => v.1 = d.1 ∧ (match qs.lookup d.1 with
    | some q => v.2 = .ref q ∧ q ≠ p ∧ C q d.2
    | none => Is K Hb v.2 d.2) ∧ EQ K Hb C p qs vs ds
  | _, _ => False
/-- the parts have names of their own, places of their own, and are there -/
structure QsOk (qs : List (Str × Addr)) (fs : List (Str × D)) : Prop where
  nm : (qs.map (·.1)).Nodup
  pl : (qs.map (·.2)).Nodup
  fl : ∀ m ∈ qs.map (·.1), m ∈ fs.map (·.1)
def Cell (K : PySem.W.Frag) (Hb H : Hp) (p : Addr) : D → Prop
  | .lst ds => ∃ vs, H p = some (.lst vs) ∧ IsL K Hb vs ds
  | .dk kvs => ∃ vs : List (Key × V), H p = some (.dK vs) ∧ vs.map (·.1) = kvs.map (·.1) ∧ IsL K Hb (vs.map (·.2)) (kvs.map (·.2))
  | .dt kvs => ∃ vs : List (List Key × V), H p = some (.dT vs) ∧ vs.map (·.1) = kvs.map (·.1) ∧ IsL K Hb (vs.map (·.2)) (kvs.map (·.2))
  | .obj n fs => ∃ (C dx : Addr) (vs : List (Str × V)), IsCl K n C ∧ H p = some (.ins C dx vs) ∧ vs.map (·.1) = fs.map (·.1) ∧ IsL K Hb (vs.map (·.2)) (fs.map (·.2))
  | .nest q k kvs => ∃ vs : List (Key × V), H p = some (.dK vs) ∧ partAt k vs = some q ∧ ER K Hb (Cell0 K Hb H) p k vs kvs
  | .nestL q u k kvs => ∃ vs : List (Key × V), H p = some (.dK vs) ∧ partAt k vs = some q ∧ ER K Hb (CellF K Hb H u) p k vs kvs
  | .nobj qs n fs => ∃ (C dx : Addr) (vs : List (Str × V)), IsCl K n C ∧ H p = some (.ins C dx vs) ∧ QsOk qs fs ∧ EQ K Hb (Cell0 K Hb H) p qs vs fs
  | _ => False
def partsOf : D → List Addr
  | .nest q _ _ => [q]
  | .nestL q _ _ _ => [q]
  | .nobj qs _ _ => qs.map (·.2)
  | _ => []
/-- the addresses of a cell -/
def foot (H : Hp) (p : Addr) (d : D) (a : Addr) : Prop := a = p ∨ a ∈ partsOf d
theorem foot.root {H : Hp} {p : Addr} {d : D} : foot H p d p := .inl rfl
theorem foot.cong {H H' : Hp} {p a : Addr} {d : D} (e : H' p = H p) (h : foot H' p d a) : foot H p d a := h
theorem foot.any {H H' : Hp} {p a : Addr} {d : D} (h : foot H' p d a) : foot H p d a := h
theorem Cell0.cell {K : PySem.W.Frag} {Hb H : Hp} {p : Addr} : ∀ {d : D}, Cell0 K Hb H p d → Cell K Hb H p d
  | .lst _, c => c
  | .dk _, c => c
  | .dt _, c => c
  | .obj _ _, c => c
theorem Cell0.somE {K : PySem.W.Frag} {Hb H : Hp} {p : Addr} : ∀ {d : D}, Cell0 K Hb H p d → ∃ o, H p = Option.some o ∧ ∀ vs : List V, o ≠ .tup vs
  | .lst _, ⟨_, h, _⟩ => ⟨_, h, fun _ z => by cases z⟩
  | .dk _, ⟨_, h, _⟩ => ⟨_, h, fun _ z => by cases z⟩
  | .dt _, ⟨_, h, _⟩ => ⟨_, h, fun _ z => by cases z⟩
  | .obj _ _, ⟨_, _, _, _, h, _⟩ => ⟨_, h, fun _ z => by cases z⟩
theorem Cell0.somT {K : PySem.W.Frag} {Hb H : Hp} {p : Addr} : ∀ {d : D}, Cell0 K Hb H p d → ∃ o, H p = Option.some o ∧ ∀ ts : Array Value, o ≠ .tbl ts
  | .lst _, ⟨_, h, _⟩ => ⟨_, h, fun _ z => by cases z⟩
  | .dk _, ⟨_, h, _⟩ => ⟨_, h, fun _ z => by cases z⟩
  | .dt _, ⟨_, h, _⟩ => ⟨_, h, fun _ z => by cases z⟩
  | .obj _ _, ⟨_, _, _, _, h, _⟩ => ⟨_, h, fun _ z => by cases z⟩
theorem Cell0.mono {K : PySem.W.Frag} {Hb Hb' H H' : Hp} {p : Addr} (s : Sub Hb Hb') (e : ∀ o, H p = Option.some o → H' p = Option.some o) : ∀ {d : D}, Cell0 K Hb H p d → Cell0 K Hb' H' p d
  | .lst _, ⟨vs, h, l⟩ => ⟨vs, e _ h, l.mono s⟩
  | .dk _, ⟨vs, h, k, l⟩ => ⟨vs, e _ h, k, l.mono s⟩
  | .dt _, ⟨vs, h, k, l⟩ => ⟨vs, e _ h, k, l.mono s⟩
  | .obj _ _, ⟨C, dx, vs, c, h, k, l⟩ => ⟨C, dx, vs, c, e _ h, k, l.mono s⟩
theorem CellF.somE {K : PySem.W.Frag} {Hb H : Hp} {u : HO} {p : Addr} : ∀ {d : D}, CellF K Hb H u p d → ∃ o, H p = Option.some o ∧ ∀ vs : List V, o ≠ .tup vs
  | .dt _, ⟨h, _, _, e, _⟩ => ⟨_, h, fun _ z => by rw [e] at z; cases z⟩
theorem CellF.somT {K : PySem.W.Frag} {Hb H : Hp} {u : HO} {p : Addr} : ∀ {d : D}, CellF K Hb H u p d → ∃ o, H p = Option.some o ∧ ∀ ts : Array Value, o ≠ .tbl ts
  | .dt _, ⟨h, _, _, e, _⟩ => ⟨_, h, fun _ z => by rw [e] at z; cases z⟩
theorem CellF.mono {K : PySem.W.Frag} {Hb Hb' H H' : Hp} {u : HO} {p : Addr} (s : Sub Hb Hb') (e : ∀ o, H p = Option.some o → H' p = Option.some o) : ∀ {d : D}, CellF K Hb H u p d → CellF K Hb' H' u p d
  | .dt _, ⟨h, od, vs, w, k, l⟩ => ⟨e _ h, od, vs, w, k, l.mono s⟩
theorem CellF.is {K : PySem.W.Frag} {Hb H : Hp} {u : HO} {p : Addr} (s : Sub Hb H) : ∀ {d : D}, CellF K Hb H u p d → Is K H (.ref p) d
  | .dt _, ⟨h, od, _, w, k, l⟩ => .dt (.inr ⟨od, by rw [h, w]⟩) k (l.mono s)
theorem Cell0.is {K : PySem.W.Frag} {Hb H : Hp} {p : Addr} (s : Sub Hb H) : ∀ {d : D}, Cell0 K Hb H p d → Is K H (.ref p) d
  | .lst _, ⟨_, h, l⟩ => .lst h (l.mono s)
  | .dk _, ⟨_, h, k, l⟩ => .dk (.inl h) k (l.mono s)
  | .dt _, ⟨_, h, k, l⟩ => .dt (.inl h) k (l.mono s)
  | .obj _ _, ⟨_, _, _, c, h, k, l⟩ => .obj c h k (l.mono s)
section
variable {κ : Type} [DecidableEq κ] {K : PySem.W.Frag} {Hb Hb' H H' : Hp} {C C' : Addr → D → Prop} {p : Addr} {k : κ}
theorem ER.keys : ∀ {vs : List (κ × V)} {ds : List (κ × D)}, ER K Hb C p k vs ds → vs.map (·.1) = ds.map (·.1)
  | [], [], _ => rfl
  | v :: vs, d :: ds, h => by rw [List.map_cons, List.map_cons, h.1, ER.keys h.2.2]
theorem ER.mono (s : Sub Hb Hb') : ∀ {vs : List (κ × V)} {ds : List (κ × D)}, (∀ q d, partAt k vs = some q → (k, d) ∈ ds → C q d → C' q d) → ER K Hb C p k vs ds → ER K Hb' C' p k vs ds
  | [], [], _, _ => trivial
  | v :: vs, d :: ds, e, h => by
    obtain ⟨h1, h2, h3⟩ := h
    by_cases z : d.1 = k
    · rw [if_pos z] at h2
      obtain ⟨⟨q, eq, ne, c⟩, nk⟩ := h2
      refine ⟨h1, ?_, ER.mono s (fun q' x e' m => ?_) h3⟩
      · rw [if_pos z]
        refine ⟨⟨q, eq, ne, e q d.2 ?_ (by rw [← z]; exact List.mem_cons_self) c⟩, nk⟩
        unfold partAt
        rw [if_pos (h1.trans z), eq]
      · exact absurd (List.mem_map_of_mem (f := (·.1)) m) nk
    · rw [if_neg z] at h2
      refine ⟨h1, ?_, ER.mono s (fun q' x e' m => e q' x ?_ (List.mem_cons_of_mem _ m)) h3⟩
      · rw [if_neg z]; exact h2.mono s
      · unfold partAt
        rw [if_neg (by rw [h1]; exact z)]; exact e'
theorem ER.part : ∀ {vs : List (κ × V)} {ds : List (κ × D)} {q : Addr}, ER K Hb C p k vs ds → partAt k vs = some q → q ≠ p ∧ ∃ d, (k, d) ∈ ds ∧ C q d
  | v :: vs, d :: ds, q, h, e => by
    obtain ⟨h1, h2, h3⟩ := h
    unfold partAt at e
    by_cases z : d.1 = k
    · rw [if_pos z] at h2
      obtain ⟨⟨q', eq, ne, c⟩, nk⟩ := h2
      rw [if_pos (h1.trans z), eq] at e
      cases e
      exact ⟨ne, d.2, by rw [← z]; exact List.mem_cons_self, c⟩
    · rw [if_neg (by rw [h1]; exact z)] at e
      obtain ⟨a, x, m, c⟩ := ER.part h3 e
      exact ⟨a, x, List.mem_cons_of_mem _ m, c⟩
theorem ER.is (s : Sub Hb H) (hc : ∀ q d, C q d → Is K H (.ref q) d) : ∀ {vs : List (κ × V)} {ds : List (κ × D)}, ER K Hb C p k vs ds → IsL K H (vs.map (·.2)) (ds.map (·.2))
  | [], [], _ => .nil
  | v :: vs, d :: ds, h => by
    obtain ⟨h1, h2, h3⟩ := h
    refine .cons ?_ (ER.is s hc h3)
    split at h2
    · obtain ⟨⟨q, eq, _, c⟩, _⟩ := h2
      show Is K H v.2 d.2
      rw [eq]; exact hc q d.2 c
    · exact h2.mono s
/-- the part at k -/
theorem ER.at : ∀ {vs : List (κ × V)} {ds : List (κ × D)} {d : D}, ER K Hb C p k vs ds → (k, d) ∈ ds → ∃ q, partAt k vs = some q ∧ q ≠ p ∧ C q d
  | [], [], _, _, m => by cases m
  | [], _ :: _, _, h, _ => h.elim
  | v :: vs, x :: ds, d, h, m => by
    obtain ⟨h1, h2, h3⟩ := h
    unfold partAt
    by_cases z : x.1 = k
    · rw [if_pos z] at h2
      obtain ⟨⟨q, eq, ne, c⟩, nk⟩ := h2
      rw [if_pos (h1.trans z), eq]
      rcases List.mem_cons.mp m with e | m
      · subst e; exact ⟨q, rfl, ne, c⟩
      · exact absurd (List.mem_map_of_mem (f := (·.1)) m) nk
    · rw [if_neg (by rw [h1]; exact z)]
      rcases List.mem_cons.mp m with e | m
      · subst e; exact absurd rfl z
      · exact ER.at h3 m
end
theorem lookup_mem {m : Str} {q : Addr} : ∀ {qs : List (Str × Addr)}, qs.lookup m = some q → (m, q) ∈ qs
  | [], h => by cases h
  | x :: qs, h => by
    rw [List.lookup_cons] at h
    split at h
    · rename_i e
      cases h
      have : m = x.1 := by simpa using e
      subst this
      exact List.mem_cons_self
    · exact List.mem_cons_of_mem _ (lookup_mem h)
theorem mem_lookup {m : Str} {q : Addr} : ∀ {qs : List (Str × Addr)}, (qs.map (·.1)).Nodup → (m, q) ∈ qs → qs.lookup m = some q
  | [], _, h => by cases h
  | x :: qs, nd, h => by
    rw [List.map_cons, List.nodup_cons] at nd
    rw [List.lookup_cons]
    rcases List.mem_cons.mp h with e | h
    · subst e; simp
    · have : ¬ m = x.1 := fun z => nd.1 (by rw [← z]; exact List.mem_map_of_mem (f := (·.1)) h)
      rw [show (m == x.1) = false by simpa using this]
      exact mem_lookup nd.2 h
section
variable {K : PySem.W.Frag} {Hb Hb' H H' : Hp} {C C' : Addr → D → Prop} {p : Addr} {qs : List (Str × Addr)}
theorem EQ.keys : ∀ {vs : List (Str × V)} {ds : List (Str × D)}, EQ K Hb C p qs vs ds → vs.map (·.1) = ds.map (·.1)
  | [], [], _ => rfl
  | v :: vs, d :: ds, h => by rw [List.map_cons, List.map_cons, h.1, EQ.keys h.2.2]
theorem EQ.mono (s : Sub Hb Hb') : ∀ {vs : List (Str × V)} {ds : List (Str × D)}, (∀ m q d, qs.lookup m = some q → (m, d) ∈ ds → C q d → C' q d) → EQ K Hb C p qs vs ds → EQ K Hb' C' p qs vs ds
  | [], [], _, _ => trivial
  | v :: vs, d :: ds, e, h => by
    obtain ⟨h1, h2, h3⟩ := h
    refine ⟨h1, ?_, EQ.mono s (fun m q x l hm => e m q x l (List.mem_cons_of_mem _ hm)) h3⟩
    cases l : qs.lookup d.1 with
    | none => rw [l] at h2; exact h2.mono s
    | some q => rw [l] at h2; exact ⟨h2.1, h2.2.1, e d.1 q d.2 l List.mem_cons_self h2.2.2⟩
theorem EQ.is (s : Sub Hb H) (hc : ∀ q d, C q d → Is K H (.ref q) d) : ∀ {vs : List (Str × V)} {ds : List (Str × D)}, EQ K Hb C p qs vs ds → IsL K H (vs.map (·.2)) (ds.map (·.2))
  | [], [], _ => .nil
  | v :: vs, d :: ds, h => by
    obtain ⟨h1, h2, h3⟩ := h
    refine .cons ?_ (EQ.is s hc h3)
    cases l : qs.lookup d.1 with
    | none => rw [l] at h2; exact h2.mono s
    | some q =>
      rw [l] at h2
      show Is K H v.2 d.2
      rw [h2.1]; exact hc q d.2 h2.2.2
theorem EQ.at {m : Str} {q : Addr} {d : D} (l : qs.lookup m = some q) : ∀ {vs : List (Str × V)} {ds : List (Str × D)}, EQ K Hb C p qs vs ds → (m, d) ∈ ds → q ≠ p ∧ C q d
  | [], [], _, hm => by cases hm
  | v :: vs, x :: ds, h, hm => by
    obtain ⟨h1, h2, h3⟩ := h
    rcases List.mem_cons.mp hm with e | hm
    · subst e
      rw [l] at h2
      exact h2.2
    · exact EQ.at l h3 hm
end
theorem Cell.mono {K : PySem.W.Frag} {Hb Hb' H H' : Hp} {p : Addr} (s : Sub Hb Hb') : ∀ {d : D}, (∀ a o, foot H p d a → H a = some o → H' a = some o) → Cell K Hb H p d → Cell K Hb' H' p d
  | .lst _, e, ⟨vs, h, l⟩ => ⟨vs, e _ _ foot.root h, l.mono s⟩
  | .dk _, e, ⟨vs, h, k, l⟩ => ⟨vs, e _ _ foot.root h, k, l.mono s⟩
  | .dt _, e, ⟨vs, h, k, l⟩ => ⟨vs, e _ _ foot.root h, k, l.mono s⟩
  | .obj _ _, e, ⟨C, dx, vs, c, h, k, l⟩ => ⟨C, dx, vs, c, e _ _ foot.root h, k, l.mono s⟩
  | .nest q k kvs, e, ⟨vs, h, w, r⟩ => ⟨vs, e _ _ foot.root h, w, r.mono s fun q' d z _ c => Cell0.mono s (fun o => e q' o (.inr (by rw [w] at z; cases z; exact List.mem_singleton.mpr rfl))) c⟩
  | .nestL q _ k kvs, e, ⟨vs, h, w, r⟩ => ⟨vs, e _ _ foot.root h, w, r.mono s fun q' d z _ c => CellF.mono s (fun o => e q' o (.inr (by rw [w] at z; cases z; exact List.mem_singleton.mpr rfl))) c⟩
  | .nobj qs n fs, e, ⟨C, dx, vs, c, h, w, r⟩ => ⟨C, dx, vs, c, e _ _ foot.root h, w, r.mono s fun m q' d l _ c => Cell0.mono s (fun o => e q' o (.inr (List.mem_map_of_mem (f := (·.2)) (lookup_mem l)))) c⟩
theorem Cell.some {K : PySem.W.Frag} {Hb H : Hp} {p : Addr} : ∀ {d : D}, Cell K Hb H p d → ∃ o, H p = Option.some o
  | .lst _, ⟨_, h, _⟩ => ⟨_, h⟩
  | .dk _, ⟨_, h, _⟩ => ⟨_, h⟩
  | .dt _, ⟨_, h, _⟩ => ⟨_, h⟩
  | .obj _ _, ⟨_, _, _, _, h, _⟩ => ⟨_, h⟩
  | .nest _ _ _, ⟨_, h, _⟩ => ⟨_, h⟩
  | .nestL _ _ _ _, ⟨_, h, _⟩ => ⟨_, h⟩
  | .nobj _ _ _, ⟨_, _, _, _, h, _⟩ => ⟨_, h⟩
/-- what stands in a cell's addresses -/
theorem Cell.footS {K : PySem.W.Frag} {Hb H : Hp} {p a : Addr} : ∀ {d : D}, Cell K Hb H p d → foot H p d a → ∃ o, H a = Option.some o ∧ ∀ vs : List V, o ≠ .tup vs
  | .lst _, ⟨_, h, _⟩, .inl e => by subst e; exact ⟨_, h, fun _ z => by cases z⟩
  | .dk _, ⟨_, h, _⟩, .inl e => by subst e; exact ⟨_, h, fun _ z => by cases z⟩
  | .dt _, ⟨_, h, _⟩, .inl e => by subst e; exact ⟨_, h, fun _ z => by cases z⟩
  | .obj _ _, ⟨_, _, _, _, h, _⟩, .inl e => by subst e; exact ⟨_, h, fun _ z => by cases z⟩
  | .nest _ _ _, ⟨_, h, _⟩, .inl e => by subst e; exact ⟨_, h, fun _ z => by cases z⟩
  | .nestL _ _ _ _, ⟨_, h, _⟩, .inl e => by subst e; exact ⟨_, h, fun _ z => by cases z⟩
  | .nobj _ _ _, ⟨_, _, _, _, h, _⟩, .inl e => by subst e; exact ⟨_, h, fun _ z => by cases z⟩
  | .lst _, ⟨_, h, _⟩, .inr e => by cases e
  | .dk _, ⟨_, h, _⟩, .inr e => by cases e
  | .dt _, ⟨_, h, _⟩, .inr e => by cases e
  | .obj _ _, ⟨_, _, _, _, h, _⟩, .inr e => by cases e
  | .nest _ _ _, ⟨_, h, w, r⟩, .inr e => by obtain rfl := List.mem_singleton.mp e; exact Cell0.somE (r.part w).2.choose_spec.2
  | .nestL _ _ _ _, ⟨_, h, w, r⟩, .inr e => by obtain rfl := List.mem_singleton.mp e; exact CellF.somE (r.part w).2.choose_spec.2
  | .nobj qs n fs, ⟨_, _, _, _, h, w, r⟩, .inr e => by
    obtain ⟨⟨m, q⟩, hq, rfl⟩ := List.mem_map.mp e
    have l := mem_lookup w.nm hq
    obtain ⟨⟨m', d⟩, hd, e2⟩ := List.mem_map.mp (w.fl m (List.mem_map_of_mem (f := (·.1)) hq))
    cases e2
    exact Cell0.somE (r.at l hd).2
theorem Cell.footT {K : PySem.W.Frag} {Hb H : Hp} {p a : Addr} : ∀ {d : D}, Cell K Hb H p d → foot H p d a → ∃ o, H a = Option.some o ∧ ∀ ts : Array Value, o ≠ .tbl ts
  | .lst _, ⟨_, h, _⟩, .inl e => by subst e; exact ⟨_, h, fun _ z => by cases z⟩
  | .dk _, ⟨_, h, _⟩, .inl e => by subst e; exact ⟨_, h, fun _ z => by cases z⟩
  | .dt _, ⟨_, h, _⟩, .inl e => by subst e; exact ⟨_, h, fun _ z => by cases z⟩
  | .obj _ _, ⟨_, _, _, _, h, _⟩, .inl e => by subst e; exact ⟨_, h, fun _ z => by cases z⟩
  | .nest _ _ _, ⟨_, h, _⟩, .inl e => by subst e; exact ⟨_, h, fun _ z => by cases z⟩
  | .nestL _ _ _ _, ⟨_, h, _⟩, .inl e => by subst e; exact ⟨_, h, fun _ z => by cases z⟩
  | .nobj _ _ _, ⟨_, _, _, _, h, _⟩, .inl e => by subst e; exact ⟨_, h, fun _ z => by cases z⟩
  | .lst _, ⟨_, h, _⟩, .inr e => by cases e
  | .dk _, ⟨_, h, _⟩, .inr e => by cases e
  | .dt _, ⟨_, h, _⟩, .inr e => by cases e
  | .obj _ _, ⟨_, _, _, _, h, _⟩, .inr e => by cases e
  | .nest _ _ _, ⟨_, h, w, r⟩, .inr e => by obtain rfl := List.mem_singleton.mp e; exact Cell0.somT (r.part w).2.choose_spec.2
  | .nestL _ _ _ _, ⟨_, h, w, r⟩, .inr e => by obtain rfl := List.mem_singleton.mp e; exact CellF.somT (r.part w).2.choose_spec.2
  | .nobj qs n fs, ⟨_, _, _, _, h, w, r⟩, .inr e => by
    obtain ⟨⟨m, q⟩, hq, rfl⟩ := List.mem_map.mp e
    have l := mem_lookup w.nm hq
    obtain ⟨⟨m', d⟩, hd, e2⟩ := List.mem_map.mp (w.fl m (List.mem_map_of_mem (f := (·.1)) hq))
    cases e2
    exact Cell0.somT (r.at l hd).2
theorem Cell.nts {K : PySem.W.Frag} {Hb H : Hp} {p a : Addr} {o : HO} {d : D} (c : Cell K Hb H p d) (f : foot H p d a) (h : H a = Option.some o) : ∀ ts, o ≠ .tbl ts := by
  obtain ⟨o', h', n⟩ := c.footT f
  rw [h] at h'; cases h'
  exact n
/-- frozen: what a cell holds as plain data -/
theorem Cell.is {K : PySem.W.Frag} {Hb H : Hp} {p : Addr} (s : Sub Hb H) : ∀ {d : D}, Cell K Hb H p d → Is K H (.ref p) d
  | .lst _, ⟨_, h, l⟩ => .lst h (l.mono s)
  | .dk _, ⟨_, h, k, l⟩ => .dk (.inl h) k (l.mono s)
  | .dt _, ⟨_, h, k, l⟩ => .dt (.inl h) k (l.mono s)
  | .obj _ _, ⟨_, _, _, c, h, k, l⟩ => .obj c h k (l.mono s)
  | .nest _ _ _, ⟨_, h, _, r⟩ => .nest (.inl h) r.keys (r.is s fun q d c => Cell0.is s c)
  | .nestL _ _ _ _, ⟨_, h, _, r⟩ => .nestL (.inl h) r.keys (r.is s fun q d c => CellF.is s c)
  | .nobj _ _ _, ⟨_, _, _, c, h, _, r⟩ => .nobj c h r.keys (r.is s fun q d c => Cell0.is s c)

/-! ### the tables of code objects -/
/-- the table at P: each code object that it tells bears the name q, and is known -/
def TabG (Hb H : Hp) (P : Addr) (q : Str) : Prop := ∃ ps : Array Value, H P = some (.tbl ps) ∧ Hb P = none ∧ TriplesOk ps.toList ∧ ∀ (pos : Pos) (cv : Value), codeAmong pos ps.toList = some cv → ∃ c, cv = .ref c ∧ Hb c = some (LamX.CodeO c q)
def TabOk (K : PySem.W.Frag) (Hb H : Hp) : Prop := ∀ p ∈ TK K, TabG Hb H p.1 p.2
section
variable {K : PySem.W.Frag} {Hb Hb' H H' : Hp} {p : Addr} {o u : HO}
theorem TabOk.keep (t : TabOk K Hb H) (sb : Sub Hb Hb') (k : ∀ a ps, H a = some (.tbl ps) → H' a = some (.tbl ps)) (z : ∀ a ps, H a = some (.tbl ps) → Hb a = none → Hb' a = none) : TabOk K Hb' H' := fun p hp => by
  obtain ⟨ps, h1, hn, h2, h3⟩ := t p hp
  refine ⟨ps, k _ _ h1, z _ _ h1 hn, h2, fun pos cv e => ?_⟩
  obtain ⟨c, e1, e2⟩ := h3 pos cv e
  exact ⟨c, e1, sb.at e2⟩
theorem TabOk.kb (t : TabOk K Hb H) (sb : Sub Hb Hb') (z : ∀ a ps, H a = some (.tbl ps) → Hb a = none → Hb' a = none) : TabOk K Hb' H := t.keep sb (fun _ _ h => h) z
theorem TabOk.wr (t : TabOk K Hb H) (h : H p = some o) (n : ∀ ts, o ≠ .tbl ts) : TabOk K Hb (upd H p u) := t.keep (Sub.refl _) (fun a ps e => by
  rw [upd_ne (fun z => by rw [z, h] at e; exact n _ (Option.some.inj e))]; exact e) fun _ _ _ h => h
theorem TabOk.new (t : TabOk K Hb H) (h : H p = none) : TabOk K Hb (upd H p u) := t.keep (Sub.refl _) (fun a ps e => by
  rw [upd_ne (ne_of_none e h)]; exact e) fun _ _ _ h => h
/-- the start: empty tables -/
def TabsAt (K : PySem.W.Frag) (H : Hp) : Prop := ∀ p ∈ TK K, H p.1 = some (.tbl #[])
def noTab (H : Hp) : Hp := fun a => match H a with
  | some (.tbl _) => none
  | o => o
theorem noTab_of (h : H p = some o) (n : ∀ ts, o ≠ .tbl ts) : noTab H p = some o := by
  unfold noTab
  rw [h]
  cases o <;> first | rfl | exact absurd rfl (n _)
theorem noTab_sub (H : Hp) : Sub (noTab H) H := .of fun a o h => by
  unfold noTab at h
  split at h
  · cases h
  · exact h
theorem noTab_sqL {xs : List V} (h : SqL K H p xs) : SqL K (noTab H) p xs := by
  rcases h with (h | ⟨o, h⟩) | h
  · exact .inl (.inl (noTab_of h fun _ z => by cases z))
  · exact .inl (.inr ⟨o, noTab_of h fun _ z => by cases z⟩)
  · exact .inr h
theorem TabsAt.ok (t : TabsAt K H) : TabOk K (noTab H) H := fun p hp => ⟨#[], t p hp, by unfold noTab; rw [t p hp], True.intro, fun pos cv hc => by
  have z : codeAmong pos [] = some cv := hc
  simp [codeAmong] at z⟩
end

/-! ### the world at an entry; steps from it -/
structure Wd where
  Hb : Hp
  H : Hp
  ps : Nat → Addr → Prop
  rt : Nat → Addr → Prop
structure Stp (W : Wd) (Hb H : Hp) : Prop where
  hb : Sub W.Hb Hb
  fr : ∀ a o, W.H a = some o → (∀ i, ¬ W.ps i a) → (∀ ts, o ≠ .tbl ts) → H a = some o ∨ (W.Hb a ≠ none ∧ isDO o = true ∧ ∃ od, H a = some (.frz od o))
  fs : ∀ a o, Hb a = some o → W.Hb a ≠ none ∨ W.H a = none ∨ ∃ vs, W.H a = some (.tup vs)
  al : ∀ a, H a = none → W.H a = none
  tp : ∀ a vs, H a = some (.tup vs) → W.H a = none ∨ W.H a = some (.tup vs)

theorem Cell.nt {K : PySem.W.Frag} {Hb H : Hp} {p : Addr} {d : D} (c : Cell K Hb H p d) (vs : List V) : H p ≠ Option.some (HO.tup vs) := fun z => by
  obtain ⟨o, h, n⟩ := c.footS foot.root
  rw [h] at z; cases z
  exact n vs rfl
structure EnvOk (K : PySem.W.Frag) (W : Wd) (P I : List Nat) (ρ : Env) (σ : St) (Hb H : Hp) : Prop where
  sub : Sub Hb H
  stp : Stp W Hb H
  len : σ.length = ρ.length
  val : ∀ i d, get ρ i = some d → i ∉ P → i ∉ I → ∃ v, σ[i]? = some (some v) ∧ Is K Hb v d
  celF : ∀ i d, (i ∈ P ∨ i ∈ I) → get ρ i = some d → ∃ p, σ[i]? = some (some (.ref p)) ∧ Cell K Hb H p d ∧ (i ∈ P → W.rt i p) ∧ ∀ a, foot H p d a → Hb a = none ∧ (i ∈ P → W.ps i a ∨ W.H a = none) ∧ (i ∈ I → W.H a = none)
  sepF : ∀ i j p q di dj a, (i ∈ P ∨ i ∈ I) → (j ∈ P ∨ j ∈ I) → get ρ i = some di → get ρ j = some dj → σ[i]? = some (some (.ref p)) → σ[j]? = some (some (.ref q)) → foot H p di a → foot H q dj a → i = j
  tab : TabOk K Hb H
theorem EnvOk.cel {K : PySem.W.Frag} {W : Wd} {P I : List Nat} {ρ : Env} {σ : St} {Hb H : Hp} (E : EnvOk K W P I ρ σ Hb H) : ∀ i d, (i ∈ P ∨ i ∈ I) → get ρ i = some d → ∃ p, σ[i]? = some (some (.ref p)) ∧ Hb p = none ∧ Cell K Hb H p d ∧ (i ∈ P → W.rt i p) ∧ (i ∈ I → W.H p = none) := fun i d hi g => by
  obtain ⟨p, e, c, hp, f⟩ := E.celF i d hi g
  exact ⟨p, e, (f p foot.root).1, c, hp, (f p foot.root).2.2⟩
section
variable {K : PySem.W.Frag} {W : Wd} {P I : List Nat} {ρ : Env} {σ : St} {Hb H : Hp}
theorem Stp.refl (Hb H : Hp) (ps rt : Nat → Addr → Prop) : Stp ⟨Hb, H, ps, rt⟩ Hb H := ⟨Sub.refl _, fun _ _ h _ _ => .inl h, fun a _ h => .inl (fun z => by have z : Hb a = none := z; rw [h] at z; cases z), fun _ h => h, fun _ _ h => .inr h⟩

theorem Stp.own {p : Addr} {o : HO} (S : Stp W Hb H) (wb : W.Hb p = none) (h : W.H p = some o) (nt : ∀ ts, o ≠ .tbl ts) (n : ∀ i, ¬ W.ps i p) : H p = some o :=
  (S.fr p o h n nt).elim id fun r => absurd wb r.1
theorem Stp.nb {p : Addr} {o : HO} (S : Stp W Hb H) (wb : W.Hb p = none) (h : W.H p = some o) (nt : ∀ vs : List V, o ≠ .tup vs) : Hb p = none := by
  cases z : Hb p with
  | none => rfl
  | some u =>
    rcases S.fs p u z with r | r | ⟨vs, r⟩
    · exact absurd wb r
    · rw [h] at r; cases r
    · rw [h] at r; cases r; exact absurd rfl (nt vs)
/-- the owned addresses as they stand -/
def owned (P I : List Nat) (ρ : Env) (σ : St) (H : Hp) : Nat → Addr → Prop := fun i a => (i ∈ P ∨ i ∈ I) ∧ ∃ d p, get ρ i = some d ∧ σ[i]? = some (some (.ref p)) ∧ foot H p d a
/-- the world as it stands here: all owned cells are lent -/
def here (P I : List Nat) (ρ : Env) (σ : St) (Hb H : Hp) : Wd := ⟨Hb, H, owned P I ρ σ H, fun i p => (i ∈ P ∨ i ∈ I) ∧ get ρ i ≠ none ∧ σ[i]? = some (some (.ref p))⟩
theorem EnvOk.lent (E : EnvOk K W P I ρ σ Hb H) : EnvOk K (here P I ρ σ Hb H) (P ++ I) [] ρ σ Hb H where
  sub := E.sub
  stp := Stp.refl _ _ _ _
  len := E.len
  val := fun i d h n _ => E.val i d h (fun q => n (List.mem_append_left _ q)) fun q => n (List.mem_append_right _ q)
  celF := fun i d h g => by
    have hi : i ∈ P ∨ i ∈ I := by
      rcases h with h | h
      · exact List.mem_append.mp h
      · cases h
    obtain ⟨p, e, c, _, f⟩ := E.celF i d hi g
    exact ⟨p, e, c, fun _ => ⟨hi, by rw [g]; simp, e⟩, fun a ha => ⟨(f a ha).1, fun _ => .inl ⟨hi, d, p, g, e, ha⟩, fun q => by cases q⟩⟩
  sepF := fun i j p q di dj a hi hj => E.sepF i j p q di dj a (by simpa using hi) (by simpa using hj)
  tab := E.tab
/-- two steps -/
theorem Stp.trans {W : Wd} {Hb1 H1 Hb2 H2 : Hp} {ps rt : Nat → Addr → Prop} (a : Stp W Hb1 H1) (b : Stp ⟨Hb1, H1, ps, rt⟩ Hb2 H2) (hps : ∀ i p, ps i p → (∃ j, W.ps j p) ∨ W.H p = none) : Stp W Hb2 H2 where
  hb := a.hb.trans b.hb
  fr := fun x o h n nt => by
    have nl : ∀ i, ¬ ps i x := fun i q => by
      rcases hps i x q with ⟨j, r⟩ | r
      · exact n j r
      · rw [h] at r; cases r
    rcases a.fr x o h n nt with h1 | ⟨h1, h2, od, h3⟩
    · rcases b.fr x o h1 nl nt with h4 | ⟨h4, h5, h6⟩
      · exact .inl h4
      · refine .inr ⟨?_, h5, h6⟩
        have h4 : Hb1 x ≠ none := h4
        cases e : Hb1 x with
        | none => exact absurd e h4
        | some u =>
          rcases a.fs x u e with r | r | ⟨vs, r⟩
          · exact r
          · rw [h] at r; cases r
          · rw [h] at r; cases r; cases h5
    · rcases b.fr x _ h3 nl (fun _ z => by cases z) with h4 | ⟨_, h5, _⟩
      · exact .inr ⟨h1, h2, od, h4⟩
      · cases h5
  fs := fun x o h => by
    rcases b.fs x o h with q | q | ⟨vs, q⟩
    · have q : Hb1 x ≠ none := q
      cases e : Hb1 x with
      | none => exact absurd e q
      | some u => exact a.fs x u e
    · exact .inr (.inl (a.al x q))
    · rcases a.tp x vs q with r | r
      · exact .inr (.inl r)
      · exact .inr (.inr ⟨vs, r⟩)
  al := fun x h => a.al x (b.al x h)
  tp := fun x vs h => by
    rcases b.tp x vs h with r | r
    · exact .inl (a.al x r)
    · exact a.tp x vs r
theorem EnvOk.ownedW (E : EnvOk K W P I ρ σ Hb H) : ∀ i p, owned P I ρ σ H i p → (∃ j, W.ps j p) ∨ W.H p = none := fun i a ⟨hi, d, p, g, e, ha⟩ => by
  obtain ⟨p', e', _, _, f⟩ := E.celF i d hi g
  rw [e] at e'; cases e'
  obtain ⟨_, h1, h2⟩ := f a ha
  rcases hi with hi | hi
  · exact (h1 hi).imp (fun h => ⟨i, h⟩) id
  · exact .inr (h2 hi)
/-- back from the lent world: nothing was assigned (the slots are as they were) -/
theorem EnvOk.back {ρ' : Env} {Hb' H' : Hp} (E : EnvOk K W P I ρ σ Hb H) (E' : EnvOk K (here P I ρ σ Hb H) (P ++ I) [] ρ' σ Hb' H') : EnvOk K W P I ρ' σ Hb' H' where
  sub := E'.sub
  stp := E.stp.trans E'.stp E.ownedW
  len := E'.len
  val := fun i d h n m => E'.val i d h (fun q => (List.mem_append.mp q).elim n m) (by simp)
  celF := fun i d h g => by
    obtain ⟨p, e, c, h1, f⟩ := E'.celF i d (.inl (List.mem_append.mpr h)) g
    have hm : i ∈ P ++ I := List.mem_append.mpr h
    obtain ⟨_, g00, e0⟩ := h1 hm
    obtain ⟨d0, g0⟩ : ∃ d0, get ρ i = some d0 := by
      cases z : get ρ i with
      | none => exact absurd z g00
      | some d0 => exact ⟨d0, rfl⟩
    obtain ⟨p', e', _, k1, f0⟩ := E.celF i d0 h g0
    rw [e] at e'; cases e'
    refine ⟨p, e, c, k1, fun a ha => ⟨(f a ha).1, fun hi => ?_, fun hi => ?_⟩⟩
    · rcases (f a ha).2.1 hm with ⟨_, d1, p1, g1, e1, ft1⟩ | r
      · rw [g0] at g1; cases g1
        rw [e] at e1; cases e1
        exact (f0 a ft1).2.1 hi
      · exact .inr (E.stp.al a r)
    · rcases (f a ha).2.1 hm with ⟨_, d1, p1, g1, e1, ft1⟩ | r
      · rw [g0] at g1; cases g1
        rw [e] at e1; cases e1
        exact (f0 a ft1).2.2 hi
      · exact E.stp.al a r
  sepF := fun i j p q di dj a hi hj => E'.sepF i j p q di dj a (.inl (List.mem_append.mpr hi)) (.inl (List.mem_append.mpr hj))
  tab := E'.tab

/-- the owned cells, carried to another heap in which all that they hold stands as it stood -/
theorem EnvOk.cells {Hb' H' : Hp} {W' : Wd} (E : EnvOk K W P I ρ σ Hb H) (sb : Sub Hb Hb') (keep : ∀ i d p a o, (i ∈ P ∨ i ∈ I) → get ρ i = some d → σ[i]? = some (some (.ref p)) → foot H p d a → H a = some o → H' a = some o ∧ Hb' a = none)
    (ps : ∀ i a d p, i ∈ P → get ρ i = some d → σ[i]? = some (some (.ref p)) → foot H p d a → (W.ps i a → W'.ps i a) ∧ (W.H a = none → W'.H a = none)) (wn : ∀ i a d p, i ∈ I → get ρ i = some d → σ[i]? = some (some (.ref p)) → foot H p d a → W.H a = none → W'.H a = none) (rt : ∀ i p, W.rt i p → W'.rt i p := by exact fun _ _ h => h) :
    (∀ i d, (i ∈ P ∨ i ∈ I) → get ρ i = some d → ∃ p, σ[i]? = some (some (.ref p)) ∧ Cell K Hb' H' p d ∧ (i ∈ P → W'.rt i p) ∧ ∀ a, foot H' p d a → Hb' a = none ∧ (i ∈ P → W'.ps i a ∨ W'.H a = none) ∧ (i ∈ I → W'.H a = none)) ∧
    (∀ i j p q di dj a, (i ∈ P ∨ i ∈ I) → (j ∈ P ∨ j ∈ I) → get ρ i = some di → get ρ j = some dj → σ[i]? = some (some (.ref p)) → σ[j]? = some (some (.ref q)) → foot H' p di a → foot H' q dj a → i = j) := by
  have rtt := rt
  have root : ∀ i d p, (i ∈ P ∨ i ∈ I) → get ρ i = some d → σ[i]? = some (some (.ref p)) → H' p = H p := fun i d p hi g e => by
    obtain ⟨p', e', c, _⟩ := E.celF i d hi g
    rw [e] at e'; cases e'
    obtain ⟨o, ho, _⟩ := c.footS foot.root
    rw [ho, (keep i d p p o hi g e foot.root ho).1]
  refine ⟨fun i d hi g => ?_, fun i j p q di dj a hi hj gi gj ei ej fi fj => ?_⟩
  · obtain ⟨p, e, c, h1, f⟩ := E.celF i d hi g
    refine ⟨p, e, c.mono sb fun a o ha ho => (keep i d p a o hi g e ha ho).1, fun q => rtt i p (h1 q), fun a ha => ?_⟩
    have ha := foot.cong (root i d p hi g e) ha
    obtain ⟨o, ho, _⟩ := c.footS ha
    exact ⟨(keep i d p a o hi g e ha ho).2, fun q => ((f a ha).2.1 q).imp (ps i a d p q g e ha).1 (ps i a d p q g e ha).2, fun q => wn i a d p q g e ha ((f a ha).2.2 q)⟩
  · exact E.sepF i j p q di dj a hi hj gi gj ei ej (foot.cong (root i di p hi gi ei) fi) (foot.cong (root j dj q hj gj ej) fj)
/-- a new frozen object -/
theorem EnvOk.alloc {p : Addr} {o : HO} (E : EnvOk K W P I ρ σ Hb H) (h : H p = none) (no : ∀ ts, o ≠ .tbl ts := by intro _ z; cases z) : EnvOk K W P I ρ σ (upd Hb p o) (upd H p o) := by
  have hb : Hb p = none := E.sub.none h
  have sb : Sub Hb (upd Hb p o) := Sub.new hb
  have up : ∀ a u, H a = some u → upd H p o a = some u := fun a u e => by rw [upd_ne (ne_of_none e h)]; exact e
  obtain ⟨k1, k2⟩ := E.cells (H' := upd H p o) (W' := W) sb (fun i d q a u hi g e ha hu => ⟨up a u hu, by
    obtain ⟨q', e', _, _, f⟩ := E.celF i d hi g
    rw [e] at e'; cases e'
    rw [upd_ne (ne_of_none hu h)]; exact (f a ha).1⟩) (fun _ _ _ _ _ _ _ _ => ⟨id, id⟩) (fun _ _ _ _ _ _ _ _ => id)
  refine ⟨fun a u e => ?_, ⟨E.stp.hb.trans sb, fun a u e n nt => (E.stp.fr a u e n nt).imp (up a u) fun ⟨h1, h2, od, h3⟩ => ⟨h1, h2, od, up _ _ h3⟩, fun a u e => ?_, fun a e => ?_, fun a vs e => ?_⟩, E.len, fun i d g n m => ?_, k1, k2, (E.tab.new h).kb sb fun a ps e z => ?_⟩
  · by_cases ha : a = p
    · subst ha; rw [upd_same] at e ⊢; exact ⟨_, e, .inl rfl⟩
    · rw [upd_ne ha] at e ⊢; exact E.sub a u e
  · by_cases ha : a = p
    · subst ha; exact .inr (.inl (E.stp.al a h))
    · rw [upd_ne ha] at e; exact E.stp.fs a u e
  · by_cases ha : a = p
    · subst ha; rw [upd_same] at e; cases e
    · rw [upd_ne ha] at e; exact E.stp.al a e
  · by_cases ha : a = p
    · subst ha; exact .inl (E.stp.al a h)
    · rw [upd_ne ha] at e; exact E.stp.tp a vs e
  · obtain ⟨v, e, q⟩ := E.val i d g n m
    exact ⟨v, e, q.mono sb⟩
  · by_cases ha : a = p
    · subst ha; rw [upd_same] at e; exact absurd (Option.some.inj e) (no ps)
    · rw [upd_ne ha]; exact z
/-- the heap may know more (a new object that nothing here speaks of) -/
theorem EnvOk.more {p : Addr} {o : HO} (E : EnvOk K W P I ρ σ Hb H) (h : H p = none) : EnvOk K W P I ρ σ Hb (upd H p o) := by
  have up : ∀ a u, H a = some u → upd H p o a = some u := fun a u e => by rw [upd_ne (ne_of_none e h)]; exact e
  obtain ⟨k1, k2⟩ := E.cells (H' := upd H p o) (W' := W) (Sub.refl Hb) (fun i d q a u hi g e ha hu => ⟨up a u hu, by
    obtain ⟨q', e', _, _, f⟩ := E.celF i d hi g
    rw [e] at e'; cases e'
    exact (f a ha).1⟩) (fun _ _ _ _ _ _ _ _ => ⟨id, id⟩) (fun _ _ _ _ _ _ _ _ => id)
  refine ⟨E.sub.trans (Sub.new h), ⟨E.stp.hb, fun a u e n nt => (E.stp.fr a u e n nt).imp (up a u) fun ⟨h1, h2, od, h3⟩ => ⟨h1, h2, od, up _ _ h3⟩, E.stp.fs, fun a e => ?_, fun a vs e => ?_⟩, E.len, E.val, k1, k2, E.tab.new h⟩
  · by_cases ha : a = p
    · subst ha; rw [upd_same] at e; cases e
    · rw [upd_ne ha] at e; exact E.stp.al a e
  · by_cases ha : a = p
    · subst ha; exact .inl (E.stp.al a h)
    · rw [upd_ne ha] at e; exact E.stp.tp a vs e
/-- a tuple that stands may be known from here on -/
theorem EnvOk.know {p : Addr} {vs : List V} (E : EnvOk K W P I ρ σ Hb H) (h : H p = some (.tup vs)) : EnvOk K W P I ρ σ (upd Hb p (.tup vs)) H ∧ Sub Hb (upd Hb p (.tup vs)) := by
  have sb : Sub Hb (upd Hb p (.tup vs)) := fun a o e => by
    by_cases ha : a = p
    · subst ha
      obtain ⟨o', h', f⟩ := E.sub a o e
      rw [h] at h'; cases h'
      exact ⟨_, upd_same, f⟩
    · rw [upd_ne ha]; exact ⟨o, e, .inl rfl⟩
  obtain ⟨k1, k2⟩ := E.cells (H' := H) (W' := W) sb (fun i d q a u hi g e ha hu => ⟨hu, by
    obtain ⟨q', e', c, _, f⟩ := E.celF i d hi g
    rw [e] at e'; cases e'
    have nqp : a ≠ p := fun z => by
      subst z
      obtain ⟨o, ho, nt⟩ := c.footS ha
      rw [h] at ho; cases ho
      exact nt vs rfl
    rw [upd_ne nqp]; exact (f a ha).1⟩) (fun _ _ _ _ _ _ _ _ => ⟨id, id⟩) (fun _ _ _ _ _ _ _ _ => id)
  refine ⟨⟨fun a u e => ?_, ⟨E.stp.hb.trans sb, E.stp.fr, fun a u e => ?_, E.stp.al, E.stp.tp⟩, E.len, fun i d g n m => ?_, k1, k2, E.tab.kb sb fun a ps e z => by rw [upd_ne (fun w => by rw [w, h] at e; cases e)]; exact z⟩, sb⟩
  · by_cases ha : a = p
    · subst ha; rw [upd_same] at e; cases e; exact ⟨_, h, .inl rfl⟩
    · rw [upd_ne ha] at e; exact E.sub a u e
  · by_cases ha : a = p
    · subst ha
      rcases E.stp.tp a vs h with r | r
      · exact .inr (.inl r)
      · exact .inr (.inr ⟨vs, r⟩)
    · rw [upd_ne ha] at e; exact E.stp.fs a u e
  · obtain ⟨v, e, q⟩ := E.val i d g n m
    exact ⟨v, e, q.mono sb⟩
/-- a frozen dict is locked -/
theorem EnvOk.lockD {p : Addr} {u : HO} {od : Obj} (E : EnvOk K W P I ρ σ Hb H) (hb : Hb p = some u) (du : isDO u = true) (h : H p = some u ∨ H p = some (.frz od u)) :
    EnvOk K W P I ρ σ (upd Hb p (.frz od u)) (upd H p (.frz od u)) ∧ Sub Hb (upd Hb p (.frz od u)) := by
  have sb : Sub Hb (upd Hb p (.frz od u)) := fun a o e => by
    by_cases ha : a = p
    · subst ha
      rw [hb] at e; cases e
      exact ⟨_, upd_same, .inr ⟨du, od, rfl⟩⟩
    · rw [upd_ne ha]; exact ⟨o, e, .inl rfl⟩
  have wb : ∀ o, W.H p = some o → isDO o = true → W.Hb p ≠ none := fun o e d => by
    rcases E.stp.fs p u hb with r | r | ⟨vs, r⟩
    · exact r
    · rw [e] at r; cases r
    · rw [e] at r; cases r; cases d
  obtain ⟨k1, k2⟩ := E.cells (H' := upd H p (.frz od u)) (W' := W) sb (fun i d q a x hi g e ha hu => by
    obtain ⟨q', e', c, _, f⟩ := E.celF i d hi g
    rw [e] at e'; cases e'
    have nqp : a ≠ p := fun z => by subst z; rw [(f a ha).1] at hb; cases hb
    exact ⟨by rw [upd_ne nqp]; exact hu, by rw [upd_ne nqp]; exact (f a ha).1⟩) (fun _ _ _ _ _ _ _ _ => ⟨id, id⟩) (fun _ _ _ _ _ _ _ _ => id)
  refine ⟨⟨fun a x e => ?_, ⟨E.stp.hb.trans sb, fun a x e n nt => ?_, fun a x e => ?_, fun a e => ?_, fun a vs e => ?_⟩, E.len, fun i d g n m => ?_, k1, k2, E.tab.keep sb (fun a ps e => ?_) fun a ps e z => by rw [upd_ne (fun w => by rw [w, hb] at z; cases z)]; exact z⟩, sb⟩
  · by_cases ha : a = p
    · subst ha; rw [upd_same] at e ⊢; exact ⟨_, e, .inl rfl⟩
    · rw [upd_ne ha] at e ⊢; exact E.sub a x e
  · by_cases ha : a = p
    · subst ha
      rw [upd_same]
      rcases E.stp.fr a x e n nt with r | ⟨r1, r2, od', r3⟩
      · rcases h with h | h
        · rw [h] at r; cases r
          exact .inr ⟨wb _ e du, du, od, rfl⟩
        · rw [h] at r; cases r; exact .inl rfl
      · rcases h with h | h
        · rw [h] at r3; cases r3; cases du
        · rw [h] at r3; cases r3
          exact .inr ⟨r1, r2, _, rfl⟩
    · rw [upd_ne ha]; exact E.stp.fr a x e n nt
  · by_cases ha : a = p
    · subst ha; exact E.stp.fs a u hb
    · rw [upd_ne ha] at e; exact E.stp.fs a x e
  · by_cases ha : a = p
    · subst ha; rw [upd_same] at e; cases e
    · rw [upd_ne ha] at e; exact E.stp.al a e
  · by_cases ha : a = p
    · subst ha; rw [upd_same] at e; cases e
    · rw [upd_ne ha] at e; exact E.stp.tp a vs e
  · obtain ⟨v, e, q⟩ := E.val i d g n m
    exact ⟨v, e, q.mono sb⟩
  · rw [upd_ne fun z => ?_]
    · exact e
    · subst z
      rcases h with h | h
      · rw [h] at e; cases e; cases du
      · rw [h] at e; cases e
end
end DL

/-! DL1: the judgements over data; names, constants, operators, tests, displays, subscripts. -/
namespace DL
open PySem L2

/-- an own exception: its class, its fields -/
structure Exc where
  C : Str
  fs : List (Str × D)
abbrev Post := D → Env → Prop
abbrev XP := Exc → Env → Prop
abbrev FE := Env → Post → XP → Prop
abbrev FT := Env → (Bool → Env → Prop) → XP → Prop
abbrev FA := Env → (List D → Env → Prop) → XP → Prop
abbrev G1 := D → (D → Prop) → Prop
abbrev G2 := D → D → (D → Prop) → Prop
abbrev GN := List D → (D → Prop) → Prop

def XIs (K : PySem.W.Frag) (Hb : Hp) (cls : Value) (dx : Option Addr) (c : Exc) : Prop :=
  (∃ C, IsCl K c.C C ∧ cls = .ref C) ∧ ((c.fs = [] ∧ dx = none) ∨ ∃ (d : Addr) (vs : List (Str × V)), dx = some d ∧ Hb d = some (.xd vs) ∧ vs.map (·.1) = c.fs.map (·.1) ∧ IsL K Hb (vs.map (·.2)) (c.fs.map (·.2)))
/-- what is wanted of an exception follows -/
def XOk (X : Cx) (Wx : WX) (W : Wd) (P : List Nat) (σ : St) (xp : XP) : Prop :=
  ∀ c ρ' cls dx Hb' H', xp c ρ' → EnvOk X.K W P [] ρ' σ Hb' H' → XIs X.K Hb' cls dx c → Wx cls dx σ H'

/-- an expression over data: from I (the slots that own their cells) to J -/
structure DE (X : Cx) (Wx : WX) (P I : List Nat) (e : Expr) (t : TE) (F : FE) (J : List Nat) : Prop where
  pe : PE X e t
  ev : ∀ (W : Wd) (ρ : Env) (σ : St) (Hb H : Hp) (Q : VK) (post : Post) (xp : XP), EnvOk X.K W P I ρ σ Hb H → F ρ post xp → XOk X Wx W P σ xp →
    (∀ d ρ' v Hb' H', post d ρ' → EnvOk X.K W P J ρ' σ Hb' H' → Sub Hb Hb' → Is X.K Hb' v d → Q v H') → t σ H Q
/-- a test -/
structure DT (X : Cx) (Wx : WX) (P I : List Nat) (e : Expr) (t : TT) (F : FT) (J : List Nat) : Prop where
  pe : PT X e t
  ev : ∀ (W : Wd) (ρ : Env) (σ : St) (Hb H : Hp) (Q : Bool → Hp → Prop) (post : Bool → Env → Prop) (xp : XP), EnvOk X.K W P I ρ σ Hb H → F ρ post xp → XOk X Wx W P σ xp →
    (∀ b ρ' Hb' H', post b ρ' → EnvOk X.K W P J ρ' σ Hb' H' → Sub Hb Hb' → Q b H') → t σ H Q
/-- a part of and, or -/
structure DW (X : Cx) (Wx : WX) (P I : List Nat) (e : Expr) (t : TT) (F : FT) (J : List Nat) : Prop where
  pe : PW X e t
  ev : ∀ (W : Wd) (ρ : Env) (σ : St) (Hb H : Hp) (Q : Bool → Hp → Prop) (post : Bool → Env → Prop) (xp : XP), EnvOk X.K W P I ρ σ Hb H → F ρ post xp → XOk X Wx W P σ xp →
    (∀ b ρ' Hb' H', post b ρ' → EnvOk X.K W P J ρ' σ Hb' H' → Sub Hb Hb' → Q b H') → t σ H Q
/-- arguments -/
structure DA (X : Cx) (Wx : WX) (P I : List Nat) (es : List Expr) (t : TA) (F : FA) (J : List Nat) : Prop where
  pe : PA X es t
  ev : ∀ (W : Wd) (ρ : Env) (σ : St) (Hb H : Hp) (Q : List V → Hp → Prop) (post : List D → Env → Prop) (xp : XP), EnvOk X.K W P I ρ σ Hb H → F ρ post xp → XOk X Wx W P σ xp →
    (∀ ds ρ' vs Hb' H', post ds ρ' → EnvOk X.K W P J ρ' σ Hb' H' → Sub Hb Hb' → IsL X.K Hb' vs ds → Q vs H') → t σ H Q
/-- an expression whose value may be a cell that a slot owns: it is only looked at -/
structure DEo (X : Cx) (Wx : WX) (P I : List Nat) (e : Expr) (t : TE) (F : FE) (J : List Nat) : Prop where
  pe : PE X e t
  ev : ∀ (W : Wd) (ρ : Env) (σ : St) (Hb H : Hp) (Q : VK) (post : Post) (xp : XP), EnvOk X.K W P I ρ σ Hb H → F ρ post xp → XOk X Wx W P σ xp →
    (∀ d ρ' v Hb' H', post d ρ' → EnvOk X.K W P J ρ' σ Hb' H' → Sub Hb Hb' → (Is X.K Hb' v d ∨ ∃ p, v = .ref p ∧ Cell X.K Hb' H' p d) → Q v H') → t σ H Q
structure DAo (X : Cx) (Wx : WX) (P I : List Nat) (es : List Expr) (t : TA) (F : FA) (J : List Nat) : Prop where
  pe : PA X es t
  ev : ∀ (W : Wd) (ρ : Env) (σ : St) (Hb H : Hp) (Q : List V → Hp → Prop) (post : List D → Env → Prop) (xp : XP), EnvOk X.K W P I ρ σ Hb H → F ρ post xp → XOk X Wx W P σ xp →
    (∀ ds ρ' vs Hb' H', post ds ρ' → EnvOk X.K W P J ρ' σ Hb' H' → Sub Hb Hb' → Paired (fun v d => Is X.K Hb' v d ∨ ∃ p, v = .ref p ∧ Cell X.K Hb' H' p d) vs ds → Q vs H') → t σ H Q

/-! ### heaps that grow by frozen objects -/
inductive Grow (Hb H : Hp) : Hp → Hp → Prop
  | refl : Grow Hb H Hb H
  | step {Hb' H' : Hp} {p : Addr} {o : HO} : Grow Hb H Hb' H' → H' p = none → (no : ∀ ts, o ≠ .tbl ts := by intro _ z; cases z) → Grow Hb H (upd Hb' p o) (upd H' p o)
  | know {Hb' H' : Hp} {p : Addr} {vs : List V} : Grow Hb H Hb' H' → H' p = some (.tup vs) → Grow Hb H (upd Hb' p (.tup vs)) H'
theorem Grow.one {Hb H : Hp} {p : Addr} {o : HO} (h : H p = none) (no : ∀ ts, o ≠ .tbl ts := by intro _ z; cases z) : Grow Hb H (upd Hb p o) (upd H p o) := .step .refl h no
theorem Grow.env {K : PySem.W.Frag} {W : Wd} {P I : List Nat} {ρ : Env} {σ : St} {Hb H Hb' H' : Hp} (E : EnvOk K W P I ρ σ Hb H) (g : Grow Hb H Hb' H') : EnvOk K W P I ρ σ Hb' H' ∧ Sub Hb Hb' := by
  induction g with
  | refl => exact ⟨E, Sub.refl _⟩
  | step g h no ih => exact ⟨ih.1.alloc h no, ih.2.trans (Sub.new (ih.1.sub.none h))⟩
  | know g h ih => exact ⟨(ih.1.know h).1, ih.2.trans (ih.1.know h).2⟩

/-- a value whose parts are frozen: data, or a cell that stands -/
def IsO (K : PySem.W.Frag) (Hb H : Hp) (v : V) (d : D) : Prop := Is K Hb v d ∨ ∃ p, v = .ref p ∧ Cell K Hb H p d
theorem IsO.is {K : PySem.W.Frag} {Hb H : Hp} {v : V} {d : D} (h : IsO K Hb H v d) (s : Sub Hb H) : Is K H v d := by
  rcases h with h | ⟨p, rfl, c⟩
  · exact h.mono s
  · exact c.is s
abbrev IsOL (K : PySem.W.Frag) (Hb H : Hp) : List V → List D → Prop := Paired (IsO K Hb H)
theorem IsL.o {K : PySem.W.Frag} {Hb H : Hp} : ∀ {vs : List V} {ds : List D}, IsL K Hb vs ds → IsOL K Hb H vs ds
  | _, _, .nil => .nil
  | _, _, .cons a l => .cons (.inl a) (IsL.o l)
/-- operations on values, over data -/
def RV1 (K : PySem.W.Frag) (r : V → Hp → VK → Prop) (G : G1) : Prop := ∀ (Hb H : Hp) (x : V) (dx : D) (k : D → Prop) (Q : VK), Sub Hb H → IsO K Hb H x dx → G dx k →
  (∀ v d Hb' H', k d → Grow Hb H Hb' H' → Is K Hb' v d → Q v H') → r x H Q
def RV2 (K : PySem.W.Frag) (r : R2) (G : G2) : Prop := ∀ (Hb H : Hp) (x y : V) (dx dy : D) (k : D → Prop) (Q : VK), Sub Hb H → IsO K Hb H x dx → IsO K Hb H y dy → G dx dy k →
  (∀ v d Hb' H', k d → Grow Hb H Hb' H' → Is K Hb' v d → Q v H') → r x y H Q
def RVN (K : PySem.W.Frag) (r : List V → Hp → VK → Prop) (G : GN) : Prop := ∀ (Hb H : Hp) (xs : List V) (ds : List D) (k : D → Prop) (Q : VK), Sub Hb H → IsOL K Hb H xs ds → G ds k →
  (∀ v d Hb' H', k d → Grow Hb H Hb' H' → Is K Hb' v d → Q v H') → r xs H Q
theorem RV2.or {K : PySem.W.Frag} {r r' : R2} {g g' : G2} (h : RV2 K r g) (h' : RV2 K r' g') : RV2 K (fun x y H Q => r x y H Q ∨ r' x y H Q) (fun x y k => g x y k ∨ g' x y k) :=
  fun Hb H x y dx dy k Q s ix iy g q => g.elim (fun g => .inl (h Hb H x y dx dy k Q s ix iy g q)) fun g => .inr (h' Hb H x y dx dy k Q s ix iy g q)
theorem RV2.imp {K : PySem.W.Frag} {r : R2} {g g' : G2} (h : RV2 K r g) (i : ∀ x y k, g' x y k → g x y k) : RV2 K r g' :=
  fun Hb H x y dx dy k Q s ix iy g q => h Hb H x y dx dy k Q s ix iy (i _ _ _ g) q
theorem RVN.or {K : PySem.W.Frag} {r r' : List V → Hp → VK → Prop} {g g' : GN} (h : RVN K r g) (h' : RVN K r' g') : RVN K (fun xs H Q => r xs H Q ∨ r' xs H Q) (fun xs k => g xs k ∨ g' xs k) :=
  fun Hb H xs ds k Q s l g q => g.elim (fun g => .inl (h Hb H xs ds k Q s l g q)) fun g => .inr (h' Hb H xs ds k Q s l g q)
theorem RVN.imp {K : PySem.W.Frag} {r : List V → Hp → VK → Prop} {g g' : GN} (h : RVN K r g) (i : ∀ x k, g' x k → g x k) : RVN K r g' :=
  fun Hb H xs ds k Q s l g q => h Hb H xs ds k Q s l (i _ _ g) q

/-! ### data-level readings -/
def fVar (i : Nat) : FE := fun ρ post _ => match get ρ i with
  | some d => post d ρ
  | none => False
@[simp ↓] theorem fVar_ap (i : Nat) (ρ : Env) (post : Post) (z_2 : XP) : fVar i ρ post z_2 = (match get ρ i with
  | some d => post d ρ
  | none => False) := (rfl)
def fC (d : D) : FE := fun ρ post _ => post d ρ
@[simp ↓] theorem fC_ap (d : D) (ρ : Env) (post : Post) (z_2 : XP) : fC d ρ post z_2 = (post d ρ) := (rfl)
def fUn (G : G1) (a : FE) : FE := fun ρ post xp => a ρ (fun x ρ1 => G x fun z => post z ρ1) xp
@[simp ↓] theorem fUn_ap (G : G1) (a : FE) (ρ : Env) (post : Post) (xp : XP) : fUn G a ρ post xp = (a ρ (fun x ρ1 => G x fun z => post z ρ1) xp) := (rfl)
def fBin (G : G2) (a b : FE) : FE := fun ρ post xp => a ρ (fun x ρ1 => b ρ1 (fun y ρ2 => G x y fun z => post z ρ2) xp) xp
@[simp ↓] theorem fBin_ap (G : G2) (a b : FE) (ρ : Env) (post : Post) (xp : XP) : fBin G a b ρ post xp = (a ρ (fun x ρ1 => b ρ1 (fun y ρ2 => G x y fun z => post z ρ2) xp) xp) := (rfl)
/-- the left operand a slot's own cell, looked at once the right one is known -/
def fBinL (G : G2) (i : Nat) (b : FE) : FE := fun ρ post xp => (match get ρ i with
    | some _ => True
    | none => False) ∧ b ρ (fun y ρ1 => match get ρ1 i with
    | some x => G x y fun z => post z ρ1
    | none => False) xp
@[simp ↓] theorem fBinL_ap (G : G2) (i : Nat) (b : FE) (ρ : Env) (post : Post) (xp : XP) : fBinL G i b ρ post xp = ((match get ρ i with
    | some _ => True
    | none => False) ∧ b ρ (fun y ρ1 => match get ρ1 i with
    | some x => G x y fun z => post z ρ1
    | none => False) xp) := (rfl)
def fNil : FA := fun ρ post _ => post [] ρ
@[simp ↓] theorem fNil_ap (ρ : Env) (post : List D → Env → Prop) (z_2 : XP) : fNil  ρ post z_2 = (post [] ρ) := (rfl)
def fCons (a : FE) (b : FA) : FA := fun ρ post xp => a ρ (fun x ρ1 => b ρ1 (fun xs ρ2 => post (x :: xs) ρ2) xp) xp
@[simp ↓] theorem fCons_ap (a : FE) (b : FA) (ρ : Env) (post : List D → Env → Prop) (xp : XP) : fCons a b ρ post xp = (a ρ (fun x ρ1 => b ρ1 (fun xs ρ2 => post (x :: xs) ρ2) xp) xp) := (rfl)
def fN (G : GN) (a : FA) : FE := fun ρ post xp => a ρ (fun xs ρ1 => G xs fun z => post z ρ1) xp
@[simp ↓] theorem fN_ap (G : GN) (a : FA) (ρ : Env) (post : Post) (xp : XP) : fN G a ρ post xp = (a ρ (fun xs ρ1 => G xs fun z => post z ρ1) xp) := (rfl)
/-- a value that is True or False -/
@[simp ↓] def gB (d : D) (k : Bool → Prop) : Prop := match d with
  | .bl b => k b
  | _ => False
def fTest (a : FE) : FT := fun ρ post xp => a ρ (fun x ρ1 => gB x fun b => post b ρ1) xp
@[simp ↓] theorem fTest_ap (a : FE) (ρ : Env) (post : Bool → Env → Prop) (xp : XP) : fTest a ρ post xp = (a ρ (fun x ρ1 => gB x fun b => post b ρ1) xp) := (rfl)
def fAnd (a b : FT) : FT := fun ρ post xp => a ρ (fun c ρ1 => if c = true then b ρ1 post xp else post false ρ1) xp
@[simp ↓] theorem fAnd_ap (a b : FT) (ρ : Env) (post : Bool → Env → Prop) (xp : XP) : fAnd a b ρ post xp = (a ρ (fun c ρ1 => if c = true then b ρ1 post xp else post false ρ1) xp) := (rfl)
def fOr (a b : FT) : FT := fun ρ post xp => a ρ (fun c ρ1 => if c = true then post true ρ1 else b ρ1 post xp) xp
@[simp ↓] theorem fOr_ap (a b : FT) (ρ : Env) (post : Bool → Env → Prop) (xp : XP) : fOr a b ρ post xp = (a ρ (fun c ρ1 => if c = true then post true ρ1 else b ρ1 post xp) xp) := (rfl)
def fNot (a : FT) : FT := fun ρ post xp => a ρ (fun c ρ1 => post (!c) ρ1) xp
@[simp ↓] theorem fNot_ap (a : FT) (ρ : Env) (post : Bool → Env → Prop) (xp : XP) : fNot a ρ post xp = (a ρ (fun c ρ1 => post (!c) ρ1) xp) := (rfl)
def fAndV (a b : FE) : FE := fun ρ post xp => a ρ (fun x ρ1 => gB x fun c => if c = true then b ρ1 post xp else post (.bl false) ρ1) xp
@[simp ↓] theorem fAndV_ap (a b : FE) (ρ : Env) (post : Post) (xp : XP) : fAndV a b ρ post xp = (a ρ (fun x ρ1 => gB x fun c => if c = true then b ρ1 post xp else post (.bl false) ρ1) xp) := (rfl)
def fNotV (a : FE) : FE := fun ρ post xp => a ρ (fun x ρ1 => gB x fun c => post (.bl (!c)) ρ1) xp
@[simp ↓] theorem fNotV_ap (a : FE) (ρ : Env) (post : Post) (xp : XP) : fNotV a ρ post xp = (a ρ (fun x ρ1 => gB x fun c => post (.bl (!c)) ρ1) xp) := (rfl)
def fIf (c : FT) (a b : FE) : FE := fun ρ post xp => c ρ (fun t ρ1 => if t = true then a ρ1 post xp else b ρ1 post xp) xp
@[simp ↓] theorem fIf_ap (c : FT) (a b : FE) (ρ : Env) (post : Post) (xp : XP) : fIf c a b ρ post xp = (c ρ (fun t ρ1 => if t = true then a ρ1 post xp else b ρ1 post xp) xp) := (rfl)

section
variable {X : Cx} {Wx : WX} {P I J J1 J2 J3 : List Nat} {e a b c : Expr} {es : List Expr} {F G : FE} {T U : FT} {A : FA} {pos p2 : Pos} {ta tb : TE} {tA : TA}

theorem de_of {t : TE} (h : PE X e t) (k : ∀ (W : Wd) (ρ : Env) (σ : St) (Hb H : Hp) (Q : VK) (post : Post) (xp : XP), EnvOk X.K W P I ρ σ Hb H → F ρ post xp → XOk X Wx W P σ xp →
    (∀ d ρ' v Hb' H', post d ρ' → EnvOk X.K W P J ρ' σ Hb' H' → Sub Hb Hb' → Is X.K Hb' v d → Q v H') → t σ H Q) : DE X Wx P I e t F J := ⟨h, k⟩
theorem dt_of {t : TT} (h : PT X e t) (k : ∀ (W : Wd) (ρ : Env) (σ : St) (Hb H : Hp) (Q : Bool → Hp → Prop) (post : Bool → Env → Prop) (xp : XP), EnvOk X.K W P I ρ σ Hb H → T ρ post xp → XOk X Wx W P σ xp →
    (∀ b ρ' Hb' H', post b ρ' → EnvOk X.K W P J ρ' σ Hb' H' → Sub Hb Hb' → Q b H') → t σ H Q) : DT X Wx P I e t T J := ⟨h, k⟩

theorem de_var (i : Nat) {x : Str} (hp : i ∉ P := by decide) (hi : i ∉ I := by decide) (hN : X.N[i]? = some x := by rfl) (hv : Vis X.env.scope x := by first | exact Or.inl rfl | exact Or.inr (Or.inl rfl) | exact Or.inr (Or.inr rfl)) (hd : (x == ("__debug__" : Str)) = false := by decide)
    (hcd : (x == ("__classdict__" : Str)) = false := by decide) : DE X Wx P I (.Name x pos) (tVar i) (fVar i) I :=
  de_of (pe_var hN hv hd hcd) fun W ρ σ Hb H Q post xp E f _ q => by
    unfold fVar at f
    split at f
    · rename_i d g
      obtain ⟨v, e, is⟩ := E.val i d g hp hi
      exact ⟨v, e, q _ _ _ _ _ f E (Sub.refl _) is⟩
    · exact f.elim
theorem de_int {i : Int} {j} : DE X Wx P I (.Constant (.int i) j pos) (tC (.int i)) (fC (.int i)) I := de_of pe_int fun W ρ σ Hb H Q post xp E f _ q => q _ _ _ _ _ f E (Sub.refl _) (.int i)
theorem de_bl {b : Bool} {j} : DE X Wx P I (.Constant (.bool b) j pos) (tC (.bl b)) (fC (.bl b)) I := de_of pe_bl fun W ρ σ Hb H Q post xp E f _ q => q _ _ _ _ _ f E (Sub.refl _) (.bl b)
theorem de_non {j} : DE X Wx P I (.Constant .none j pos) (tC .non) (fC .non) I := de_of pe_non fun W ρ σ Hb H Q post xp E f _ q => q _ _ _ _ _ f E (Sub.refl _) .non
theorem de_str {x : Str} {j} : DE X Wx P I (.Constant (.str x) j pos) (tC (.str x)) (fC (.str x)) I := de_of pe_str fun W ρ σ Hb H Q post xp E f _ q => q _ _ _ _ _ f E (Sub.refl _) (.str x)
theorem de_bltn {x : Str} {n : String} (hm : X.mg x = none) (hv : bootBuiltins x = some (.type n)) (hg : Gl X x := by rfl) (hn : x ≠ "__name__" := by decide) (hd : (x == ("__debug__" : Str)) = false := by decide) : DE X Wx P I (.Name x pos) (tC (.ty n)) (fC (.ty n)) I :=
  de_of (pe_bltn hg hm hv (v := .ty n) rfl hn hd) fun W ρ σ Hb H Q post xp E f _ q => q _ _ _ _ _ f E (Sub.refl _) (.ty n)

theorem deo (h : DE X Wx P I e ta F J) : DEo X Wx P I e ta F J := ⟨h.pe, fun W ρ σ Hb H Q post xp E f x q => h.ev W ρ σ Hb H Q post xp E f x fun d ρ' v Hb' H' a E' s i => q d ρ' v Hb' H' a E' s (.inl i)⟩
theorem deo_var (i : Nat) {x : Str} (hi : i ∈ P ∨ i ∈ I := by decide) (hN : X.N[i]? = some x := by rfl) (hv : Vis X.env.scope x := by first | exact Or.inl rfl | exact Or.inr (Or.inl rfl) | exact Or.inr (Or.inr rfl)) (hd : (x == ("__debug__" : Str)) = false := by decide)
    (hcd : (x == ("__classdict__" : Str)) = false := by decide) : DEo X Wx P I (.Name x pos) (tVar i) (fVar i) I :=
  ⟨pe_var hN hv hd hcd, fun W ρ σ Hb H Q post xp E f _ q => by
    unfold fVar at f
    split at f
    · rename_i d g
      obtain ⟨p, e, _, c, _⟩ := E.cel i d hi g
      exact ⟨_, e, q _ _ _ _ _ f E (Sub.refl _) (.inr ⟨p, rfl, c⟩)⟩
    · exact f.elim⟩
theorem de_un {op : UnaryOp} {r : V → Hp → VK → Prop} {g : G1} (ho : UnR X (unaryOp op) r) (hr : RV1 X.K r g) (ha : DEo X Wx P I a ta F J) : DE X Wx P I (.UnaryOp op a pos) (tUn r ta) (fUn g F) J := by
  obtain ⟨pa, ka⟩ := ha
  refine de_of (pe_un ho pa) fun W ρ σ Hb H Q post xp E f x q => ka W ρ σ Hb H _ _ xp E f x fun d ρ1 v Hb1 H1 f1 E1 s1 i1 => ?_
  refine hr Hb1 H1 v d _ _ E1.sub i1 f1 fun w dz Hb2 H2 kz g iz => ?_
  obtain ⟨E2, s2⟩ := g.env E1
  exact q _ _ _ _ _ kz E2 (s1.trans s2) iz
theorem bin_core {r : R2} {g : G2} (hr : RV2 X.K r g) (ha : DE X Wx P I a ta F J1) (hb : DEo X Wx P J1 b tb G J) :
    ∀ (W : Wd) (ρ : Env) (σ : St) (Hb H : Hp) (Q : VK) (post : Post) (xp : XP), EnvOk X.K W P I ρ σ Hb H → fBin g F G ρ post xp → XOk X Wx W P σ xp →
    (∀ d ρ' v Hb' H', post d ρ' → EnvOk X.K W P J ρ' σ Hb' H' → Sub Hb Hb' → Is X.K Hb' v d → Q v H') → tOp r ta tb σ H Q := by
  intro W ρ σ Hb H Q post xp E f x q
  refine ha.ev W ρ σ Hb H _ _ xp E f x fun d ρ1 v Hb1 H1 f1 E1 s1 i1 => ?_
  refine hb.ev W ρ1 σ Hb1 H1 _ _ xp E1 f1 x fun d2 ρ2 v2 Hb2 H2 f2 E2 s2 i2 => ?_
  refine hr Hb2 H2 v v2 d d2 _ _ E2.sub (.inl (i1.mono s2)) i2 f2 fun w dz Hb3 H3 kz g iz => ?_
  obtain ⟨E3, s3⟩ := g.env E2
  exact q _ _ _ _ _ kz E3 ((s1.trans s2).trans s3) iz
theorem binL_core {r : R2} {g : G2} (i : Nat) (hr : RV2 X.K r g) (hb : DEo X Wx P I b tb G J) (hi : i ∈ P ∨ i ∈ I) (hj : i ∈ P ∨ i ∈ J) :
    ∀ (W : Wd) (ρ : Env) (σ : St) (Hb H : Hp) (Q : VK) (post : Post) (xp : XP), EnvOk X.K W P I ρ σ Hb H → fBinL g i G ρ post xp → XOk X Wx W P σ xp →
    (∀ d ρ' v Hb' H', post d ρ' → EnvOk X.K W P J ρ' σ Hb' H' → Sub Hb Hb' → Is X.K Hb' v d → Q v H') → tOp r (tVar i) tb σ H Q := by
  intro W ρ σ Hb H Q post xp E f x q
  obtain ⟨f0, f⟩ := f
  cases g0 : get ρ i with
  | none => rw [g0] at f0; exact f0.elim
  | some d0 =>
    obtain ⟨p, ep, _⟩ := E.cel i d0 hi g0
    refine ⟨_, ep, hb.ev W ρ σ Hb H _ _ xp E f x fun d2 ρ2 v2 Hb2 H2 f2 E2 s2 i2 => ?_⟩
    cases g2 : get ρ2 i with
    | none => rw [g2] at f2; exact f2.elim
    | some d =>
      rw [g2] at f2
      obtain ⟨p', ep', _, c, _⟩ := E2.cel i d hj g2
      rw [ep] at ep'; cases ep'
      refine hr Hb2 H2 _ v2 d d2 _ _ E2.sub (.inr ⟨p, rfl, c⟩) i2 f2 fun w dz Hb3 H3 kz g iz => ?_
      obtain ⟨E3, s3⟩ := g.env E2
      exact q _ _ _ _ _ kz E3 (s2.trans s3) iz
theorem de_bin {op : Operator} {r : R2} {g : G2} (ho : OpR X (binaryOp op) r) (hr : RV2 X.K r g) (ha : DE X Wx P I a ta F J1) (hb : DEo X Wx P J1 b tb G J) : DE X Wx P I (.BinOp a op b pos) (tOp r ta tb) (fBin g F G) J :=
  de_of (pe_op ho ha.pe hb.pe) (bin_core hr ha hb)
theorem de_cmp {op : CmpOp} {r : R2} {g : G2} (ho : OpR X (compareOp op) r) (hr : RV2 X.K r g) (ha : DE X Wx P I a ta F J1) (hb : DEo X Wx P J1 b tb G J) (hm : behindInMarks op b = false := by first | exact nomark _ | rfl) : DE X Wx P I (.Compare a [op] [b] pos) (tOp r ta tb) (fBin g F G) J :=
  de_of (pe_cmpR ho ha.pe hb.pe hm) (bin_core hr ha hb)
theorem de_ix {r : R2} {g : G2} (ho : IxR X r) (hr : RV2 X.K r g) (ha : DE X Wx P I a ta F J1) (hb : DEo X Wx P J1 b tb G J) (hs : PlainIx b := by exact fun _ _ => rfl) : DE X Wx P I (.Subscript a b pos) (tOp r ta tb) (fBin g F G) J :=
  de_of (pe_ix ho ha.pe hb.pe hs) (bin_core hr ha hb)
theorem de_ixL {r : R2} {g : G2} (i : Nat) {x : Str} (ho : IxR X r) (hr : RV2 X.K r g) (hb : DEo X Wx P I b tb G J) (hs : PlainIx b := by exact fun _ _ => rfl) (hi : i ∈ P ∨ i ∈ I := by decide) (hj : i ∈ P ∨ i ∈ J := by decide) (hN : X.N[i]? = some x := by rfl) (hv : Vis X.env.scope x := by first | exact Or.inl rfl | exact Or.inr (Or.inl rfl) | exact Or.inr (Or.inr rfl)) (hd : (x == ("__debug__" : Str)) = false := by decide)
    (hcd : (x == ("__classdict__" : Str)) = false := by decide) : DE X Wx P I (.Subscript (.Name x p2) b pos) (tOp r (tVar i) tb) (fBinL g i G) J :=
  de_of (pe_ix ho (pe_var hN hv hd hcd) hb.pe hs) (binL_core i hr hb hi hj)

theorem da_nil : DA X Wx P I [] tNil fNil I := ⟨pa_nil, fun W ρ σ Hb H Q post xp E f _ q => q _ _ _ _ _ f E (Sub.refl _) .nil⟩
theorem da_cons (ha : DE X Wx P I e ta F J1) (hb : DA X Wx P J1 es tA A J) (hs : starEach (e :: es) X.env = (false, eval e X.env) :: starEach es X.env := by rfl) : DA X Wx P I (e :: es) (tCons ta tA) (fCons F A) J := by
  obtain ⟨pa, ka⟩ := ha
  obtain ⟨pb, kb⟩ := hb
  refine ⟨pa_cons pa pb hs, fun W ρ σ Hb H Q post xp E f x q => ka W ρ σ Hb H _ _ xp E f x fun d ρ1 v Hb1 H1 f1 E1 s1 i1 => ?_⟩
  exact kb W ρ1 σ Hb1 H1 _ _ xp E1 f1 x fun ds ρ2 vs Hb2 H2 f2 E2 s2 i2 => q _ _ _ _ _ f2 E2 (s1.trans s2) (.cons (i1.mono s2) i2)
/-- arguments that are only looked at: the last one may be a slot's own cell -/
theorem dao (h : DA X Wx P I es tA A J) : DAo X Wx P I es tA A J := ⟨h.pe, fun W ρ σ Hb H Q post xp E f x q => h.ev W ρ σ Hb H Q post xp E f x fun ds ρ' vs Hb' H' a E' s i => q ds ρ' vs Hb' H' a E' s i.o⟩
theorem dao_one (ha : DEo X Wx P I e ta F J) (hs : starEach [e] X.env = (false, eval e X.env) :: starEach [] X.env := by rfl) : DAo X Wx P I [e] (tCons ta tNil) (fCons F fNil) J :=
  ⟨pa_cons ha.pe pa_nil hs, fun W ρ σ Hb H Q post xp E f x q => ha.ev W ρ σ Hb H _ _ xp E f x fun d ρ1 v Hb1 H1 f1 E1 s1 i1 => q _ _ _ _ _ f1 E1 s1 (.cons i1 .nil)⟩
theorem dao_cons (ha : DE X Wx P I e ta F J1) (hb : DAo X Wx P J1 es tA A J) (hs : starEach (e :: es) X.env = (false, eval e X.env) :: starEach es X.env := by rfl) : DAo X Wx P I (e :: es) (tCons ta tA) (fCons F A) J :=
  ⟨pa_cons ha.pe hb.pe hs, fun W ρ σ Hb H Q post xp E f x q => ha.ev W ρ σ Hb H _ _ xp E f x fun d ρ1 v Hb1 H1 f1 E1 s1 i1 => hb.ev W ρ1 σ Hb1 H1 _ _ xp E1 f1 x fun ds ρ2 vs Hb2 H2 f2 E2 s2 i2 => q _ _ _ _ _ f2 E2 (s1.trans s2) (.cons (.inl (i1.mono s2)) i2)⟩
theorem de_tup {x1} (h : DA X Wx P I es tA A J) (hz : es.length ≤ 1000 := by exact by decide) : DE X Wx P I (.Tuple es x1 pos) (tTup tA) (fun ρ post xp => A ρ (fun xs ρ1 => xs.length ≤ 1000 ∧ post (.tup xs) ρ1) xp) J := by
  obtain ⟨pa, ka⟩ := h
  refine de_of (pe_tup pa) fun W ρ σ Hb H Q post xp E f x q => ka W ρ σ Hb H _ _ xp E f x fun ds ρ1 vs Hb1 H1 f1 E1 s1 i1 => ⟨?_, fun p hp => ?_⟩
  · rw [i1.length]; exact Nat.le_trans f1.1 (by decide)
  · have hn : Hb1 p = none := E1.sub.none hp
    exact q _ _ _ _ _ f1.2 (E1.alloc hp) (s1.trans (Sub.new hn)) (.tup upd_same (i1.mono (Sub.new hn)))
end
end DL

/-! DL2: operators and built-ins over data. -/
namespace DL
open PySem L2 PyProof.Rows

/-! ### plain data for == -/
mutual
def pd : D → Option PyData
  | .non => some .none
  | .bl b => some (.bool b)
  | .int i => some (.int i)
  | .str s => some (.str s)
  | .tup ds => (pdL ds).map .tuple
  | .lst ds => (pdL ds).map .list
  | .ktp ds => (pdL ds).map .tuple
  | .slst ds => (pdL ds).map .list
  | _ => none
def pdL : List D → Option (List PyData)
  | [] => some []
  | d :: ds => match pd d with
    | some x => (pdL ds).map (x :: ·)
    | none => none
end
mutual
theorem Is.dp {K : PySem.W.Frag} {H : Hp} : ∀ {v : V} {d : D} {x : PyData}, Is K H v d → pd d = some x → Dp K H v x
  | _, _, _, .non, e => by simp [pd] at e; subst e; exact .non
  | _, _, _, .bl b, e => by simp [pd] at e; subst e; exact .bl b
  | _, _, _, .int i, e => by simp [pd] at e; subst e; exact .int i
  | _, _, _, .str s, e => by simp [pd] at e; subst e; exact .str s
  | _, _, _, .ty n, e => by simp [pd] at e
  | _, _, _, .fn n, e => by simp [pd] at e
  | _, _, _, .cl c, e => by simp [pd] at e
  | _, _, _, .xc0 _ _, e => by simp [pd] at e
  | _, _, _, .xcd _ _ _ _ _, e => by simp [pd] at e
  | _, .tup ds, _, .tup h l, e => by
    simp only [pd] at e
    cases q : pdL ds with
    | none => rw [q] at e; cases e
    | some xs => rw [q] at e; cases e; exact .tup (SqT.of h) (IsL.dp l q)
  | _, .lst ds, _, .lst h l, e => by
    simp only [pd] at e
    cases q : pdL ds with
    | none => rw [q] at e; cases e
    | some xs => rw [q] at e; cases e; exact .lst (SqL.of h) (IsL.dp l q)
  | _, .ktp ds, _, .ktp h l, e => by
    simp only [pd] at e
    cases q : pdL ds with
    | none => rw [q] at e; cases e
    | some xs => rw [q] at e; cases e; exact .tup h.sq (IsL.dp l q)
  | _, .slst ds, _, .slst h l, e => by
    simp only [pd] at e
    cases q : pdL ds with
    | none => rw [q] at e; cases e
    | some xs => rw [q] at e; cases e; exact .lst h (IsL.dp l q)
  | _, _, _, .dk _ _ _, e => by simp [pd] at e
  | _, _, _, .dt _ _ _, e => by simp [pd] at e
  | _, _, _, .obj _ _ _ _, e => by simp [pd] at e
  | _, _, _, .nest _ _ _, e => by simp [pd] at e
  | _, _, _, .nestL _ _ _, e => by simp [pd] at e
  | _, _, _, .nobj _ _ _ _, e => by simp [pd] at e
theorem IsL.dp {K : PySem.W.Frag} {H : Hp} : ∀ {vs : List V} {ds : List D} {xs : List PyData}, IsL K H vs ds → pdL ds = some xs → DpAll K H vs xs
  | _, _, _, .nil, e => by simp [pdL] at e; subst e; exact .nil
  | _, d :: ds, _, .cons a l, e => by
    simp only [pdL] at e
    cases q : pd d with
    | none => rw [q] at e; cases e
    | some x =>
      rw [q] at e
      cases r : pdL ds with
      | none => rw [r] at e; cases e
      | some xs => rw [r] at e; cases e; exact .cons (Is.dp a q) (IsL.dp l r)
end

/-! ### items, keys -/
/-- the items of a tuple, of a list -/
def tupD : D → Option (List D)
  | .tup ds => some ds
  | .ktp ds => some ds
  | _ => none
def lstD : D → Option (List D)
  | .lst ds => some ds
  | .slst ds => some ds
  | _ => none
def dInts : List D → Option (List Int)
  | [] => some []
  | .int i :: r => (dInts r).map (i :: ·)
  | _ => none
def dBools : List D → Option (List Bool)
  | [] => some []
  | .bl i :: r => (dBools r).map (i :: ·)
  | _ => none
def keysOf : List D → Option (List Key)
  | [] => some []
  | .int i :: r => (keysOf r).map (Sum.inl i :: ·)
  | .str s :: r => (keysOf r).map (Sum.inr s :: ·)
  | _ => none
def valD {κ : Type} [DecidableEq κ] (kvs : List (κ × D)) (k : κ) : Option D := (kvs.find? fun kv => decide (kv.1 = k)).map (·.2)
@[simp] def putD {κ : Type} [DecidableEq κ] (kvs : List (κ × D)) (k : κ) (v : D) : List (κ × D) := if (kvs.any fun kv => decide (kv.1 = k)) = true then kvs.map fun kv => if kv.1 = k then (kv.1, v) else kv else kvs ++ [(k, v)]
section
variable {K : PySem.W.Frag} {Hb H : Hp}
theorem is_int {v : V} {i : Int} (h : Is K H v (.int i)) : v = .int i := by cases h; rfl
theorem is_bl {v : V} {b : Bool} (h : Is K H v (.bl b)) : v = .bl b := by cases h; rfl
theorem is_str {v : V} {b : Str} (h : Is K H v (.str b)) : v = .str b := by cases h; rfl
theorem is_non {v : V} (h : Is K H v .non) : v = .non := by cases h; rfl
theorem is_tupD {v : V} {d : D} {ds : List D} (h : Is K H v d) (e : tupD d = some ds) : ∃ a vs, v = .ref a ∧ SqT K H a vs ∧ IsL K H vs ds := by
  cases d <;> simp [tupD] at e <;> subst e
  · cases h with
    | tup h l => exact ⟨_, _, rfl, SqT.of h, l⟩
  · cases h with
    | ktp h l => exact ⟨_, _, rfl, h.sq, l⟩
theorem is_lstD {v : V} {d : D} {ds : List D} (h : Is K H v d) (e : lstD d = some ds) : ∃ a vs, v = .ref a ∧ SqL K H a vs ∧ IsL K H vs ds := by
  cases d <;> simp [lstD] at e <;> subst e
  · cases h with
    | lst h l => exact ⟨_, _, rfl, SqL.of h, l⟩
  · cases h with
    | slst h l => exact ⟨_, _, rfl, h, l⟩
theorem o_int {v : V} {i : Int} (h : IsO K Hb H v (.int i)) : v = .int i := h.elim is_int fun ⟨_, _, c⟩ => c.elim
theorem o_bl {v : V} {i : Bool} (h : IsO K Hb H v (.bl i)) : v = .bl i := h.elim is_bl fun ⟨_, _, c⟩ => c.elim
theorem o_str {v : V} {i : Str} (h : IsO K Hb H v (.str i)) : v = .str i := h.elim is_str fun ⟨_, _, c⟩ => c.elim
theorem o_ty {v : V} {n : String} (h : IsO K Hb H v (.ty n)) : v = .ty n := h.elim (fun h => by cases h; rfl) fun ⟨_, _, c⟩ => c.elim
theorem o_tupD (s : Sub Hb H) {v : V} {d : D} {ds : List D} (h : IsO K Hb H v d) (e : tupD d = some ds) : Is K Hb v d ∧ ∃ a vs, v = .ref a ∧ SqT K H a vs ∧ IsL K Hb vs ds := by
  rcases h with h | ⟨p, rfl, c⟩
  · obtain ⟨a, vs, e1, h1, l⟩ := is_tupD h e
    exact ⟨h, a, vs, e1, s.sqT h1, l⟩
  · cases d <;> first | exact c.elim | simp [tupD] at e
theorem o_lstD (s : Sub Hb H) {v : V} {d : D} {ds : List D} (h : IsO K Hb H v d) (e : lstD d = some ds) : ∃ a vs, v = .ref a ∧ SqL K H a vs ∧ IsL K Hb vs ds := by
  rcases h with h | ⟨p, rfl, c⟩
  · obtain ⟨a, vs, e1, h1, l⟩ := is_lstD h e
    exact ⟨a, vs, e1, s.sqL h1, l⟩
  · cases d <;> first | exact c.elim | simp [lstD] at e
    subst e
    obtain ⟨vs, h1, l⟩ := c
    exact ⟨p, vs, rfl, SqL.of h1, l⟩
theorem o_lst (s : Sub Hb H) {v : V} {ds : List D} (h : IsO K Hb H v (.lst ds)) : ∃ a vs, v = .ref a ∧ H a = some (.lst vs) ∧ IsL K Hb vs ds := by
  rcases h with h | ⟨p, rfl, vs, h1, l⟩
  · cases h with
    | lst h l => exact ⟨_, _, rfl, s.at h, l⟩
  · exact ⟨p, vs, rfl, h1, l⟩
theorem is_ints : ∀ {vs : List V} {ds : List D} {ns : List Int}, IsL K H vs ds → dInts ds = some ns → vs = ns.map V.int
  | _, [], _, .nil, e => by simp [dInts] at e; subst e; rfl
  | _, .int i :: r, _, .cons a l, e => by
    simp only [dInts] at e
    cases q : dInts r with
    | none => rw [q] at e; cases e
    | some ms => rw [q] at e; cases e; rw [is_int a, is_ints l q]; rfl
  | _, .non :: _, _, _, e | _, .bl _ :: _, _, _, e | _, .str _ :: _, _, _, e | _, .ty _ :: _, _, _, e | _, .fn _ :: _, _, _, e | _, .cl _ :: _, _, _, e | _, .xc _ _ :: _, _, _, e | _, .tup _ :: _, _, _, e | _, .lst _ :: _, _, _, e | _, .ktp _ :: _, _, _, e | _, .slst _ :: _, _, _, e | _, .dk _ :: _, _, _, e | _, .dt _ :: _, _, _, e | _, .obj _ _ :: _, _, _, e | _, .nest _ _ _ :: _, _, _, e | _, .nestL _ _ _ _ :: _, _, _, e | _, .nobj _ _ _ :: _, _, _, e => by simp [dInts] at e
theorem is_bools : ∀ {vs : List V} {ds : List D} {ns : List Bool}, IsL K H vs ds → dBools ds = some ns → vs = ns.map V.bl
  | _, [], _, .nil, e => by simp [dBools] at e; subst e; rfl
  | _, .bl i :: r, _, .cons a l, e => by
    simp only [dBools] at e
    cases q : dBools r with
    | none => rw [q] at e; cases e
    | some ms => rw [q] at e; cases e; rw [is_bl a, is_bools l q]; rfl
  | _, .non :: _, _, _, e | _, .int _ :: _, _, _, e | _, .str _ :: _, _, _, e | _, .ty _ :: _, _, _, e | _, .fn _ :: _, _, _, e | _, .cl _ :: _, _, _, e | _, .xc _ _ :: _, _, _, e | _, .tup _ :: _, _, _, e | _, .lst _ :: _, _, _, e | _, .ktp _ :: _, _, _, e | _, .slst _ :: _, _, _, e | _, .dk _ :: _, _, _, e | _, .dt _ :: _, _, _, e | _, .obj _ _ :: _, _, _, e | _, .nest _ _ _ :: _, _, _, e | _, .nestL _ _ _ _ :: _, _, _, e | _, .nobj _ _ _ :: _, _, _, e => by simp [dBools] at e
end
section
variable {K : PySem.W.Frag} {Hb H : Hp}
theorem valD_rel {κ : Type} [DecidableEq κ] (k : κ) : ∀ {vs : List (κ × V)} {kvs : List (κ × D)}, vs.map (·.1) = kvs.map (·.1) → IsL K H (vs.map (·.2)) (kvs.map (·.2)) →
    (∀ d, valD kvs k = some d → ∃ v, valV vs k = some v ∧ Is K H v d) ∧ (valD kvs k = none → valV vs k = none)
  | [], [], _, _ => ⟨fun d h => by simp [valD] at h, fun _ => rfl⟩
  | [], _ :: _, e, _ => by simp at e
  | _ :: _, [], e, _ => by simp at e
  | (k1, v) :: vs, (k2, d) :: kvs, e, l => by
    simp only [List.map_cons, List.cons.injEq] at e
    obtain ⟨rfl, e⟩ := e
    simp only [List.map_cons] at l
    cases l with
    | cons a l =>
      by_cases hk : k1 = k
      · refine ⟨fun d' h => ?_, fun h => ?_⟩
        · have : valD ((k1, d) :: kvs) k = some d := by simp [valD, List.find?_cons, hk]
          rw [this] at h; cases h
          exact ⟨v, by simp [valV, List.find?_cons, hk], a⟩
        · have : valD ((k1, d) :: kvs) k = some d := by simp [valD, List.find?_cons, hk]
          rw [this] at h; cases h
      · have e1 : valD ((k1, d) :: kvs) k = valD kvs k := by simp [valD, List.find?_cons, hk]
        have e2 : valV ((k1, v) :: vs) k = valV vs k := by simp [valV, List.find?_cons, hk]
        rw [e1, e2]
        exact valD_rel k e l
theorem anyD_rel {κ : Type} [DecidableEq κ] (k : κ) : ∀ {vs : List (κ × V)} {kvs : List (κ × D)}, vs.map (·.1) = kvs.map (·.1) → (vs.any fun kv => decide (kv.1 = k)) = kvs.any fun kv => decide (kv.1 = k)
  | [], [], _ => rfl
  | [], _ :: _, e => by simp at e
  | _ :: _, [], e => by simp at e
  | (k1, v) :: vs, (k2, d) :: kvs, e => by
    simp only [List.map_cons, List.cons.injEq] at e
    obtain ⟨rfl, e⟩ := e
    simp only [List.any_cons, anyD_rel k e]
theorem mapPut_rel {κ : Type} [DecidableEq κ] (k : κ) {v : V} {d : D} (h : Is K H v d) : ∀ {vs : List (κ × V)} {kvs : List (κ × D)}, vs.map (·.1) = kvs.map (·.1) → IsL K H (vs.map (·.2)) (kvs.map (·.2)) →
    (vs.map fun kv => if kv.1 = k then (kv.1, v) else kv).map (·.1) = (kvs.map fun kv => if kv.1 = k then (kv.1, d) else kv).map (·.1) ∧ IsL K H ((vs.map fun kv => if kv.1 = k then (kv.1, v) else kv).map (·.2)) ((kvs.map fun kv => if kv.1 = k then (kv.1, d) else kv).map (·.2))
  | [], [], _, _ => ⟨rfl, .nil⟩
  | [], _ :: _, e, _ => by simp at e
  | _ :: _, [], e, _ => by simp at e
  | (k1, w) :: vs, (k2, x) :: kvs, e, l => by
    simp only [List.map_cons, List.cons.injEq] at e
    obtain ⟨rfl, e⟩ := e
    simp only [List.map_cons] at l
    cases l with
    | cons a l =>
      obtain ⟨h1, h2⟩ := mapPut_rel k h e l
      by_cases hk : k1 = k
      · simp only [List.map_cons, if_pos hk]
        exact ⟨by rw [h1], .cons h h2⟩
      · simp only [List.map_cons, if_neg hk]
        exact ⟨by rw [h1], .cons a h2⟩
theorem putD_rel {κ : Type} [DecidableEq κ] (k : κ) {v : V} {d : D} {vs : List (κ × V)} {kvs : List (κ × D)} (e : vs.map (·.1) = kvs.map (·.1)) (l : IsL K H (vs.map (·.2)) (kvs.map (·.2))) (h : Is K H v d) :
    (putK vs k v).map (·.1) = (putD kvs k d).map (·.1) ∧ IsL K H ((putK vs k v).map (·.2)) ((putD kvs k d).map (·.2)) := by
  unfold putK putD
  rw [anyD_rel k e]
  split
  · exact mapPut_rel k h e l
  · simp only [List.map_append, List.map_cons, List.map_nil]
    exact ⟨by rw [e], l.append (.cons h .nil)⟩

theorem is_keys : ∀ {vs : List V} {ds : List D} {ks : List Key}, IsL K H vs ds → keysOf ds = some ks → vs = ks.map kV
  | _, [], _, .nil, e => by simp [keysOf] at e; subst e; rfl
  | _, .int i :: r, _, .cons a l, e => by
    simp only [keysOf] at e
    cases q : keysOf r with
    | none => rw [q] at e; cases e
    | some ms => rw [q] at e; cases e; rw [is_int a, is_keys l q]; rfl
  | _, .str i :: r, _, .cons a l, e => by
    simp only [keysOf] at e
    cases q : keysOf r with
    | none => rw [q] at e; cases e
    | some ms => rw [q] at e; cases e; rw [is_str a, is_keys l q]; rfl
  | _, .non :: _, _, _, e | _, .bl _ :: _, _, _, e | _, .ty _ :: _, _, _, e | _, .fn _ :: _, _, _, e | _, .cl _ :: _, _, _, e | _, .xc _ _ :: _, _, _, e | _, .tup _ :: _, _, _, e | _, .lst _ :: _, _, _, e | _, .ktp _ :: _, _, _, e | _, .slst _ :: _, _, _, e | _, .dk _ :: _, _, _, e | _, .dt _ :: _, _, _, e | _, .obj _ _ :: _, _, _, e | _, .nest _ _ _ :: _, _, _, e | _, .nestL _ _ _ _ :: _, _, _, e | _, .nobj _ _ _ :: _, _, _, e => by simp [keysOf] at e
/-- the value at a key, if any; none: not a key that fits -/
def getK : D → D → Option (Option D)
  | .dk kvs, .int i => some (valD kvs (.inl i))
  | .dk kvs, .str s => some (valD kvs (.inr s))
  | .dt kvs, .tup ds => (keysOf ds).map (valD kvs ·)
  | .nest _ k kvs, .int i => if k = .inl i then none else some (valD kvs (.inl i))
  | .nest _ k kvs, .str s => if k = .inr s then none else some (valD kvs (.inr s))
  | .nestL _ _ k kvs, .str s => if k = .inr s then none else some (valD kvs (.inr s))
  | _, _ => none
def putKD : D → D → D → Option D
  | .dk kvs, .int i, v => some (.dk (putD kvs (.inl i) v))
  | .dk kvs, .str s, v => some (.dk (putD kvs (.inr s) v))
  | .dt kvs, .tup ds, v => (keysOf ds).map fun k => .dt (putD kvs k v)
  | .nest q k kvs, .int i, v => if k = .inl i then none else some (.nest q k (putD kvs (.inl i) v))
  | .nest q k kvs, .str s, v => if k = .inr s then none else some (.nest q k (putD kvs (.inr s) v))
  | _, _, _ => none
def sizeD : D → Nat
  | .nest _ _ kvs => kvs.length
  | .dk kvs => kvs.length
  | .dt kvs => kvs.length
  | _ => 0
theorem dget_k {a : Addr} {kvs : List (Key × V)} {k : Key} (e : Rd H a (.dK kvs)) : DGet H a (kV k) (valV kvs k) := .inl ⟨kvs, k, e, rfl, rfl⟩
theorem dget_t {a b : Addr} {kvs : List (List Key × V)} {k : List Key} (e : Rd H a (.dT kvs)) (eb : H b = some (.tup (k.map kV))) : DGet H a (.ref b) (valV kvs k) := .inr ⟨kvs, k, b, e, rfl, eb, rfl⟩
/-- a cell or a locked dict, to be read -/
def RCell (K : PySem.W.Frag) (Hb H : Hp) (p : Addr) : D → Prop
  | .dk kvs => ∃ vs : List (Key × V), Rd H p (.dK vs) ∧ vs.map (·.1) = kvs.map (·.1) ∧ IsL K Hb (vs.map (·.2)) (kvs.map (·.2))
  | .dt kvs => ∃ vs : List (List Key × V), Rd H p (.dT vs) ∧ vs.map (·.1) = kvs.map (·.1) ∧ IsL K Hb (vs.map (·.2)) (kvs.map (·.2))
  | .nestL _ _ k kvs => ∃ vs : List (Key × V), Rd H p (.dK vs) ∧ ∀ kk, kk ≠ k → (∀ x, valD kvs kk = some x → ∃ v, valV vs kk = some v ∧ Is K Hb v x) ∧ (valD kvs kk = none → valV vs kk = none)
  | .nest _ k kvs => ∃ vs : List (Key × V), Rd H p (.dK vs) ∧ ∀ kk, kk ≠ k → (∀ x, valD kvs kk = some x → ∃ v, valV vs kk = some v ∧ Is K Hb v x) ∧ (valD kvs kk = none → valV vs kk = none)
  | d => Cell K Hb H p d
theorem ER.val {κ : Type} [DecidableEq κ] {C : Addr → D → Prop} {k kk : κ} (n : kk ≠ k) : ∀ {vs : List (κ × V)} {kvs : List (κ × D)}, ER K Hb C p k vs kvs → (∀ x, valD kvs kk = some x → ∃ v, valV vs kk = some v ∧ Is K Hb v x) ∧ (valD kvs kk = none → valV vs kk = none)
  | [], [], _ => ⟨fun d h => by simp [valD] at h, fun _ => rfl⟩
  | v :: vs, d :: ds, h => by
    obtain ⟨h1, h2, h3⟩ := h
    by_cases z : d.1 = kk
    · rw [if_neg (by rw [z]; exact n)] at h2
      have e1 : valD (d :: ds) kk = some d.2 := by simp [valD, List.find?_cons, z]
      have e2 : valV (v :: vs) kk = some v.2 := by simp [valV, List.find?_cons, h1, z]
      rw [e1, e2]
      exact ⟨fun x e => by cases e; exact ⟨_, rfl, h2⟩, fun e => by cases e⟩
    · have e1 : valD (d :: ds) kk = valD ds kk := by simp [valD, List.find?_cons, z]
      have e2 : valV (v :: vs) kk = valV vs kk := by simp [valV, List.find?_cons, h1, z]
      rw [e1, e2]
      exact ER.val n h3
theorem ER.any {κ : Type} [DecidableEq κ] {C : Addr → D → Prop} {k : κ} (kk : κ) {vs : List (κ × V)} {kvs : List (κ × D)} (h : ER K Hb C p k vs kvs) : (vs.any fun kv => decide (kv.1 = kk)) = kvs.any fun kv => decide (kv.1 = kk) := anyD_rel kk h.keys
theorem ER.map {κ : Type} [DecidableEq κ] {C : Addr → D → Prop} {k kk : κ} (n : kk ≠ k) {w : V} {x : D} (i : Is K Hb w x) : ∀ {vs : List (κ × V)} {kvs : List (κ × D)}, ER K Hb C p k vs kvs →
    ER K Hb C p k (vs.map fun kv => if kv.1 = kk then (kv.1, w) else kv) (kvs.map fun kv => if kv.1 = kk then (kv.1, x) else kv)
  | [], [], _ => trivial
  | v :: vs, d :: ds, h => by
    obtain ⟨h1, h2, h3⟩ := h
    have ek : (ds.map fun kv => if kv.1 = kk then (kv.1, x) else kv).map (·.1) = ds.map (·.1) := by
      rw [List.map_map]
      refine List.map_congr_left fun a _ => ?_
      show (if a.1 = kk then (a.1, x) else a).1 = a.1
      split <;> rfl
    rw [List.map_cons, List.map_cons]
    by_cases z : d.1 = kk
    · rw [if_pos z, if_pos (h1.trans z)]
      exact ⟨h1, by rw [if_neg (by show d.1 ≠ k; rw [z]; exact n)]; exact i, ER.map n i h3⟩
    · rw [if_neg z, if_neg (by rw [h1]; exact z)]
      exact ⟨h1, by rw [ek]; exact h2, ER.map n i h3⟩
theorem ER.snoc {κ : Type} [DecidableEq κ] {C : Addr → D → Prop} {k kk : κ} (n : kk ≠ k) {w : V} {x : D} (i : Is K Hb w x) : ∀ {vs : List (κ × V)} {kvs : List (κ × D)}, ER K Hb C p k vs kvs → ER K Hb C p k (vs ++ [(kk, w)]) (kvs ++ [(kk, x)])
  | [], [], _ => ⟨rfl, by rw [if_neg n]; exact i, trivial⟩
  | v :: vs, d :: ds, h => by
    obtain ⟨h1, h2, h3⟩ := h
    refine ⟨h1, ?_, ER.snoc n i h3⟩
    by_cases z : d.1 = k
    · rw [if_pos z] at h2 ⊢
      refine ⟨h2.1, fun m => ?_⟩
      have m : k ∈ (ds ++ [(kk, x)]).map (·.1) := m
      rw [List.map_append, List.mem_append] at m
      rcases m with m | m
      · exact h2.2 m
      · exact n (by simpa using m : k = kk).symm
    · rw [if_neg z] at h2 ⊢; exact h2
theorem ER.put {κ : Type} [DecidableEq κ] {C : Addr → D → Prop} {k kk : κ} (n : kk ≠ k) {w : V} {x : D} (i : Is K Hb w x) {vs : List (κ × V)} {kvs : List (κ × D)} (h : ER K Hb C p k vs kvs) : ER K Hb C p k (putK vs kk w) (putD kvs kk x) := by
  unfold putK putD
  rw [h.any kk]
  split
  · exact h.map n i
  · exact h.snoc n i
theorem ER.heap {κ : Type} [DecidableEq κ] {k : κ} {H' : Hp} {vs : List (κ × V)} {kvs : List (κ × D)} (h : ER K Hb (Cell0 K Hb H) p k vs kvs) (e : ∀ a, a ≠ p → H' a = H a) : ER K Hb (Cell0 K Hb H') p k vs kvs :=
  h.mono (Sub.refl _) fun q d z _ c => Cell0.mono (Sub.refl _) (fun o ho => by rw [e q (h.part z).1]; exact ho) c
theorem Cell.r {p : Addr} : ∀ {d : D}, Cell K Hb H p d → RCell K Hb H p d
  | .dk _, ⟨_, h, k, l⟩ => ⟨_, .inl h, k, l⟩
  | .dt _, ⟨_, h, k, l⟩ => ⟨_, .inl h, k, l⟩
  | .lst _, c => c
  | .obj _ _, c => c
  | .nest _ _ _, ⟨vs, h, _, r⟩ => ⟨vs, .inl h, fun kk n => r.val n⟩
  | .nestL _ _ _ _, ⟨vs, h, _, r⟩ => ⟨vs, .inl h, fun kk n => r.val n⟩
  | .nobj _ _ _, c => c
theorem cell_of_is {p : Addr} : ∀ {d : D}, Is K Hb (.ref p) d → Sub Hb H → (match d with | .dk _ => True | .dt _ => True | .lst _ => True | .obj _ _ => True | .nest _ _ _ => True | .nestL _ _ _ _ => True | _ => False) → RCell K Hb H p d
  | .dk _, .dk h k l, s, _ => ⟨_, s.rd h, k, l⟩
  | .dt _, .dt h k l, s, _ => ⟨_, s.rd h, k, l⟩
  | .lst _, .lst h l, s, _ => ⟨_, s.at h, l⟩
  | .obj _ _, .obj c h k l, s, _ => ⟨_, _, _, c, s.at h, k, l⟩
  | .nest _ _ _, .nest h k l, s, _ => ⟨_, s.rd h, fun kk _ => valD_rel kk k l⟩
  | .nestL _ _ _ _, .nestL h k l, s, _ => ⟨_, s.rd h, fun kk _ => valD_rel kk k l⟩
theorem cell_get {p : Addr} {d kd : D} {y : V} {r : Option D} (c : RCell K Hb H p d) (hy : Is K Hb y kd) (s : Sub Hb H) (g : getK d kd = some r) :
    ∃ o, DGet H p y o ∧ (r = none → o = none) ∧ ∀ x, r = some x → ∃ v, o = some v ∧ Is K Hb v x := by
  cases d <;> cases kd <;> simp only [getK] at g <;> first | cases g | skip
  · obtain ⟨vs, h, e, l⟩ := c
    obtain rfl := is_int hy
    obtain ⟨h1, h2⟩ := valD_rel (Sum.inl _) e l
    exact ⟨_, dget_k (k := Sum.inl _) h, h2, h1⟩
  · obtain ⟨vs, h, e, l⟩ := c
    obtain rfl := is_str hy
    obtain ⟨h1, h2⟩ := valD_rel (Sum.inr _) e l
    exact ⟨_, dget_k (k := Sum.inr _) h, h2, h1⟩
  · obtain ⟨vs, h, e, l⟩ := c
    rename_i ds
    cases q : keysOf ds with
    | none => rw [q] at g; cases g
    | some ks =>
      rw [q] at g; cases g
      cases hy with
      | tup ht lt =>
        obtain rfl := is_keys lt q
        obtain ⟨h1, h2⟩ := valD_rel ks e l
        exact ⟨_, dget_t h (s.at ht), h2, h1⟩
  · obtain ⟨vs, h, r⟩ := c
    obtain rfl := is_int hy
    split at g
    · cases g
    · rename_i n
      cases g
      obtain ⟨h1, h2⟩ := r (Sum.inl _) (Ne.symm n)
      exact ⟨_, dget_k (k := Sum.inl _) h, h2, h1⟩
  · obtain ⟨vs, h, r⟩ := c
    obtain rfl := is_str hy
    split at g
    · cases g
    · rename_i n
      cases g
      obtain ⟨h1, h2⟩ := r (Sum.inr _) (Ne.symm n)
      exact ⟨_, dget_k (k := Sum.inr _) h, h2, h1⟩
  · obtain ⟨vs, h, r⟩ := c
    obtain rfl := is_str hy
    split at g
    · cases g
    · rename_i n
      cases g
      obtain ⟨h1, h2⟩ := r (Sum.inr _) (Ne.symm n)
      exact ⟨_, dget_k (k := Sum.inr _) h, h2, h1⟩
theorem partAt_map {κ : Type} [DecidableEq κ] {k kk : κ} (n : kk ≠ k) {w : V} : ∀ {vs : List (κ × V)}, partAt k (vs.map fun kv => if kv.1 = kk then (kv.1, w) else kv) = partAt k vs
  | [] => rfl
  | v :: vs => by
    rw [List.map_cons]
    unfold partAt
    by_cases z : v.1 = kk
    · rw [if_pos z, if_neg (by show v.1 ≠ k; rw [z]; exact n), if_neg (by rw [z]; exact n), partAt_map n]
    · rw [if_neg z, partAt_map n]
theorem partAt_snoc {κ : Type} [DecidableEq κ] {k kk : κ} (n : kk ≠ k) {w : V} : ∀ {vs : List (κ × V)}, partAt k (vs ++ [(kk, w)]) = partAt k vs
  | [] => by show (if kk = k then _ else _) = _; rw [if_neg n]; try rfl
  | v :: vs => by
    rw [List.cons_append]
    unfold partAt
    rw [partAt_snoc n]
theorem partAt_put {κ : Type} [DecidableEq κ] {k kk : κ} (n : kk ≠ k) {w : V} {vs : List (κ × V)} : partAt k (putK vs kk w) = partAt k vs := by
  unfold putK
  split
  · exact partAt_map n
  · exact partAt_snoc n
theorem cell_put {p : Addr} {d kd x d' : D} {y v : V} (c : Cell K Hb H p d) (hy : Is K Hb y kd) (hv : Is K Hb v x) (s : Sub Hb H) (hz : sizeD d < 1000000) (g : putKD d kd x = some d') :
    ∃ o, DPut H p y v (upd H p o) ∧ Cell K Hb (upd H p o) p d' ∧ ∀ a, a ∈ partsOf d' → foot H p d a := by
  cases d <;> cases kd <;> simp only [putKD] at g <;> first | cases g | skip
  · obtain ⟨vs, h, e, l⟩ := c
    obtain rfl := is_int hy
    obtain ⟨h1, h2⟩ := putD_rel (Sum.inl _) e l hv
    have hl : vs.length < sizeLine := by
      have := congrArg List.length e
      simp only [List.length_map] at this
      rw [this]; exact Nat.lt_of_lt_of_le hz (by decide)
    exact ⟨_, DPut.k (k := Sum.inl _) h hl, ⟨_, upd_same, h1, h2⟩, fun a z => by cases z⟩
  · obtain ⟨vs, h, e, l⟩ := c
    obtain rfl := is_str hy
    obtain ⟨h1, h2⟩ := putD_rel (Sum.inr _) e l hv
    have hl : vs.length < sizeLine := by
      have := congrArg List.length e
      simp only [List.length_map] at this
      rw [this]; exact Nat.lt_of_lt_of_le hz (by decide)
    exact ⟨_, DPut.k (k := Sum.inr _) h hl, ⟨_, upd_same, h1, h2⟩, fun a z => by cases z⟩
  · obtain ⟨vs, h, e, l⟩ := c
    rename_i ds
    cases q : keysOf ds with
    | none => rw [q] at g; cases g
    | some ks =>
      rw [q] at g; cases g
      cases hy with
      | tup ht lt =>
        obtain rfl := is_keys lt q
        obtain ⟨h1, h2⟩ := putD_rel ks e l hv
        have hl : vs.length < sizeLine := by
          have := congrArg List.length e
          simp only [List.length_map] at this
          rw [this]; exact Nat.lt_of_lt_of_le hz (by decide)
        exact ⟨_, DPut.t h (s.at ht) hl, ⟨_, upd_same, h1, h2⟩, fun a z => by cases z⟩
  · obtain ⟨vs, h, w, r⟩ := c
    obtain rfl := is_int hy
    split at g
    · cases g
    · rename_i n
      cases g
      have hl : vs.length < sizeLine := by
        have := congrArg List.length r.keys
        simp only [List.length_map] at this
        rw [this]; exact Nat.lt_of_lt_of_le hz (by decide)
      exact ⟨_, DPut.k (k := Sum.inl _) h hl, ⟨_, upd_same, (partAt_put (Ne.symm n)).trans w, (r.put (Ne.symm n) hv).heap fun a ne => upd_ne ne⟩, fun a z => .inr z⟩
  · obtain ⟨vs, h, w, r⟩ := c
    obtain rfl := is_str hy
    split at g
    · cases g
    · rename_i n
      cases g
      have hl : vs.length < sizeLine := by
        have := congrArg List.length r.keys
        simp only [List.length_map] at this
        rw [this]; exact Nat.lt_of_lt_of_le hz (by decide)
      exact ⟨_, DPut.k (k := Sum.inr _) h hl, ⟨_, upd_same, (partAt_put (Ne.symm n)).trans w, (r.put (Ne.symm n) hv).heap fun a ne => upd_ne ne⟩, fun a z => .inr z⟩
end
end DL

/-! DL2b: operators and built-ins over data, one rule for all kinds of values. -/
namespace DL
open PySem L2
open PyProof.Rows hiding St

/-- one factor small, or both together below a million bits -/
def CMulO (i j : Int) : Prop := (-(2 ^ 64) < i ∧ i < 2 ^ 64) ∨ (-(2 ^ 64) < j ∧ j < 2 ^ 64) ∨ i.natAbs.log2 + j.natAbs.log2 < 1000000
def CFdiv (_ j : Int) : Prop := j ≠ 0 ∧ j.natAbs.log2 < 9000
def gAdd : G2
  | .int i, .int j, k => k (.int (i + j))
  | .lst a, .lst b, k => a.length + b.length ≤ 1000000 ∧ k (.lst (a ++ b))
  | .tup a, .tup b, k => a.length + b.length ≤ 1000000 ∧ k (.tup (a ++ b))
  | .str a, .str b, k => a.length + b.length ≤ 1000000 ∧ k (.str (a ++ b))
  | _, _, _ => False
def gSub : G2
  | .int i, .int j, k => k (.int (i - j))
  | _, _, _ => False
def gMul : G2
  | .int i, .int j, k => CMulO i j ∧ k (.int (i * j))
  | .tup a, .int j, k => (a ≠ [] ∧ a.length ≤ 1000 ∧ 1 ≤ j ∧ j ≤ 1000) ∧ k (.tup (List.replicate j.toNat a).flatten)
  | _, _, _ => False
/-- // and % by any divisor but 0; by a positive one as / and % -/
def gFdiv : G2
  | .int i, .int j, k => (j ≠ 0 ∧ j.natAbs.log2 < 9000) ∧ k (.int (i.fdiv j))
  | _, _, _ => False
def gFmod : G2
  | .int i, .int j, k => j ≠ 0 ∧ k (.int (i.fmod j))
  | _, _, _ => False
def gPow : G2
  | .int i, .int j, k => (0 ≤ j ∧ j ≤ 1000000 ∧ i.natAbs < 2 ^ 64) ∧ k (.int (i ^ j.toNat))
  | _, _, _ => False
def gNeg : G1
  | .int i, k => k (.int (-i))
  | _, _ => False
/-- tuples of ints in Python's order -/
def gLt : G2 := fun x y k => match x, y with
  | .int i, .int j => k (.bl (decide (i < j)))
  | _, _ => ∃ a b ns ms, tupD x = some a ∧ tupD y = some b ∧ dInts a = some ns ∧ dInts b = some ms ∧ k (.bl (HT.lexLt ns ms))
def gLe : G2 := fun x y k => match x, y with
  | .int i, .int j => k (.bl (decide (i ≤ j)))
  | _, _ => ∃ a b ns ms, tupD x = some a ∧ tupD y = some b ∧ dInts a = some ns ∧ dInts b = some ms ∧ k (.bl (Ob.lexAt (fun j => decide (ns.getD j 0 = ms.getD j 0)) (fun j => decide (ns.getD j 0 ≤ ms.getD j 0)) (decide (ns.length ≤ ms.length)) 0 (min ns.length ms.length)))
def gGe : G2
  | .int i, .int j, k => k (.bl (decide (j ≤ i)))
  | _, _, _ => False
/-- == of plain data -/
def gEq : G2 := fun x y k => ∃ a b, pd x = some a ∧ pd y = some b ∧ SeqAt.shaped a = true ∧ SeqAt.shaped b = true ∧ k (.bl (PyData.eqv a b))
def gNe : G2 := fun x y k => ∃ a b, pd x = some a ∧ pd y = some b ∧ SeqAt.shaped a = true ∧ SeqAt.shaped b = true ∧ k (.bl (!PyData.eqv a b))
@[simp] def isN : D → Bool
  | .non => true
  | _ => false
/-- an item, a value at a key, a sign -/
def gIx : G2 := fun x y k => match x, y with
  | .tup ds, .int i => ∃ d, atI ds i = some d ∧ k d
  | .lst ds, .int i => ∃ d, atI ds i = some d ∧ k d
  | .ktp ds, .int i => ∃ d, atI ds i = some d ∧ k d
  | .slst ds, .int i => ∃ d, atI ds i = some d ∧ k d
  | .str z, .int i => z.length ≤ 1000000 ∧ ∃ c, atI z.cps.toList i = some c ∧ k (.str ⟨#[c]⟩)
  | _, _ => ∃ d, getK x y = some (some d) ∧ k d
def inB (x c : D) (k : Bool → Prop) : Prop := match c with
  | .lst ds => ∃ a xs, pd x = some a ∧ pdL ds = some xs ∧ SeqAt.shaped a = true ∧ SeqAt.shaped (.list xs) = true ∧ k (xs.any fun z => PyData.eqv z a)
  | .str z => ∃ y, x = .str y ∧ k (!(Builtin.Str.occurrences z y 0 z.length 1).isEmpty)
  | _ => ∃ r, getK c x = some r ∧ k r.isSome
def gIn : G2 := fun x c k => inB x c fun b => k (.bl b)
def gLen : GN
  | [.tup ds], k => k (.int ds.length)
  | [.lst ds], k => k (.int ds.length)
  | [.ktp ds], k => k (.int ds.length)
  | [.slst ds], k => k (.int ds.length)
  | [.dk ds], k => k (.int ds.length)
  | [.dt ds], k => k (.int ds.length)
  | [.str z], k => z.length ≤ 1000000 ∧ k (.int z.length)
  | _, _ => False
def gAbs : GN
  | [.int i], k => k (.int (if i < 0 then -i else i))
  | _, _ => False
def gInt : GN
  | [.int i], k => k (.int i)
  | [.bl b], k => k (.int (if b then 1 else 0))
  | _, _ => False
def gMax2 : GN
  | [.int i, .int j], k => k (.int (if j > i then j else i))
  | _, _ => False
def gTuple : GN := fun xs k => match xs with
  | [.tup ds] => k (.tup ds)
  | [.lst ds] => k (.tup ds)
  | [.ktp ds] => k (.ktp ds)
  | [.slst ds] => k (.tup ds)
  | _ => False
def gList : GN := fun xs k => ∃ d es, xs = [d] ∧ (tupD d = some es ∨ lstD d = some es) ∧ k (.lst es)
def gSum : GN := fun xs k => ∃ d es ns, xs = [d] ∧ lstD d = some es ∧ dInts es = some ns ∧ k (.int ns.sum)
def gAll : GN := fun xs k => ∃ d es bs, xs = [d] ∧ lstD d = some es ∧ dBools es = some bs ∧ k (.bl (bs.all id))
section
variable {X : Cx} {K : PySem.W.Frag} {Hb H : Hp}
abbrev rAddU (K : PySem.W.Frag) : R2 := fun x y H Q => (rI0 fun i j => .int (i + j)) x y H Q ∨ (rCat x y H Q ∨ (rCatA K x y H Q ∨ ∃ i j, x = .str i ∧ y = .str j ∧ i.length + j.length ≤ sizeLine ∧ Q (.str (i ++ j)) H))
theorem op_addU : OpR X (binaryOp .Add) (rAddU X.K) := op_add.or (op_cat.or (op_catA.or op_add_str))
theorem rv_add : RV2 K (rAddU K) gAdd := fun Hb H x y dx dy k Q s ix iy g q => by
  cases dx <;> cases dy <;> first | exact g.elim | skip
  · exact .inl ⟨_, _, o_int ix, o_int iy, q _ _ _ _ g .refl (.int _)⟩
  · exact .inr (.inr (.inr ⟨_, _, o_str ix, o_str iy, Nat.le_trans g.1 (by decide), q _ _ _ _ g.2 .refl (.str _)⟩))
  · obtain ⟨i1, a, vs, e1, h1, l1⟩ := o_tupD s ix rfl
    obtain ⟨i2, b, ws, e2, h2, l2⟩ := o_tupD s iy rfl
    refine .inr (.inr (.inl ⟨a, b, vs, ws, e1, e2, h1, h2, by rw [l1.length, l2.length]; exact Nat.le_trans g.1 (by decide), fun e => ?_, fun _ e => ?_, fun _ _ p hp => ?_⟩))
    · subst e
      have z := l1.length
      have z := List.eq_nil_of_length_eq_zero (by rw [← z]; rfl)
      subst z
      rw [← e2]
      exact q _ _ _ _ g.2 .refl i2
    · subst e
      have z := l2.length
      have z := List.eq_nil_of_length_eq_zero (by rw [← z]; rfl)
      subst z
      rw [← e1]
      have g2 := g.2
      rw [List.append_nil] at g2
      exact q _ _ _ _ g2 .refl i1
    · exact q _ _ _ _ g.2 (.one hp) (.tup upd_same ((l1.append l2).mono (Sub.new (s.none hp))))
  · obtain ⟨a, vs, e1, h1, l1⟩ := o_lst s ix
    obtain ⟨b, ws, e2, h2, l2⟩ := o_lst s iy
    exact .inr (.inl ⟨a, b, vs, ws, e1, e2, h1, h2, by rw [l1.length, l2.length]; exact Nat.le_trans g.1 (by decide), fun p hp => q _ _ _ _ g.2 (.one hp) (.lst upd_same ((l1.append l2).mono (Sub.new (s.none hp))))⟩)
theorem rv_sub : RV2 K (rI0 fun i j => .int (i - j)) gSub := fun Hb H x y dx dy k Q s ix iy g q => by
  cases dx <;> cases dy <;> first | exact g.elim | skip
  exact ⟨_, _, o_int ix, o_int iy, q _ _ _ _ g .refl (.int _)⟩
theorem op_mulO : OpR X (binaryOp .Mult) (rI CMulO fun i j => .int (i * j)) := opI fun _ _ _ _ _ _ _ hc q => mul_int q (by
  rcases hc with h | h | h
  · exact CMul.ok (.inl h)
  · exact CMul.ok (.inr h)
  · exact CMulW.ok h)
/-- t * 1 is t -/
theorem tuple_mul1 (l : Addr) (items : Array Value) (n : Nat) (dd : Option Addr) (sl : Array (Option Value)) (u : Tok) :
    Meets (Builtin.«tuple.__mul__» ⟨[.ref l, .int 1 u], []⟩) (fun _ R s => s.heap.get? l = some { cls := .type "tuple", dict := dd, data := .seq items n, slots := sl } ∧ R (.ok (.ret (Value.ref l))) s) :=
  .of_wp fun prog w A R s h => by
    obtain ⟨hp, g, d, tk, os⟩ := s
    obtain ⟨hl, h⟩ := h
    have f1 := AutoSeq1.idx_int
    wp_walk using wpAny_loadPart' hl
    repeat (first
      | (refine wpAny_ite_true (by simp) ?_; wp_walk using wpAny_loadPart' hl)
      | (refine wpAny_ite_false (by simp) ?_; wp_walk using wpAny_loadPart' hl))
    exact ⟨_, rfl, h⟩
def rRep1 (K : PySem.W.Frag) : R2 := fun x y H Q => ∃ l xs, x = .ref l ∧ y = .int 1 ∧ SqT K H l xs ∧ Q (.ref l) H
theorem op_rep1 : OpR X (binaryOp .Mult) (rRep1 X.K) := by
  intro pins s σ H x y v u Q I rx ry h
  obtain ⟨l, xs, rfl, rfl, hT, q⟩ := h
  cases rx
  obtain ⟨t, rfl⟩ := ry
  obtain ⟨its, r, ⟨⟨cls, dd, data, sl⟩, ho, hc, n, hd⟩, hs⟩ := I.tuple hT
  simp only at hc hd
  subst hc hd
  exact wpAny_binaryOp_repeat_ref (T := "tuple") (U := "int") (by decide) ⟨_, ho, rfl⟩ (fun s' => typeIs_int s' 1 t) noFill_tuple_mul F.fills_int_mul F.slot_int_rmul repeat_tuple F.slot_int_index.lookup
    (call_meets F.slot_int_rmul (typeIs_int s 1 t) F.entry_int_rmul (F.args_int_rmul_2 _ _) (int_rmul_tuple 1 t l its.toArray n dd sl)
      ⟨ho, rfl, ⟨_, ho, rfl⟩, call_meets F.slot_tuple_mul ⟨_, ho, rfl⟩ F.entry_tuple_mul (F.args_tuple_mul_2 _ _) (tuple_mul1 l its.toArray n dd sl t) ⟨ho, ⟨.ref l, H, I, rfl, q⟩⟩⟩)
abbrev rMulU (K : PySem.W.Frag) : R2 := fun x y H Q => (rI CMulO fun i j => .int (i * j)) x y H Q ∨ (rRep1 K x y H Q ∨ rRepT K x y H Q)
theorem op_mulU : OpR X (binaryOp .Mult) (rMulU X.K) := op_mulO.or (op_rep1.or op_repT)
theorem isL_rep : ∀ (n : Nat) {vs : List V} {ds : List D}, IsL K H vs ds → IsL K H (List.replicate n vs).flatten (List.replicate n ds).flatten
  | 0, _, _, _ => .nil
  | n + 1, _, _, l => by
    rw [List.replicate_succ, List.replicate_succ, List.flatten_cons, List.flatten_cons]
    exact l.append (isL_rep n l)
theorem rv_mul : RV2 K (rMulU K) gMul := fun Hb H x y dx dy k Q s ix iy g q => by
  cases dx <;> cases dy <;> first | exact g.elim | skip
  · exact .inl ⟨_, _, o_int ix, o_int iy, g.1, q _ _ _ _ g.2 .refl (.int _)⟩
  · obtain ⟨i1, a, vs, e1, h1, l1⟩ := o_tupD s ix rfl
    rename_i ds j
    obtain ⟨⟨g1, g2, g3, g4⟩, g5⟩ := g
    obtain rfl := o_int iy
    by_cases hj : j = 1
    · subst hj
      refine .inr (.inl ⟨a, vs, e1, rfl, h1, ?_⟩)
      rw [← e1]
      have e : (List.replicate (1 : Int).toNat ds).flatten = ds := by
        show (List.replicate 1 ds).flatten = ds
        simp
      rw [e] at g5
      exact q _ _ _ _ g5 .refl i1
    · have hne : vs ≠ [] := fun z => g1 (List.eq_nil_of_length_eq_zero (by rw [← l1.length, z]; rfl))
      exact .inr (.inr ⟨a, j, vs, e1, rfl, h1, hne, by omega, g4, by rw [l1.length]; exact g2, fun p hp => q _ _ _ _ g5 (.one hp) (.tup upd_same ((isL_rep _ l1).mono (Sub.new (s.none hp))))⟩)
theorem op_fdivG : OpR X (binaryOp .FloorDiv) (rI CFdiv fun i j => .int (i.fdiv j)) := opI fun i j _ _ _ _ _ hc q =>
  floordiv_int hc.1 q (.inl (PyProof.noPylong_of_log2 hc.2))
theorem rv_fdiv : RV2 K (rI CFdiv fun i j => .int (i.fdiv j)) gFdiv := fun Hb H x y dx dy k Q s ix iy g q => by
  cases dx <;> cases dy <;> first | exact g.elim | skip
  exact ⟨_, _, o_int ix, o_int iy, g.1, q _ _ _ _ g.2 .refl (.int _)⟩
theorem rv_fmod : RV2 K (rI (fun _ j => j ≠ 0) fun i j => .int (i.fmod j)) gFmod := fun Hb H x y dx dy k Q s ix iy g q => by
  cases dx <;> cases dy <;> first | exact g.elim | skip
  exact ⟨_, _, o_int ix, o_int iy, g.1, q _ _ _ _ g.2 .refl (.int _)⟩
theorem rv_pow : RV2 K (rI CPow fun i j => .int (i ^ j.toNat)) gPow := fun Hb H x y dx dy k Q s ix iy g q => by
  cases dx <;> cases dy <;> first | exact g.elim | skip
  exact ⟨_, _, o_int ix, o_int iy, g.1, q _ _ _ _ g.2 .refl (.int _)⟩
theorem rv_neg : RV1 K (rU fun i => .int (-i)) gNeg := fun Hb H x dx k Q s ix g q => by
  cases dx <;> first | exact g.elim | skip
  exact ⟨_, o_int ix, q _ _ _ _ g .refl (.int _)⟩
abbrev rLtU (K : PySem.W.Frag) : R2 := fun x y H Q => (rI0 fun i j => .bl (decide (i < j))) x y H Q ∨ rLtT K x y H Q
theorem op_ltU (hu : X.A.units < cLine) : OpR X (compareOp .Lt) (rLtU X.K) := op_lt.or (op_ltT hu)
theorem tups_ints (s : Sub Hb H) {v : V} {d : D} {a : List D} {ns : List Int} (h : IsO K Hb H v d) (e : tupD d = some a) (n : dInts a = some ns) : ∃ p, v = .ref p ∧ SqT K H p (ns.map V.int) := by
  obtain ⟨_, p, vs, e1, h1, l1⟩ := o_tupD s h e
  rw [is_ints l1 n] at h1
  exact ⟨p, e1, h1⟩
theorem rv_lt : RV2 K (rLtU K) gLt := fun Hb H x y dx dy k Q s ix iy g q => by
  have T : (∃ a b ns ms, tupD dx = some a ∧ tupD dy = some b ∧ dInts a = some ns ∧ dInts b = some ms ∧ k (.bl (HT.lexLt ns ms))) → rLtU K x y H Q := fun ⟨a, b, ns, ms, e1, e2, e3, e4, g⟩ => by
    obtain ⟨p, h1, h2⟩ := tups_ints s ix e1 e3
    obtain ⟨p', h3, h4⟩ := tups_ints s iy e2 e4
    exact .inr ⟨p, p', ns, ms, h1, h3, h2, h4, q _ _ _ _ g .refl (.bl _)⟩
  unfold gLt at g
  split at g
  · exact .inl ⟨_, _, o_int ix, o_int iy, q _ _ _ _ g .refl (.bl _)⟩
  · exact T g
abbrev rLeU (K : PySem.W.Frag) : R2 := fun x y H Q => (rI0 fun i j => .bl (decide (i ≤ j))) x y H Q ∨ rLeT K x y H Q
theorem op_leU (hu : X.A.units < cLine) : OpR X (compareOp .LtE) (rLeU X.K) := op_le.or (op_leT hu)
theorem rv_le : RV2 K (rLeU K) gLe := fun Hb H x y dx dy k Q s ix iy g q => by
  unfold gLe at g
  split at g
  · exact .inl ⟨_, _, o_int ix, o_int iy, q _ _ _ _ g .refl (.bl _)⟩
  · obtain ⟨a, b, ns, ms, e1, e2, e3, e4, g⟩ := g
    obtain ⟨p, h1, h2⟩ := tups_ints s ix e1 e3
    obtain ⟨p', h3, h4⟩ := tups_ints s iy e2 e4
    exact .inr ⟨p, p', ns, ms, h1, h3, h2, h4, q _ _ _ _ g .refl (.bl _)⟩
theorem rv_ge : RV2 K (rI0 fun i j => .bl (decide (j ≤ i))) gGe := fun Hb H x y dx dy k Q s ix iy g q => by
  cases dx <;> cases dy <;> first | exact g.elim | skip
  exact ⟨_, _, o_int ix, o_int iy, q _ _ _ _ g .refl (.bl _)⟩
theorem rv_eq : RV2 K (rEqD K) gEq := fun Hb H x y dx dy k Q s ix iy g q => by
  obtain ⟨a, b, ha, hb, sa, sb, g⟩ := g
  exact ⟨a, b, (ix.is s).dp ha, (iy.is s).dp hb, sa, sb, q _ _ _ _ g .refl (.bl _)⟩
theorem rv_ne : RV2 K (rNeD K) gNe := fun Hb H x y dx dy k Q s ix iy g q => by
  obtain ⟨a, b, ha, hb, sa, sb, g⟩ := g
  exact ⟨a, b, (ix.is s).dp ha, (iy.is s).dp hb, sa, sb, q _ _ _ _ g .refl (.bl _)⟩
theorem atI_is {vs : List V} {ds : List D} {i : Int} {d : D} (l : IsL K H vs ds) (h : atI ds i = some d) : ∃ v, atI vs i = some v ∧ Is K H v d := by
  unfold atI at h ⊢
  rw [l.length]
  cases e : ixN ds.length i with
  | none => rw [e] at h; cases h
  | some j =>
    rw [e] at h
    obtain ⟨v, h1, h2⟩ := l.get (show ds[j]? = some d from h)
    exact ⟨v, h1, h2⟩
/-- what may be looked up -/
def isDict : D → Prop
  | .dk _ => True
  | .dt _ => True
  | .nest _ _ _ => True
  | .nestL _ _ _ _ => True
  | _ => False
theorem isDict_ref {v : V} {d : D} (h : isDict d) (i : Is K H v d) : ∃ p, v = .ref p := by
  cases d <;> first | exact h.elim | skip
  · cases i; exact ⟨_, rfl⟩
  · cases i; exact ⟨_, rfl⟩
  · cases i; exact ⟨_, rfl⟩
  · cases i; exact ⟨_, rfl⟩
theorem isDict_cell {p : Addr} {d : D} (h : isDict d) (i : Is K Hb (.ref p) d) (s : Sub Hb H) : RCell K Hb H p d := by
  refine cell_of_is i s ?_
  cases d <;> first | exact h.elim | exact trivial
theorem getK_dict {d k : D} {r : Option D} (h : getK d k = some r) : isDict d := by
  cases d <;> cases k <;> simp only [getK] at h <;> first | exact trivial | cases h
/-- a dict, frozen or a slot's own -/
theorem o_dict (s : Sub Hb H) {v : V} {d : D} (h : IsO K Hb H v d) (hd : isDict d) : ∃ p, v = .ref p ∧ RCell K Hb H p d := by
  rcases h with h | ⟨p, rfl, c⟩
  · obtain ⟨p, rfl⟩ := isDict_ref hd h
    exact ⟨p, rfl, isDict_cell hd h s⟩
  · exact ⟨p, rfl, c.r⟩
theorem o_key (s : Sub Hb H) {v : V} {d c : D} {r : Option D} (h : IsO K Hb H v d) (g : getK c d = some r) : Is K Hb v d := by
  rcases h with h | ⟨p, rfl, cl⟩
  · exact h
  · cases c <;> cases d <;> simp only [getK] at g <;> first | exact cl.elim | (cases g; done)
def rIxDc : R2 := fun x y H Q => ∃ a v, x = .ref a ∧ DGet H a y (some v) ∧ Q v H
theorem ix_dict (hu : X.A.units + 1 < cLine) : IxR X rIxDc := by
  intro value slice pins s σ H x y v u Q I rx ry h hs
  obtain ⟨a, z, rfl, g, q⟩ := h
  obtain rfl : v = Value.ref a := rx
  exact tail_any (dict_typeIs I g) PySem.F.slot_dict_getitem.lookup (d_getItem hu I g ry fun w' s3 I3 rw' => ⟨z, H, I3, rw', q⟩) hs
abbrev rIxU (K : PySem.W.Frag) : R2 := fun x y H Q => rIx K x y H Q ∨ rIxDc x y H Q
theorem ix_U (hu : X.A.units + 1 < cLine) : IxR X (rIxU X.K) := IxR.or ix_seq (ix_dict hu)
theorem rv_ix : RV2 K (rIxU K) gIx := fun Hb H x y dx dy k Q s ix iy g q => by
  have T : ∀ {ds : List D} {i : Int}, tupD dx = some ds → IsO K Hb H y (.int i) → (∃ d, atI ds i = some d ∧ k d) → rIxU K x y H Q := fun {ds i} e iy g => by
    obtain ⟨_, a, vs, e, h, l⟩ := o_tupD s ix e
    obtain ⟨d, ha, g⟩ := g
    obtain ⟨v, hv, iv⟩ := atI_is l ha
    exact .inl (.inr (.inl ⟨a, vs, _, v, e, o_int iy, h, hv, q _ _ _ _ g .refl iv⟩))
  have L : ∀ {ds : List D} {i : Int}, lstD dx = some ds → IsO K Hb H y (.int i) → (∃ d, atI ds i = some d ∧ k d) → rIxU K x y H Q := fun {ds i} e iy g => by
    obtain ⟨a, vs, e, h, l⟩ := o_lstD s ix e
    obtain ⟨d, ha, g⟩ := g
    obtain ⟨v, hv, iv⟩ := atI_is l ha
    exact .inl (.inl ⟨a, vs, _, v, e, o_int iy, h, hv, q _ _ _ _ g .refl iv⟩)
  have Dc : (∃ d, getK dx dy = some (some d) ∧ k d) → rIxU K x y H Q := fun ⟨d, e, g⟩ => by
    obtain ⟨p, rfl, c⟩ := o_dict s ix (getK_dict e)
    obtain ⟨o, dg, _, h2⟩ := cell_get c (o_key s iy e) s e
    obtain ⟨w, rfl, iw⟩ := h2 d rfl
    exact .inr ⟨p, w, rfl, dg, q _ _ _ _ g .refl iw⟩
  unfold gIx at g
  split at g
  · exact T rfl iy g
  · exact L rfl iy g
  · exact T rfl iy g
  · exact L rfl iy g
  · obtain ⟨g1, c, g2, g3⟩ := g
    exact .inl (.inr (.inr ⟨_, _, c, o_str ix, o_int iy, Nat.le_trans g1 (by decide), g2, q _ _ _ _ g3 .refl (.str _)⟩))
  · exact Dc g
/-- in, not in -/
def rInDc (neg : Bool) : R2 := fun x y H Q => ∃ a o, y = .ref a ∧ DGet H a x o ∧ Q (.bl (if neg then !o.isSome else o.isSome)) H
theorem op_inDc (hu : X.A.units + 1 < cLine) : OpR X (compareOp .In) (rInDc false) := by
  intro pins s σ H x y v u Q I rx ry h
  obtain ⟨a, o, rfl, g, q⟩ := h
  obtain rfl : u = Value.ref a := ry
  exact d_in hu I g rx fun s3 I3 => ⟨.bl o.isSome, H, I3, rfl, q⟩
abbrev rInU (K : PySem.W.Frag) : R2 := fun x y H Q => rInD K x y H Q ∨ ((∃ i j, x = .str i ∧ y = .str j ∧ Q (.bl (!(Builtin.Str.occurrences j i 0 j.length 1).isEmpty)) H) ∨ rInDc false x y H Q)
theorem op_inU (hu : X.A.units + 65 < cLine) : OpR X (compareOp .In) (rInU X.K) := (op_inD hu).or (op_in_str.or (op_inDc (by omega)))
theorem pd_lst {ds : List D} {xs : List PyData} (h : pdL ds = some xs) : pd (.lst ds) = some (.list xs) := by simp [pd, h]
theorem in_cases {x c : D} {k : Bool → Prop} (h : inB x c k) : (∃ ds a xs, c = .lst ds ∧ pd x = some a ∧ pdL ds = some xs ∧ SeqAt.shaped a = true ∧ SeqAt.shaped (.list xs) = true ∧ k (xs.any fun z => PyData.eqv z a)) ∨
    (∃ z y, c = .str z ∧ x = .str y ∧ k (!(Builtin.Str.occurrences z y 0 z.length 1).isEmpty)) ∨ ∃ r, getK c x = some r ∧ k r.isSome := by
  unfold inB at h
  split at h
  · obtain ⟨a, xs, h⟩ := h
    exact .inl ⟨_, a, xs, rfl, h⟩
  · obtain ⟨y, h1, h2⟩ := h
    exact .inr (.inl ⟨_, y, rfl, h1, h2⟩)
  · exact .inr (.inr h)
theorem o_get (s : Sub Hb H) {v u : V} {c x : D} {r : Option D} (hc : IsO K Hb H u c) (hx : IsO K Hb H v x) (g : getK c x = some r) : ∃ p o, u = .ref p ∧ DGet H p v o ∧ o.isSome = r.isSome := by
  obtain ⟨p, rfl, cc⟩ := o_dict s hc (getK_dict g)
  obtain ⟨o, dg, h1, h2⟩ := cell_get cc (o_key s hx g) s g
  refine ⟨p, o, rfl, dg, ?_⟩
  cases r with
  | none => rw [h1 rfl]; rfl
  | some z => obtain ⟨w, e, _⟩ := h2 z rfl; rw [e]; rfl
theorem rv_in : RV2 K (rInU K) gIn := fun Hb H x y dx dy k Q s ix iy g q => by
  rcases in_cases g with ⟨ds, a, xs, e1, h1, h2, h3, h4, g2⟩ | ⟨z, w, e1, e2, g2⟩ | ⟨r, h, g2⟩
  · subst e1
    exact .inl ⟨a, xs, (ix.is s).dp h1, (iy.is s).dp (pd_lst h2), h3, h4, q _ _ _ _ g2 .refl (.bl _)⟩
  · subst e1 e2
    exact .inr (.inl ⟨_, _, o_str ix, o_str iy, q _ _ _ _ g2 .refl (.bl _)⟩)
  · obtain ⟨p, o, e, dg, ho⟩ := o_get s iy ix h
    exact .inr (.inr ⟨p, o, e, dg, by rw [ho]; exact q _ _ _ _ g2 .refl (.bl _)⟩)
/-! ### built-ins -/
theorem o_one {xs : List V} {d : D} (l : IsOL K Hb H xs [d]) : ∃ v, xs = [v] ∧ IsO K Hb H v d := by
  cases l with
  | cons a l => cases l; exact ⟨_, rfl, a⟩
theorem o_two {xs : List V} {d e : D} (l : IsOL K Hb H xs [d, e]) : ∃ v w, xs = [v, w] ∧ IsO K Hb H v d ∧ IsO K Hb H w e := by
  cases l with
  | cons a l =>
    obtain ⟨w, rfl, b⟩ := o_one l
    exact ⟨_, w, rfl, a, b⟩
theorem call_lenDr : CallR X (.builtin "len") (fun xs H Q => ∃ a kvs, xs = [V.ref a] ∧ Rd H a (.dK kvs) ∧ Q (.int kvs.length) H) := by
  intro pins s σ H xs us Q I r h
  obtain ⟨a, kvs, rfl, ha, q⟩ := h
  obtain ⟨u, rfl, ru⟩ := vals1 r
  cases ru
  exact d_len I ha fun t s' I' => ⟨.int kvs.length, H, I', ⟨t, rfl⟩, q⟩
def rLenTr : List V → Hp → VK → Prop := fun xs H Q => ∃ (p : Addr) (kvs : List (List Key × V)), xs = [.ref p] ∧ Rd H p (.dT kvs) ∧ Q (.int ((kvs.length : Nat) : Int)) H
theorem call_len_dTr : CallR X (.builtin "len") rLenTr := by
  intro pins s σ H xs us Q I r h
  obtain ⟨p, kvs, rfl, hp, q⟩ := h
  obtain ⟨u, rfl, rx⟩ := vals1 r
  obtain rfl : u = .ref p := rx
  obtain ⟨z, hd, ys, rel, dd⟩ := dt_rd I.hok hp
  have hl : kvs.length = ys.length := Paired.length rel
  refine call_len_dictH hd dd (by rw [← hl]; have := sizeLine_eq; omega) ?_
  rw [← hl]
  exact ⟨.int ((kvs.length : Nat) : Int), H, I.tok _, ⟨_, rfl⟩, q⟩
abbrev rLenU (K : PySem.W.Frag) : List V → Hp → VK → Prop := fun xs H Q => (∃ p ys, xs = [.ref p] ∧ (SqL K H p ys ∨ SqT K H p ys) ∧ Q (.int ys.length) H) ∨ ((∃ a kvs, xs = [V.ref a] ∧ Rd H a (.dK kvs) ∧ Q (.int kvs.length) H) ∨ (rLenTr xs H Q ∨ ∃ z, xs = [.str z] ∧ z.length ≤ sizeLine ∧ Q (.int z.length) H))
theorem call_lenU : CallR X (.builtin "len") (rLenU X.K) := call_len_seq.or (call_lenDr.or (call_len_dTr.or call_len_str))
theorem rv_len : RVN K (rLenU K) gLen := fun Hb H xs ds k Q s l g q => by
  have T : ∀ {d : D} {es : List D}, IsOL K Hb H xs [d] → tupD d = some es → k (.int es.length) → rLenU K xs H Q := fun {d es} l e g => by
    obtain ⟨v, rfl, i⟩ := o_one l
    obtain ⟨_, a, vs, rfl, h, m⟩ := o_tupD s i e
    exact .inl ⟨a, vs, rfl, .inr h, by rw [m.length]; exact q _ _ _ _ g .refl (.int _)⟩
  have L : ∀ {d : D} {es : List D}, IsOL K Hb H xs [d] → lstD d = some es → k (.int es.length) → rLenU K xs H Q := fun {d es} l e g => by
    obtain ⟨v, rfl, i⟩ := o_one l
    obtain ⟨a, vs, rfl, h, m⟩ := o_lstD s i e
    exact .inl ⟨a, vs, rfl, .inl h, by rw [m.length]; exact q _ _ _ _ g .refl (.int _)⟩
  unfold gLen at g
  split at g
  · exact T l rfl g
  · exact L l rfl g
  · exact T l rfl g
  · exact L l rfl g
  · obtain ⟨v, rfl, i⟩ := o_one l
    obtain ⟨p, rfl, vs, h, e, _⟩ := o_dict s i trivial
    have z := congrArg List.length e
    simp only [List.length_map] at z
    exact .inr (.inl ⟨p, vs, rfl, h, by rw [z]; exact q _ _ _ _ g .refl (.int _)⟩)
  · obtain ⟨v, rfl, i⟩ := o_one l
    obtain ⟨p, rfl, vs, h, e, _⟩ := o_dict s i trivial
    have z := congrArg List.length e
    simp only [List.length_map] at z
    exact .inr (.inr (.inl ⟨p, vs, rfl, h, by rw [z]; exact q _ _ _ _ g .refl (.int _)⟩))
  · obtain ⟨v, rfl, i⟩ := o_one l
    obtain rfl := o_str i
    exact .inr (.inr (.inr ⟨_, rfl, Nat.le_trans g.1 (by decide), q _ _ _ _ g.2 .refl (.int _)⟩))
  · exact g.elim
theorem rv_abs : RVN K (fun xs H Q => ∃ i, xs = [.int i] ∧ Q (.int (if i < 0 then -i else i)) H) gAbs := fun Hb H xs ds k Q s l g q => by
  unfold gAbs at g
  split at g
  · obtain ⟨v, rfl, i⟩ := o_one l
    obtain rfl := o_int i
    exact ⟨_, rfl, q _ _ _ _ g .refl (.int _)⟩
  · exact g.elim
theorem rv_int : RVN K (fun xs H Q => (∃ i, xs = [.int i] ∧ Q (.int i) H) ∨ ∃ k, xs = [.bl k] ∧ Q (.int (if k then 1 else 0)) H) gInt := fun Hb H xs ds k Q s l g q => by
  unfold gInt at g
  split at g
  · obtain ⟨v, rfl, i⟩ := o_one l
    obtain rfl := o_int i
    exact .inl ⟨_, rfl, q _ _ _ _ g .refl (.int _)⟩
  · obtain ⟨v, rfl, i⟩ := o_one l
    obtain rfl := o_bl i
    exact .inr ⟨_, rfl, q _ _ _ _ g .refl (.int _)⟩
  · exact g.elim
theorem rv_max2 : RVN K (fun xs H Q => ∃ i j, xs = [.int i, .int j] ∧ Q (.int (if j > i then j else i)) H) gMax2 := fun Hb H xs ds k Q s l g q => by
  unfold gMax2 at g
  split at g
  · obtain ⟨v, w, rfl, i, j⟩ := o_two l
    obtain rfl := o_int i
    obtain rfl := o_int j
    exact ⟨_, _, rfl, q _ _ _ _ g .refl (.int _)⟩
  · exact g.elim
abbrev rTupleU (K : PySem.W.Frag) : List V → Hp → VK → Prop := fun xs H Q => ∃ p ys, xs = [.ref p] ∧ ((SqL K H p ys ∧ ∀ l, H l = none → Q (.ref l) (upd H l (.tup ys))) ∨ (SqT K H p ys ∧ Q (.ref p) H))
theorem rv_tuple : RVN K (rTupleU K) gTuple := fun Hb H xs ds k Q s l g q => by
  have T : ∀ {d : D} {es : List D}, IsOL K Hb H xs [d] → tupD d = some es → k d → rTupleU K xs H Q := fun {d es} l e g => by
    obtain ⟨v, rfl, i⟩ := o_one l
    obtain ⟨i2, a, vs, rfl, h, m⟩ := o_tupD s i e
    exact ⟨a, vs, rfl, .inr ⟨h, q _ _ _ _ g .refl i2⟩⟩
  have L : ∀ {d : D} {es : List D}, IsOL K Hb H xs [d] → lstD d = some es → k (.tup es) → rTupleU K xs H Q := fun {d es} l e g => by
    obtain ⟨v, rfl, i⟩ := o_one l
    obtain ⟨a, vs, rfl, h, m⟩ := o_lstD s i e
    exact ⟨a, vs, rfl, .inl ⟨h, fun p hp => q _ _ _ _ g (.one hp) (.tup upd_same (m.mono (Sub.new (s.none hp))))⟩⟩
  unfold gTuple at g
  split at g
  · exact T l rfl g
  · exact L l rfl g
  · exact T l rfl g
  · exact L l rfl g
  · exact g.elim
theorem o_seqD (s : Sub Hb H) {v : V} {d : D} {es : List D} (h : IsO K Hb H v d) (e : tupD d = some es ∨ lstD d = some es) : ∃ a vs, v = .ref a ∧ (SqL K H a vs ∨ SqT K H a vs) ∧ IsL K Hb vs es := by
  rcases e with e | e
  · obtain ⟨_, a, vs, e1, h1, l⟩ := o_tupD s h e
    exact ⟨a, vs, e1, .inr h1, l⟩
  · obtain ⟨a, vs, e1, h1, l⟩ := o_lstD s h e
    exact ⟨a, vs, e1, .inl h1, l⟩
abbrev rListU (K : PySem.W.Frag) : List V → Hp → VK → Prop := fun xs H Q => ∃ p ys, xs = [.ref p] ∧ (SqL K H p ys ∨ SqT K H p ys) ∧ ∀ l, H l = none → Q (.ref l) (upd H l (.lst ys))
theorem rv_list : RVN K (rListU K) gList := fun Hb H xs ds k Q s l g q => by
  obtain ⟨d, es, rfl, e, g⟩ := g
  obtain ⟨v, rfl, i⟩ := o_one l
  obtain ⟨a, vs, rfl, h, m⟩ := o_seqD s i e
  exact ⟨a, vs, rfl, h, fun p hp => q _ _ _ _ g (.one hp) (.lst upd_same (m.mono (Sub.new (s.none hp))))⟩
theorem rv_sum : RVN K (rSum K) gSum := fun Hb H xs ds k Q s l g q => by
  obtain ⟨d, es, ns, rfl, e1, e2, g⟩ := g
  obtain ⟨v, rfl, i⟩ := o_one l
  obtain ⟨a, vs, rfl, h, m⟩ := o_lstD s i e1
  obtain rfl := is_ints m e2
  exact ⟨a, ns, rfl, h, q _ _ _ _ g .refl (.int _)⟩
theorem rv_all : RVN K (rAll K) gAll := fun Hb H xs ds k Q s l g q => by
  obtain ⟨d, es, bs, rfl, e1, e2, g⟩ := g
  obtain ⟨v, rfl, i⟩ := o_one l
  obtain ⟨a, vs, rfl, h, m⟩ := o_lstD s i e1
  obtain rfl := is_bools m e2
  exact ⟨a, bs, rfl, h, q _ _ _ _ g .refl (.bl _)⟩
end
end DL

/-! DL3: tests, and, or, if; arguments that are lent cells; calls of defs; statements. -/
namespace DL
open PySem L2
open PyProof.Rows hiding St

section
variable {X : Cx} {Wx : WX} {P I J J1 J2 J3 : List Nat} {e a b c : Expr} {es rest : List Expr} {F G : FE} {T U : FT} {A : FA} {pos p2 : Pos} {ta tb : TE} {tc uc : TT} {tA : TA}
/-! ### tests -/
theorem dt_val (ha : DE X Wx P I e ta F J) (he : ∀ whole, isTrue e X.env whole = (do let v ← whole; standAt e.pos; holding [v] (truthy v)) := by intro _; rfl) : DT X Wx P I e (tB ta) (fTest F) J := by
  obtain ⟨pa, ka⟩ := ha
  refine dt_of (pt_val pa he) fun W ρ σ Hb H Q post xp E f x q => ka W ρ σ Hb H _ _ xp E f x fun d ρ1 v Hb1 H1 f1 E1 s1 i1 => ?_
  cases d <;> first | exact f1.elim | skip
  exact ⟨_, is_bl i1, q _ _ _ _ f1 E1 s1⟩
theorem dt_cmp {op : CmpOp} {r : R2} {g : G2} (ho : OpR X (compareOp op) r) (hr : RV2 X.K r g) (ha : DE X Wx P I a ta F J1) (hb : DEo X Wx P J1 b tb G J) (hm : behindInMarks op b = false := by first | exact nomark _ | rfl) : DT X Wx P I (.Compare a [op] [b] pos) (tTest (tOp r ta tb)) (fTest (fBin g F G)) J := by
  refine dt_of (pt_cmpR ho ha.pe hb.pe hm) fun W ρ σ Hb H Q post xp E f x q => bin_core hr ha hb W ρ σ Hb H _ _ xp E f x fun d ρ1 v Hb1 H1 f1 E1 s1 i1 => ?_
  cases d <;> first | exact f1.elim | skip
  exact ⟨_, is_bl i1, q _ _ _ _ f1 E1 s1⟩
theorem dt_cmpL {op : CmpOp} {r : R2} {g : G2} (i : Nat) {x : Str} (ho : OpR X (compareOp op) r) (hr : RV2 X.K r g) (hb : DEo X Wx P I b tb G J) (hm : behindInMarks op b = false := by first | exact nomark _ | rfl) (hi : i ∈ P ∨ i ∈ I := by decide) (hj : i ∈ P ∨ i ∈ J := by decide) (hN : X.N[i]? = some x := by rfl) (hv : Vis X.env.scope x := by first | exact Or.inl rfl | exact Or.inr (Or.inl rfl) | exact Or.inr (Or.inr rfl)) (hd : (x == ("__debug__" : Str)) = false := by decide)
    (hcd : (x == ("__classdict__" : Str)) = false := by decide) : DT X Wx P I (.Compare (.Name x p2) [op] [b] pos) (tTest (tOp r (tVar i) tb)) (fTest (fBinL g i G)) J := by
  refine dt_of (pt_cmpR ho (pe_var hN hv hd hcd) hb.pe hm) fun W ρ σ Hb H Q post xp E f x q => binL_core i hr hb hi hj W ρ σ Hb H _ _ xp E f x fun d ρ1 v Hb1 H1 f1 E1 s1 i1 => ?_
  cases d <;> first | exact f1.elim | skip
  exact ⟨_, is_bl i1, q _ _ _ _ f1 E1 s1⟩
theorem dt_not (ha : DT X Wx P I a tc T J) : DT X Wx P I (.UnaryOp .Not a pos) (tNot tc) (fNot T) J := by
  obtain ⟨pa, ka⟩ := ha
  exact dt_of (pt_not pa) fun W ρ σ Hb H Q post xp E f x q => ka W ρ σ Hb H _ _ xp E f x fun b ρ1 Hb1 H1 f1 E1 s1 => q _ _ _ _ f1 E1 s1
theorem dw_and1 (ha : DT X Wx P I a tc T J) : DW X Wx P I (.BoolOp .And [a] pos) tc T J := by
  obtain ⟨pa, ka⟩ := ha
  exact ⟨pw_and1 pa, ka⟩
theorem dw_or1 (ha : DT X Wx P I a tc T J) : DW X Wx P I (.BoolOp .Or [a] pos) tc T J := by
  obtain ⟨pa, ka⟩ := ha
  exact ⟨pw_or1 pa, ka⟩
theorem dw_and (ha : DT X Wx P I a tc T I) (hb : DW X Wx P I (.BoolOp .And (b :: rest) pos) uc U I) : DW X Wx P I (.BoolOp .And (a :: b :: rest) pos) (tAnd tc uc) (fAnd T U) I := by
  obtain ⟨pa, ka⟩ := ha
  obtain ⟨pb, kb⟩ := hb
  refine ⟨pw_and pa pb, fun W ρ σ Hb H Q post xp E f x q => ka W ρ σ Hb H _ _ xp E f x fun b ρ1 Hb1 H1 f1 E1 s1 => ?_⟩
  cases b with
  | true =>
    rw [if_pos rfl] at f1 ⊢
    exact kb W ρ1 σ Hb1 H1 _ _ xp E1 f1 x fun b ρ2 Hb2 H2 f2 E2 s2 => q _ _ _ _ f2 E2 (s1.trans s2)
  | false =>
    rw [if_neg Bool.false_ne_true] at f1 ⊢
    exact q _ _ _ _ f1 E1 s1
theorem dw_or (ha : DT X Wx P I a tc T I) (hb : DW X Wx P I (.BoolOp .Or (b :: rest) pos) uc U I) : DW X Wx P I (.BoolOp .Or (a :: b :: rest) pos) (tOr tc uc) (fOr T U) I := by
  obtain ⟨pa, ka⟩ := ha
  obtain ⟨pb, kb⟩ := hb
  refine ⟨pw_or pa pb, fun W ρ σ Hb H Q post xp E f x q => ka W ρ σ Hb H _ _ xp E f x fun b ρ1 Hb1 H1 f1 E1 s1 => ?_⟩
  cases b with
  | true =>
    rw [if_pos rfl] at f1 ⊢
    exact q _ _ _ _ f1 E1 s1
  | false =>
    rw [if_neg Bool.false_ne_true] at f1 ⊢
    exact kb W ρ1 σ Hb1 H1 _ _ xp E1 f1 x fun b ρ2 Hb2 H2 f2 E2 s2 => q _ _ _ _ f2 E2 (s1.trans s2)
theorem dt_w (h : DW X Wx P I e tc T J) : DT X Wx P I e tc T J := by
  obtain ⟨pa, ka⟩ := h
  exact ⟨pa.pt, ka⟩
theorem de_one {op} (h : DE X Wx P I a ta F J) : DE X Wx P I (.BoolOp op [a] pos) ta F J := by
  obtain ⟨pa, ka⟩ := h
  exact ⟨pe_one pa, ka⟩
theorem de_and (ha : DE X Wx P I a ta F I) (hb : DE X Wx P I (.BoolOp .And (b :: rest) pos) tb G I) : DE X Wx P I (.BoolOp .And (a :: b :: rest) pos) (tAndV ta tb) (fAndV F G) I := by
  obtain ⟨pa, ka⟩ := ha
  obtain ⟨pb, kb⟩ := hb
  refine ⟨pe_and pa pb, fun W ρ σ Hb H Q post xp E f x q => ka W ρ σ Hb H _ _ xp E f x fun d ρ1 v Hb1 H1 f1 E1 s1 i1 => ?_⟩
  cases d <;> first | exact f1.elim | skip
  rename_i b
  refine ⟨b, is_bl i1, ?_⟩
  cases b with
  | true =>
    rw [if_pos rfl]
    exact kb W ρ1 σ Hb1 H1 _ _ xp E1 f1 x fun d ρ2 v Hb2 H2 f2 E2 s2 i2 => q _ _ _ _ _ f2 E2 (s1.trans s2) i2
  | false =>
    rw [if_neg Bool.false_ne_true]
    exact q _ _ _ _ _ f1 E1 s1 (.bl _)
theorem de_not (ha : DE X Wx P I a ta F J) : DE X Wx P I (.UnaryOp .Not a pos) (tNotV ta) (fNotV F) J := by
  obtain ⟨pa, ka⟩ := ha
  refine ⟨pe_not pa, fun W ρ σ Hb H Q post xp E f x q => ka W ρ σ Hb H _ _ xp E f x fun d ρ1 v Hb1 H1 f1 E1 s1 i1 => ?_⟩
  cases d <;> first | exact f1.elim | skip
  exact ⟨_, is_bl i1, q _ _ _ _ _ f1 E1 s1 (.bl _)⟩
theorem de_if (hc : DT X Wx P I c tc T J1) (ha : DE X Wx P J1 a ta F J) (hb : DE X Wx P J1 b tb G J) : DE X Wx P I (.IfExp c a b pos) (tIf tc ta tb) (fIf T F G) J := by
  obtain ⟨pc, kc⟩ := hc
  obtain ⟨pa, ka⟩ := ha
  obtain ⟨pb, kb⟩ := hb
  refine ⟨pe_ifExp pc pa pb, fun W ρ σ Hb H Q post xp E f x q => kc W ρ σ Hb H _ _ xp E f x fun b ρ1 Hb1 H1 f1 E1 s1 => ?_⟩
  cases b with
  | true =>
    rw [if_pos rfl] at f1 ⊢
    exact ka W ρ1 σ Hb1 H1 _ _ xp E1 f1 x fun d ρ2 v Hb2 H2 f2 E2 s2 i2 => q _ _ _ _ _ f2 E2 (s1.trans s2) i2
  | false =>
    rw [if_neg Bool.false_ne_true] at f1 ⊢
    exact kb W ρ1 σ Hb1 H1 _ _ xp E1 f1 x fun d ρ2 v Hb2 H2 f2 E2 s2 i2 => q _ _ _ _ _ f2 E2 (s1.trans s2) i2
/-- built-ins by their names -/
theorem de_callB {x : Str} {id : String} {r : List V → Hp → VK → Prop} {g : GN} (hc : CallR X (.builtin id) r) (hr : RVN X.K r g) (hm : X.mg x = none) (hv : bootBuiltins x = some (.builtin id)) (ha : DAo X Wx P I (e :: es) tA A J) (hg : Gl X x := by rfl) (hn : x ≠ "__name__" := by decide) (hdb : (x == ("__debug__" : Str)) = false := by decide)
    (he : starEach (e :: es) X.env = (false, eval e X.env) :: starEach es X.env := by rfl) (hpl : (backTo pos (starEach es X.env)).any (·.1) = false := by rfl) : DE X Wx P I (.Call (.Name x p2) (e :: es) [] pos) (tCB r tA) (fN g A) J := by
  obtain ⟨pa, ka⟩ := ha
  refine de_of (pe_callB hc hg hm hv pa hn hdb he hpl) fun W ρ σ Hb H Q post xp E f x q => ka W ρ σ Hb H _ _ xp E f x fun ds ρ1 vs Hb1 H1 f1 E1 s1 i1 => ?_
  refine hr Hb1 H1 vs ds _ _ E1.sub i1 f1 fun w dz Hb2 H2 kz g iz => ?_
  obtain ⟨E2, s2⟩ := g.env E1
  exact q _ _ _ _ _ kz E2 (s1.trans s2) iz
theorem de_callTy {x : Str} {n : String} {r : List V → Hp → VK → Prop} {g : GN} (hc : CallR X (.type n) r) (hr : RVN X.K r g) (hm : X.mg x = none) (hv : bootBuiltins x = some (.type n)) (ha : DAo X Wx P I (e :: es) tA A J) (hg : Gl X x := by rfl) (hn : x ≠ "__name__" := by decide) (hdb : (x == ("__debug__" : Str)) = false := by decide)
    (he : starEach (e :: es) X.env = (false, eval e X.env) :: starEach es X.env := by rfl) (hpl : (backTo pos (starEach es X.env)).any (·.1) = false := by rfl) : DE X Wx P I (.Call (.Name x p2) (e :: es) [] pos) (tCB r tA) (fN g A) J := by
  obtain ⟨pa, ka⟩ := ha
  refine de_of (pe_callTy hc hg hm hv pa hn hdb he hpl) fun W ρ σ Hb H Q post xp E f x q => ka W ρ σ Hb H _ _ xp E f x fun ds ρ1 vs Hb1 H1 f1 E1 s1 i1 => ?_
  refine hr Hb1 H1 vs ds _ _ E1.sub i1 f1 fun w dz Hb2 H2 kz g iz => ?_
  obtain ⟨E2, s2⟩ := g.env E1
  exact q _ _ _ _ _ kz E2 (s1.trans s2) iz
end

/-! ### arguments, some of them lent cells (the slots that own them: sl) -/
def Args (K : PySem.W.Frag) (Hb : Hp) (σ : St) : List (Option Nat) → List V → Env → Prop
  | [], [], [] => True
  | none :: sl, v :: vs, d :: ds => (∃ x, d = some x ∧ Is K Hb v x) ∧ Args K Hb σ sl vs ds
  | some j :: sl, v :: vs, _ :: ds => σ[j]? = some (some v) ∧ Args K Hb σ sl vs ds
  | _, _, _ => False
theorem Args.mono {K : PySem.W.Frag} {Hb Hb' : Hp} {σ : St} (s : Sub Hb Hb') : ∀ {sl : List (Option Nat)} {vs : List V} {ds : Env}, Args K Hb σ sl vs ds → Args K Hb' σ sl vs ds
  | [], [], [], h => h
  | none :: sl, v :: vs, d :: ds, ⟨⟨x, e, i⟩, h⟩ => ⟨⟨x, e, i.mono s⟩, Args.mono s h⟩
  | some j :: sl, v :: vs, _ :: ds, ⟨e, h⟩ => ⟨e, Args.mono s h⟩
/-- the data that the callee sees -/
@[simp] def fill : List (Option Nat) → Env → Env → Env
  | none :: sl, d :: ds, ρ => d :: fill sl ds ρ
  | some j :: sl, _ :: ds, ρ => get ρ j :: fill sl ds ρ
  | _, _, _ => []
/-- the lent cells as they come back -/
@[simp] def unfill : List (Option Nat) → Env → Env → Env
  | none :: sl, _ :: r, ρ => unfill sl r ρ
  | some j :: sl, d :: r, ρ => unfill sl r (put ρ j d)
  | _, _, ρ => ρ
@[simp] def lentOk : List (Option Nat) → Env → Prop
  | [], _ => True
  | none :: sl, ρ => lentOk sl ρ
  | some j :: sl, ρ => (match get ρ j with
    | some _ => True
    | none => False) ∧ lentOk sl ρ
structure DO (X : Cx) (Wx : WX) (P I : List Nat) (es : List Expr) (t : TA) (F : Env → (Env → Env → Prop) → XP → Prop) (sl : List (Option Nat)) (J : List Nat) : Prop where
  pe : PA X es t
  ev : ∀ (W : Wd) (ρ : Env) (σ : St) (Hb H : Hp) (Q : List V → Hp → Prop) (post : Env → Env → Prop) (xp : XP), EnvOk X.K W P I ρ σ Hb H → F ρ post xp → XOk X Wx W P σ xp →
    (∀ ds ρ' vs Hb' H', post ds ρ' → EnvOk X.K W P J ρ' σ Hb' H' → Sub Hb Hb' → Args X.K Hb' σ sl vs ds → Q vs H') → t σ H Q
def oNil : Env → (Env → Env → Prop) → XP → Prop := fun ρ post _ => post [] ρ
@[simp ↓] theorem oNil_ap (ρ : Env) (post : Env → Env → Prop) (z_2 : XP) : oNil  ρ post z_2 = (post [] ρ) := (rfl)
def oVal (a : FE) (b : Env → (Env → Env → Prop) → XP → Prop) : Env → (Env → Env → Prop) → XP → Prop := fun ρ post xp => a ρ (fun x ρ1 => b ρ1 (fun xs ρ2 => post (some x :: xs) ρ2) xp) xp
@[simp ↓] theorem oVal_ap (a : FE) (b : Env → (Env → Env → Prop) → XP → Prop) (ρ : Env) (post : Env → Env → Prop) (xp : XP) : oVal a b ρ post xp = (a ρ (fun x ρ1 => b ρ1 (fun xs ρ2 => post (some x :: xs) ρ2) xp) xp) := (rfl)
def oOwn (j : Nat) (b : Env → (Env → Env → Prop) → XP → Prop) : Env → (Env → Env → Prop) → XP → Prop := fun ρ post xp => (match get ρ j with
    | some _ => True
    | none => False) ∧ b ρ (fun xs ρ2 => post (none :: xs) ρ2) xp
@[simp ↓] theorem oOwn_ap (j : Nat) (b : Env → (Env → Env → Prop) → XP → Prop) (ρ : Env) (post : Env → Env → Prop) (xp : XP) : oOwn j b ρ post xp = ((match get ρ j with
    | some _ => True
    | none => False) ∧ b ρ (fun xs ρ2 => post (none :: xs) ρ2) xp) := (rfl)
section
variable {X : Cx} {Wx : WX} {P I J J1 : List Nat} {e a b c : Expr} {es : List Expr} {F : FE} {A : Env → (Env → Env → Prop) → XP → Prop} {sl : List (Option Nat)} {pos : Pos} {ta : TE} {tA : TA}
theorem do_nil : DO X Wx P I [] tNil oNil [] I := ⟨pa_nil, fun W ρ σ Hb H Q post xp E f _ q => q _ _ _ _ _ f E (Sub.refl _) trivial⟩
theorem do_val (ha : DE X Wx P I e ta F J1) (hb : DO X Wx P J1 es tA A sl J) (hs : starEach (e :: es) X.env = (false, eval e X.env) :: starEach es X.env := by rfl) : DO X Wx P I (e :: es) (tCons ta tA) (oVal F A) (none :: sl) J := by
  obtain ⟨pa, ka⟩ := ha
  obtain ⟨pb, kb⟩ := hb
  refine ⟨pa_cons pa pb hs, fun W ρ σ Hb H Q post xp E f x q => ka W ρ σ Hb H _ _ xp E f x fun d ρ1 v Hb1 H1 f1 E1 s1 i1 => ?_⟩
  exact kb W ρ1 σ Hb1 H1 _ _ xp E1 f1 x fun ds ρ2 vs Hb2 H2 f2 E2 s2 i2 => q _ _ _ _ _ f2 E2 (s1.trans s2) ⟨⟨_, rfl, i1.mono s2⟩, i2⟩
theorem do_own (j : Nat) {x : Str} (hb : DO X Wx P I es tA A sl J) (hj : j ∈ P ∨ j ∈ I := by decide) (hN : X.N[j]? = some x := by rfl) (hv : Vis X.env.scope x := by first | exact Or.inl rfl | exact Or.inr (Or.inl rfl) | exact Or.inr (Or.inr rfl)) (hd : (x == ("__debug__" : Str)) = false := by decide)
    (hcd : (x == ("__classdict__" : Str)) = false := by decide) (hs : starEach (.Name x pos :: es) X.env = (false, eval (.Name x pos) X.env) :: starEach es X.env := by rfl) : DO X Wx P I (.Name x pos :: es) (tCons (tVar j) tA) (oOwn j A) (some j :: sl) J := by
  obtain ⟨pb, kb⟩ := hb
  refine ⟨pa_cons (pe_var hN hv hd hcd) pb hs, fun W ρ σ Hb H Q post xp E f x q => ?_⟩
  obtain ⟨f0, f⟩ := f
  cases g : get ρ j with
  | none => rw [g] at f0; exact f0.elim
  | some d =>
    obtain ⟨p, ep, _⟩ := E.cel j d hj g
    refine ⟨_, ep, kb W ρ σ Hb H _ _ xp E f x fun ds ρ2 vs Hb2 H2 f2 E2 s2 i2 => q _ _ _ _ _ f2 E2 s2 ⟨ep, i2⟩⟩
end

/-! ### a def's promise over data; io: the parameters that are lent cells -/
abbrev DFn := Env → Post → XP → Prop
def lentAt (io : List Nat) (vs : List V) (ρ : Env) (H : Hp) : Nat → Addr → Prop := fun i a => i ∈ io ∧ ∃ d p, get ρ i = some d ∧ vs[i]? = some (.ref p) ∧ foot H p d a
def rootAt (io : List Nat) (vs : List V) : Nat → Addr → Prop := fun i p => i ∈ io ∧ vs[i]? = some (.ref p)
def spD (K : PySem.W.Frag) (n : Nat) (io : List Nat) (G : DFn) : Sp := fun vs H Q E => vs.length = n ∧ ∃ (ρ : Env) (Hb : Hp) (post : Post) (xp : XP), EnvOk K ⟨Hb, H, lentAt io vs ρ H, rootAt io vs⟩ io [] ρ (vs.map some) Hb H ∧ G ρ post xp ∧
  (∀ d ρ' v Hb' H', post d ρ' → EnvOk K ⟨Hb, H, lentAt io vs ρ H, rootAt io vs⟩ io [] ρ' (vs.map some) Hb' H' → Is K Hb' v d → Q v H') ∧
  (∀ c ρ' cls dx Hb' H', xp c ρ' → EnvOk K ⟨Hb, H, lentAt io vs ρ H, rootAt io vs⟩ io [] ρ' (vs.map some) Hb' H' → XIs K Hb' cls dx c → E cls dx H')

/-- the places of the lent arguments -/
def ioOf : Nat → List (Option Nat) → List Nat
  | _, [] => []
  | k, none :: sl => ioOf (k + 1) sl
  | k, some _ :: sl => k :: ioOf (k + 1) sl
def slots : List (Option Nat) → List Nat
  | [] => []
  | none :: sl => slots sl
  | some j :: sl => j :: slots sl
theorem mem_ioOf : ∀ (sl : List (Option Nat)) (k i : Nat), i ∈ ioOf k sl ↔ ∃ m j, i = k + m ∧ sl[m]? = some (some j)
  | [], k, i => by simp [ioOf]
  | none :: sl, k, i => by
    rw [ioOf, mem_ioOf sl (k + 1) i]
    constructor
    · rintro ⟨m, j, e, h⟩; exact ⟨m + 1, j, by omega, by simpa using h⟩
    · rintro ⟨m, j, e, h⟩
      cases m with
      | zero => simp at h
      | succ m => exact ⟨m, j, by omega, by simpa using h⟩
  | some j0 :: sl, k, i => by
    rw [ioOf, List.mem_cons, mem_ioOf sl (k + 1) i]
    constructor
    · rintro (e | ⟨m, j, e, h⟩)
      · exact ⟨0, j0, by omega, rfl⟩
      · exact ⟨m + 1, j, by omega, by simpa using h⟩
    · rintro ⟨m, j, e, h⟩
      cases m with
      | zero => exact .inl (by omega)
      | succ m => exact .inr ⟨m, j, by omega, by simpa using h⟩
theorem mem_slots : ∀ {sl : List (Option Nat)} {m j : Nat}, sl[m]? = some (some j) → j ∈ slots sl
  | [], _, _, h => by simp at h
  | none :: sl, 0, _, h => by simp at h
  | none :: sl, m + 1, _, h => mem_slots (sl := sl) (m := m) (by simpa using h)
  | some j0 :: sl, 0, _, h => by simp at h; subst h; exact List.mem_cons_self
  | some j0 :: sl, m + 1, _, h => List.mem_cons_of_mem _ (mem_slots (sl := sl) (m := m) (by simpa using h))
theorem of_slots : ∀ {sl : List (Option Nat)} {j : Nat}, j ∈ slots sl → ∃ m : Nat, sl[m]? = some (some j)
  | none :: sl, j, h => by
    obtain ⟨m, e⟩ := of_slots (sl := sl) (show j ∈ slots sl from h)
    exact ⟨m + 1, by simpa using e⟩
  | some j0 :: sl, j, h => by
    rcases List.mem_cons.mp (show j ∈ j0 :: slots sl from h) with e | h
    · exact ⟨0, by simp [e]⟩
    · obtain ⟨m, e⟩ := of_slots h
      exact ⟨m + 1, by simpa using e⟩
  | [], j, h => by cases h
theorem slots_inj : ∀ {sl : List (Option Nat)} {m k j : Nat}, (slots sl).Nodup → sl[m]? = some (some j) → sl[k]? = some (some j) → m = k
  | [], m, k, j, _, h, _ => by simp at h
  | none :: sl, 0, _, _, _, h, _ => by simp at h
  | none :: sl, _ + 1, 0, _, _, _, h => by simp at h
  | none :: sl, m + 1, k + 1, j, n, h1, h2 => congrArg (· + 1) (slots_inj (sl := sl) n (by simpa using h1) (by simpa using h2))
  | some j0 :: sl, 0, 0, _, _, _, _ => rfl
  | some j0 :: sl, 0, k + 1, j, n, h1, h2 => by
    simp at h1; subst h1
    exact absurd (mem_slots (sl := sl) (m := k) (by simpa using h2)) (List.nodup_cons.mp n).1
  | some j0 :: sl, m + 1, 0, j, n, h1, h2 => by
    simp at h2; subst h2
    exact absurd (mem_slots (sl := sl) (m := m) (by simpa using h1)) (List.nodup_cons.mp n).1
  | some j0 :: sl, m + 1, k + 1, j, n, h1, h2 => congrArg (· + 1) (slots_inj (sl := sl) (List.nodup_cons.mp n).2 (by simpa using h1) (by simpa using h2))
section
variable {K : PySem.W.Frag} {Hb : Hp} {σ : St}
theorem Args.len : ∀ {sl : List (Option Nat)} {vs : List V} {ds ρ : Env}, Args K Hb σ sl vs ds → (vs.map some).length = (fill sl ds ρ).length
  | [], [], [], _, _ => rfl
  | none :: sl, v :: vs, d :: ds, ρ, h => congrArg (· + 1) (Args.len (ρ := ρ) h.2)
  | some j :: sl, v :: vs, _ :: ds, ρ, h => congrArg (· + 1) (Args.len (ρ := ρ) h.2)
theorem Args.val : ∀ {sl : List (Option Nat)} {vs : List V} {ds ρ : Env} {m : Nat} {d : D}, Args K Hb σ sl vs ds → (∀ j, sl[m]? ≠ some (some j)) → get (fill sl ds ρ) m = some d → ∃ v, (vs.map some)[m]? = some (some v) ∧ Is K Hb v d
  | [], [], [], _, _, _, _, _, g => by simp [fill, get] at g
  | none :: sl, v :: vs, d :: ds, ρ, 0, _, h, _, g => by
    obtain ⟨⟨x, e, i⟩, _⟩ := h
    simp only [fill, get] at g
    rw [e] at g; cases g
    exact ⟨v, rfl, i⟩
  | none :: sl, v :: vs, d :: ds, ρ, m + 1, _, h, n, g => by
    obtain ⟨w, e, i⟩ := Args.val (ρ := ρ) (m := m) h.2 (fun j => by simpa using n j) (by simpa [fill, get] using g)
    exact ⟨w, by simpa using e, i⟩
  | some j :: sl, v :: vs, _ :: ds, ρ, 0, _, h, n, g => absurd rfl (n j)
  | some j :: sl, v :: vs, _ :: ds, ρ, m + 1, _, h, n, g => by
    obtain ⟨w, e, i⟩ := Args.val (ρ := ρ) (m := m) h.2 (fun j => by simpa using n j) (by simpa [fill, get] using g)
    exact ⟨w, by simpa using e, i⟩
theorem Args.own : ∀ {sl : List (Option Nat)} {vs : List V} {ds ρ : Env} {m j : Nat}, Args K Hb σ sl vs ds → sl[m]? = some (some j) → ∃ v, (vs.map some)[m]? = some (some v) ∧ σ[j]? = some (some v) ∧ get (fill sl ds ρ) m = get ρ j
  | [], [], [], _, _, _, _, e => by simp at e
  | none :: sl, v :: vs, d :: ds, ρ, 0, _, h, e => by simp at e
  | none :: sl, v :: vs, d :: ds, ρ, m + 1, j, h, e => by
    obtain ⟨w, e1, e2, e3⟩ := Args.own (ρ := ρ) (m := m) (j := j) h.2 (by simpa using e)
    exact ⟨w, by simpa using e1, e2, by simpa [fill, get] using e3⟩
  | some j0 :: sl, v :: vs, _ :: ds, ρ, 0, j, h, e => by
    simp at e; subst e
    exact ⟨v, rfl, h.1, rfl⟩
  | some j0 :: sl, v :: vs, _ :: ds, ρ, m + 1, j, h, e => by
    obtain ⟨w, e1, e2, e3⟩ := Args.own (ρ := ρ) (m := m) (j := j) h.2 (by simpa using e)
    exact ⟨w, by simpa using e1, e2, by simpa [fill, get] using e3⟩
end
theorem unfill_len : ∀ (sl : List (Option Nat)) (r ρ : Env), (unfill sl r ρ).length = ρ.length
  | [], _, ρ => by simp [unfill]
  | none :: sl, [], ρ => by simp [unfill]
  | none :: sl, _ :: r, ρ => unfill_len sl r ρ
  | some j :: sl, [], ρ => by simp [unfill]
  | some j :: sl, d :: r, ρ => (unfill_len sl r (put ρ j d)).trans (put_length ρ j d)
theorem unfill_ne : ∀ (sl : List (Option Nat)) (r ρ : Env) (i : Nat), i ∉ slots sl → get (unfill sl r ρ) i = get ρ i
  | [], _, ρ, _, _ => by simp [unfill]
  | none :: sl, [], ρ, _, _ => by simp [unfill]
  | none :: sl, _ :: r, ρ, i, h => unfill_ne sl r ρ i h
  | some j :: sl, [], ρ, _, _ => by simp [unfill]
  | some j :: sl, d :: r, ρ, i, h => by
    have h1 : i ≠ j := fun e => h (by rw [e]; exact List.mem_cons_self)
    exact (unfill_ne sl r (put ρ j d) i fun q => h (List.mem_cons_of_mem _ q)).trans (get_put_ne _ _ _ _ fun e => h1 e.symm)
theorem unfill_at : ∀ (sl : List (Option Nat)) (r ρ : Env) (m j : Nat), (slots sl).Nodup → r.length = sl.length → j < ρ.length → sl[m]? = some (some j) → get (unfill sl r ρ) j = get r m
  | [], _, ρ, m, j, _, _, _, h => by simp at h
  | none :: sl, [], ρ, m, _, _, l, _, _ => by simp at l
  | none :: sl, _ :: r, ρ, 0, _, _, _, _, h => by simp at h
  | none :: sl, _ :: r, ρ, m + 1, j, n, l, b, h => unfill_at sl r ρ m j n (by simpa using l) b (by simpa using h)
  | some j0 :: sl, [], ρ, m, _, _, l, _, _ => by simp at l
  | some j0 :: sl, d :: r, ρ, 0, j, n, l, b, h => by
    simp at h; subst h
    exact (unfill_ne sl r (put ρ j0 d) j0 (List.nodup_cons.mp n).1).trans (get_put_same ρ j0 d b)
  | some j0 :: sl, d :: r, ρ, m + 1, j, n, l, b, h => unfill_at sl r (put ρ j0 d) m j (List.nodup_cons.mp n).2 (by simpa using l) (by rw [put_length]; exact b) (by simpa using h)

section
variable {K : PySem.W.Frag} {W : Wd} {P J : List Nat} {ρ : Env} {σ : St} {Hb H : Hp} {sl : List (Option Nat)} {vs : List V} {ds : Env}
/-- what the callee gets -/
theorem EnvOk.lend (E : EnvOk K W P J ρ σ Hb H) (ar : Args K Hb σ sl vs ds) (hs : ∀ j ∈ slots sl, j ∈ P ∨ j ∈ J) (nd : (slots sl).Nodup) (hl : ∀ j ∈ slots sl, get ρ j ≠ none) :
    EnvOk K ⟨Hb, H, lentAt (ioOf 0 sl) vs (fill sl ds ρ) H, rootAt (ioOf 0 sl) vs⟩ (ioOf 0 sl) [] (fill sl ds ρ) (vs.map some) Hb H where
  tab := E.tab
  sub := E.sub
  stp := Stp.refl _ _ _ _
  len := ar.len
  val := fun i d g n _ => ar.val (fun j e => n ((mem_ioOf sl 0 i).mpr ⟨i, j, by omega, e⟩)) g
  celF := fun i d hi g0 => by
    have hi : i ∈ ioOf 0 sl := hi.elim id (fun q => by cases q)
    obtain ⟨m, j, e0, e⟩ := (mem_ioOf sl 0 i).mp hi
    have e0 : i = m := by omega
    subst e0
    obtain ⟨v, e1, e2, e3⟩ := ar.own (ρ := ρ) e
    have g := g0
    rw [e3] at g
    obtain ⟨p, ep, c, _, f⟩ := E.celF j d (hs j (mem_slots e)) g
    rw [e2] at ep; cases ep
    have ev : vs[i]? = some (.ref p) := by simpa using e1
    exact ⟨p, e1, c, fun _ => ⟨hi, ev⟩, fun a ha => ⟨(f a ha).1, fun _ => .inl ⟨hi, d, p, g0, ev, ha⟩, fun q => by cases q⟩⟩
  sepF := fun i k p q di dk a hi hk gi gk ei ek fi fk => by
    have hi : i ∈ ioOf 0 sl := hi.elim id (fun q => by cases q)
    have hk : k ∈ ioOf 0 sl := hk.elim id (fun q => by cases q)
    obtain ⟨m, j, e0, e⟩ := (mem_ioOf sl 0 i).mp hi
    obtain ⟨m', j', e0', e'⟩ := (mem_ioOf sl 0 k).mp hk
    have e0 : i = m := by omega
    have e0' : k = m' := by omega
    subst e0 e0'
    obtain ⟨v, e1, e2, e3⟩ := ar.own (ρ := ρ) e
    obtain ⟨v', e1', e2', e3'⟩ := ar.own (ρ := ρ) e'
    rw [ei] at e1; cases e1
    rw [ek] at e1'; cases e1'
    have hjj : j = j' := E.sepF j j' p q di dk a (hs j (mem_slots e)) (hs j' (mem_slots e')) (by rw [← e3]; exact gi) (by rw [← e3']; exact gk) e2 e2' fi fk
    subst hjj
    exact slots_inj nd e e'
/-- what comes back -/
theorem EnvOk.given {ρ' : Env} {Hb' H' : Hp} (E : EnvOk K W P J ρ σ Hb H) (ar : Args K Hb σ sl vs ds) (hs : ∀ j ∈ slots sl, j ∈ P ∨ j ∈ J) (nd : (slots sl).Nodup) (hl : ∀ j ∈ slots sl, get ρ j ≠ none)
    (E2 : EnvOk K ⟨Hb, H, lentAt (ioOf 0 sl) vs (fill sl ds ρ) H, rootAt (ioOf 0 sl) vs⟩ (ioOf 0 sl) [] ρ' (vs.map some) Hb' H') (lsl : sl.length = vs.length) : EnvOk K W P J (unfill sl ρ' ρ) σ Hb' H' := by
  have lr : ρ'.length = sl.length := by rw [← E2.len, List.length_map, lsl]
  have bnd : ∀ j ∈ slots sl, j < ρ.length := fun j hj => by
    cases q : get ρ j with
    | none => exact absurd q (hl j hj)
    | some d => exact get_lt q
  have ioj : ∀ {m j : Nat}, sl[m]? = some (some j) → m ∈ ioOf 0 sl := fun {m j} e => (mem_ioOf sl 0 m).mpr ⟨m, j, by omega, e⟩
  -- a lent address, seen from here
  have lentA : ∀ {m a}, lentAt (ioOf 0 sl) vs (fill sl ds ρ) H m a → ∃ j d p, sl[m]? = some (some j) ∧ get ρ j = some d ∧ σ[j]? = some (some (.ref p)) ∧ foot H p d a := fun {m a} ⟨hi, d, p, g, e, ft⟩ => by
    obtain ⟨m', j, e0, em⟩ := (mem_ioOf sl 0 m).mp hi
    have e0 : m = m' := by omega
    subst e0
    obtain ⟨v, e1, e2, e3⟩ := ar.own (ρ := ρ) em
    have ev : v = .ref p := by
      rw [List.getElem?_map, e] at e1
      exact (Option.some.inj (Option.some.inj e1)).symm
    subst ev
    exact ⟨j, d, p, em, by rw [← e3]; exact g, e2, ft⟩
  -- the cells that were not lent stand as they stood
  have keep : ∀ {i d p}, (i ∈ P ∨ i ∈ J) → i ∉ slots sl → get ρ i = some d → σ[i]? = some (some (.ref p)) → ∀ a, foot H p d a → ∃ o, H a = some o ∧ H' a = some o ∧ Hb' a = none := fun {i d p} hi hm g e a ha => by
    obtain ⟨p', e', c, _, f⟩ := E.celF i d hi g
    rw [e] at e'; cases e'
    obtain ⟨o, ho, nt⟩ := c.footS ha
    refine ⟨o, ho, E2.stp.own (f a ha).1 ho (c.nts ha ho) fun k lk => ?_, E2.stp.nb (f a ha).1 ho nt⟩
    obtain ⟨j, dj, pj, em, gj, ej, ftj⟩ := lentA lk
    have := E.sepF i j p pj d dj a hi (hs j (mem_slots em)) g gj e ej ha ftj
    exact hm (this ▸ mem_slots em)
  -- those that were: where they stand now
  have back : ∀ {i m d p}, sl[m]? = some (some i) → get ρ' m = some d → (vs.map some)[m]? = some (some (V.ref p)) → ∀ a, foot H' p d a → Hb' a = none ∧ ((∃ d0, get ρ i = some d0 ∧ foot H p d0 a) ∨ H a = none) := fun {i m d p} em g e a ha => by
    obtain ⟨p', e', _, _, f⟩ := E2.celF m d (.inl (ioj em)) g
    rw [e] at e'; cases e'
    refine ⟨(f a ha).1, ((f a ha).2.1 (ioj em)).imp (fun lk => ?_) id⟩
    obtain ⟨hi, d1, p1, g1, e1, ft⟩ := lk
    obtain ⟨v, e2, e3, e4⟩ := ar.own (ρ := ρ) em
    rw [List.getElem?_map, e1] at e
    cases e
    exact ⟨d1, by rw [← e4]; exact g1, ft⟩
  have at_ : ∀ {i m p}, sl[m]? = some (some i) → σ[i]? = some (some (V.ref p)) → (vs.map some)[m]? = some (some (V.ref p)) := fun {i m p} em e => by
    obtain ⟨v, e1, e2, _⟩ := ar.own (ρ := ρ) em
    rw [e] at e2; cases e2
    exact e1
  refine ⟨E2.sub, E.stp.trans E2.stp fun i p lk => ?_, by rw [unfill_len]; exact E.len, fun i d g nP nJ => ?_, fun i d hi g => ?_, fun i k p q di dk a hi hk gi gk ei ek fi fk => ?_, E2.tab⟩
  · obtain ⟨j, d, q, em, g, e, ft⟩ := lentA lk
    exact E.ownedW j p ⟨hs j (mem_slots em), d, q, g, e, ft⟩
  · have ni : i ∉ slots sl := fun q => (hs i q).elim nP nJ
    rw [unfill_ne _ _ _ _ ni] at g
    obtain ⟨v, e, is⟩ := E.val i d g nP nJ
    exact ⟨v, e, is.mono E2.stp.hb⟩
  · by_cases hm : i ∈ slots sl
    · obtain ⟨m, em⟩ := of_slots hm
      rw [unfill_at sl ρ' ρ m i nd lr (bnd i hm) em] at g
      obtain ⟨p, ep, c, _, f⟩ := E2.celF m d (.inl (ioj em)) g
      obtain ⟨v, e1, e2, _⟩ := ar.own (ρ := ρ) em
      rw [ep] at e1; cases e1
      cases q : get ρ i with
      | none => exact absurd q (hl i hm)
      | some d0 =>
        obtain ⟨p', ep', _, h1, f0⟩ := E.celF i d0 hi q
        rw [e2] at ep'; cases ep'
        refine ⟨p, e2, c, h1, fun a ha => ?_⟩
        obtain ⟨nb, r⟩ := back em g ep a ha
        rcases r with ⟨d1, g1, ft⟩ | r
        · rw [q] at g1; cases g1
          exact ⟨nb, (f0 a ft).2⟩
        · exact ⟨nb, fun _ => .inr (E.stp.al a r), fun _ => E.stp.al a r⟩
    · rw [unfill_ne _ _ _ _ hm] at g
      obtain ⟨p, ep, c, h1, f⟩ := E.celF i d hi g
      have kp := keep hi hm g ep
      have rt : H' p = H p := by
        obtain ⟨o, e1, e2, _⟩ := kp p foot.root
        rw [e1, e2]
      refine ⟨p, ep, c.mono E2.stp.hb fun a o ha ho => ?_, h1, fun a ha => ?_⟩
      · obtain ⟨o', e1, e2, _⟩ := kp a ha
        rw [ho] at e1; cases e1
        exact e2
      · have ha := foot.cong rt ha
        obtain ⟨_, _, _, nb⟩ := kp a ha
        exact ⟨nb, (f a ha).2⟩
  · have old : ∀ {i d p}, (i ∈ P ∨ i ∈ J) → i ∉ slots sl → get (unfill sl ρ' ρ) i = some d → σ[i]? = some (some (.ref p)) → ∀ a, foot H' p d a → (∃ o, H a = some o) ∧ get ρ i = some d ∧ foot H p d a := fun {i d p} hi hm g e a ha => by
      rw [unfill_ne _ _ _ _ hm] at g
      have kp := keep hi hm g e
      have rt : H' p = H p := by
        obtain ⟨o, e1, e2, _⟩ := kp p foot.root
        rw [e1, e2]
      have ha := foot.cong rt ha
      obtain ⟨o, e1, _⟩ := kp a ha
      exact ⟨⟨o, e1⟩, g, ha⟩
    by_cases hmi : i ∈ slots sl
    · obtain ⟨m, em⟩ := of_slots hmi
      rw [unfill_at sl ρ' ρ m i nd lr (bnd i hmi) em] at gi
      have b1 := back em gi (at_ em ei) a fi
      by_cases hmk : k ∈ slots sl
      · obtain ⟨m', em'⟩ := of_slots hmk
        rw [unfill_at sl ρ' ρ m' k nd lr (bnd k hmk) em'] at gk
        have : m = m' := E2.sepF m m' p q di dk a (.inl (ioj em)) (.inl (ioj em')) gi gk (at_ em ei) (at_ em' ek) fi fk
        subst this
        rw [em] at em'; cases em'; rfl
      · obtain ⟨⟨o, ho⟩, g0, ft⟩ := old hk hmk gk ek a fk
        rcases b1.2 with ⟨d0, g1, ft1⟩ | r
        · exact E.sepF i k p q d0 dk a hi hk g1 g0 ei ek ft1 ft
        · rw [ho] at r; cases r
    · obtain ⟨⟨o, ho⟩, g0, ft⟩ := old hi hmi gi ei a fi
      by_cases hmk : k ∈ slots sl
      · obtain ⟨m', em'⟩ := of_slots hmk
        rw [unfill_at sl ρ' ρ m' k nd lr (bnd k hmk) em'] at gk
        rcases (back em' gk (at_ em' ek) a fk).2 with ⟨d0, g1, ft1⟩ | r
        · exact E.sepF i k p q di d0 a hi hk g0 g1 ei ek ft ft1
        · rw [ho] at r; cases r
      · obtain ⟨_, g0', ft'⟩ := old hk hmk gk ek a fk
        exact E.sepF i k p q di dk a hi hk g0 g0' ei ek ft ft'
/-- a new address of the callee is none of the caller's -/
theorem EnvOk.given_un {ρ' : Env} {Hb' H' : Hp} (E : EnvOk K W P J ρ σ Hb H) (ar : Args K Hb σ sl vs ds) (hs : ∀ j ∈ slots sl, j ∈ P ∨ j ∈ J) (nd : (slots sl).Nodup) (hl : ∀ j ∈ slots sl, get ρ j ≠ none)
    (E2 : EnvOk K ⟨Hb, H, lentAt (ioOf 0 sl) vs (fill sl ds ρ) H, rootAt (ioOf 0 sl) vs⟩ (ioOf 0 sl) [] ρ' (vs.map some) Hb' H') (lsl : sl.length = vs.length) {a : Addr} (na : H a = none)
    (un : ∀ m dm q, m ∈ ioOf 0 sl → get ρ' m = some dm → (vs.map some)[m]? = some (some (V.ref q)) → ¬ foot H' q dm a) : ∀ i di q, (i ∈ P ∨ i ∈ J) → get (unfill sl ρ' ρ) i = some di → σ[i]? = some (some (V.ref q)) → ¬ foot H' q di a := fun i di q hi g e fa => by
  have lr : ρ'.length = sl.length := by rw [← E2.len, List.length_map, lsl]
  by_cases hm : i ∈ slots sl
  · obtain ⟨m, em⟩ := of_slots hm
    have bnd : i < ρ.length := by
      cases q : get ρ i with
      | none => exact absurd q (hl i hm)
      | some d => exact get_lt q
    rw [unfill_at sl ρ' ρ m i nd lr bnd em] at g
    obtain ⟨v, e1, e2, _⟩ := ar.own (ρ := ρ) em
    rw [e] at e2; cases e2
    exact un m di q ((mem_ioOf sl 0 m).mpr ⟨m, i, by omega, em⟩) g e1 fa
  · have E3 := E.given ar hs nd hl E2 lsl
    rw [unfill_ne _ _ _ _ hm] at g
    obtain ⟨p', e', c, _, f⟩ := E.celF i di hi g
    rw [e] at e'; cases e'
    -- its root stands as it stood
    have kp : ∀ b, foot H q di b → ∃ o, H b = some o ∧ H' b = some o := fun b hb => by
      obtain ⟨o, ho, nt⟩ := c.footS hb
      refine ⟨o, ho, E2.stp.own (f b hb).1 ho (c.nts hb ho) fun k lk => ?_⟩
      obtain ⟨hk, d, p, g1, e1, ft⟩ := lk
      obtain ⟨m', j, e0, em⟩ := (mem_ioOf sl 0 k).mp hk
      have e0 : k = m' := by omega
      subst e0
      obtain ⟨v, e2, e3, e4⟩ := ar.own (ρ := ρ) em
      have ev : v = .ref p := by
        rw [List.getElem?_map, e1] at e2
        exact (Option.some.inj (Option.some.inj e2)).symm
      subst ev
      have := E.sepF i j q p di d b hi (hs j (mem_slots em)) g (by rw [← e4]; exact g1) e e3 hb ft
      exact hm (this ▸ mem_slots em)
    obtain ⟨o, e1, e2⟩ := kp q foot.root
    have fa := foot.cong (H := H) (by rw [e1, e2]) fa
    obtain ⟨o', e1', _⟩ := kp a fa
    rw [na] at e1'; cases e1'
end
theorem lentOk_of : ∀ {sl : List (Option Nat)} {ρ : Env}, lentOk sl ρ → ∀ j ∈ slots sl, get ρ j ≠ none
  | none :: sl, ρ, h, j, hj => lentOk_of (sl := sl) h j hj
  | some j0 :: sl, ρ, h, j, hj => by
    rcases List.mem_cons.mp (show j ∈ j0 :: slots sl from hj) with e | hj
    · subst e
      intro q
      have h1 := h.1
      rw [q] at h1
      exact h1
    · exact lentOk_of h.2 j hj
  | [], _, _, _, hj => by cases hj
theorem Args.slLen {K : PySem.W.Frag} {Hb : Hp} {σ : St} : ∀ {sl : List (Option Nat)} {vs : List V} {ds : Env}, Args K Hb σ sl vs ds → sl.length = vs.length
  | [], [], [], _ => rfl
  | none :: sl, v :: vs, d :: ds, h => congrArg (· + 1) (Args.slLen h.2)
  | some j :: sl, v :: vs, _ :: ds, h => congrArg (· + 1) (Args.slLen h.2)

/-- what stands behind a call: simp -dsimp does not look into it -/
inductive Lock (p : Post) (x : XP) : Type | mk
def callD (G : DFn) (vs : Env) (post : Post) (xp : XP) (_ : Lock post xp) : Prop := G vs post xp
/-- the call, over data -/
def fCall (G : DFn) (sl : List (Option Nat)) (A : Env → (Env → Env → Prop) → XP → Prop) : FE := fun ρ post xp => A ρ (fun ds ρ1 => lentOk sl ρ1 ∧ callD G (fill sl ds ρ1) (fun d r => post d (unfill sl r ρ1)) (fun c r => xp c (unfill sl r ρ1)) .mk) xp
@[simp ↓] theorem fCall_ap (G : DFn) (sl : List (Option Nat)) (A : Env → (Env → Env → Prop) → XP → Prop) (ρ : Env) (post : Post) (xp : XP) : fCall G sl A ρ post xp = (A ρ (fun ds ρ1 => lentOk sl ρ1 ∧ callD G (fill sl ds ρ1) (fun d r => post d (unfill sl r ρ1)) (fun c r => xp c (unfill sl r ρ1)) .mk) xp) := (rfl)

/-- release: of the slots in I those in J stay owned -/
theorem EnvOk.drop {K : PySem.W.Frag} {W : Wd} {P I J : List Nat} {ρ : Env} {σ : St} {Hb H : Hp} (E : EnvOk K W P I ρ σ Hb H) (hJ : ∀ j ∈ J, j ∈ I) (hPI : ∀ j ∈ I, j ∉ P) : ∃ Hb', EnvOk K W P J ρ σ Hb' H ∧ Sub Hb Hb' := by
  classical
  let rel : Addr → Prop := fun a => ∃ i d p, i ∈ I ∧ i ∉ J ∧ get ρ i = some d ∧ σ[i]? = some (some (.ref p)) ∧ foot H p d a
  let Hb' : Hp := fun a => if rel a then H a else Hb a
  have hpos : ∀ {a}, rel a → Hb' a = H a := fun {a} h => if_pos h
  have hneg : ∀ {a}, ¬ rel a → Hb' a = Hb a := fun {a} h => if_neg h
  have relN : ∀ a, rel a → Hb a = none ∧ W.H a = none := fun a ⟨i, d, p, hi, _, g, e, ft⟩ => by
    obtain ⟨p', ep, _, _, f⟩ := E.celF i d (.inr hi) g
    rw [e] at ep; cases ep
    exact ⟨(f a ft).1, (f a ft).2.2 hi⟩
  have sb : Sub Hb Hb' := fun a o e => by
    by_cases h : rel a
    · rw [(relN a h).1] at e; cases e
    · rw [hneg h]; exact ⟨_, e, .inl rfl⟩
  have sH : Sub Hb' H := fun a o e => by
    by_cases h : rel a
    · rw [hpos h] at e; exact ⟨_, e, .inl rfl⟩
    · rw [hneg h] at e; exact E.sub a o e
  refine ⟨Hb', ⟨sH, ⟨E.stp.hb.trans sb, E.stp.fr, fun a o e => ?_, E.stp.al, E.stp.tp⟩, E.len, fun i d g nP nJ => ?_, fun i d hi g => ?_, fun i j p q di dj a hi hj => E.sepF i j p q di dj a (hi.imp id (hJ i)) (hj.imp id (hJ j)), E.tab.kb sb fun a ps e z => ?_⟩, sb⟩
  · by_cases h : rel a
    · exact .inr (.inl (relN a h).2)
    · rw [hneg h] at e; exact E.stp.fs a o e
  · by_cases hI : i ∈ I
    · obtain ⟨p, ep, c, _, _⟩ := E.celF i d (.inr hI) g
      exact ⟨_, ep, (c.mono sb (H' := Hb') fun a o ha e => by rw [hpos ⟨i, d, p, hI, nJ, g, ep, ha⟩]; exact e).is (Sub.refl _)⟩
    · obtain ⟨v, e, is⟩ := E.val i d g nP hI
      exact ⟨v, e, is.mono sb⟩
  · have hi' : i ∈ P ∨ i ∈ I := hi.imp id (hJ i)
    obtain ⟨p, ep, c, h1, f⟩ := E.celF i d hi' g
    refine ⟨p, ep, c.mono sb fun a o _ e => e, h1, fun a ha => ?_⟩
    have nr : ¬ rel a := fun ⟨k, dk, q, hk, hkJ, gk, ek, fk⟩ => by
      have e := E.sepF i k p q d dk a hi' (.inr hk) g gk ep ek ha fk
      subst e
      rcases hi with hi | hi
      · exact hPI i hk hi
      · exact hkJ hi
    exact ⟨by rw [hneg nr]; exact (f a ha).1, (f a ha).2.1, fun q => (f a ha).2.2 (hJ i q)⟩
  · have nr : ¬ rel a := fun ⟨i, d, p, hI, nJ, g, ep, ha⟩ => by
      obtain ⟨p', ep', c, _, _⟩ := E.celF i d (.inr hI) g
      rw [ep] at ep'; cases ep'
      exact c.nts ha e ps rfl
    rw [hneg nr]; exact z

section
variable {X : Cx} {Wx : WX} {P I J J1 : List Nat} {e a b c : Expr} {es : List Expr} {F : FE} {A : Env → (Env → Env → Prop) → XP → Prop} {sl : List (Option Nat)} {pos p : Pos} {k n : Nat} {f : Addr} {fd : FuncData} {ps : List Str} {G : DFn} {x : Str} {io : List Nat} {tA : TA}
/-- a call's reading, by the promise -/
theorem call_core {t : TA} (tk : Takes X Wx) (hio : ioOf 0 sl = io) (hsl : ∀ j ∈ slots sl, j ∈ P ∨ j ∈ J) (nd : (slots sl).Nodup) (hPJ : ∀ j ∈ J, j ∉ P) (hn : sl.length = n)
    (ka : ∀ (W : Wd) (ρ : Env) (σ : St) (Hb H : Hp) (Q : List V → Hp → Prop) (post : Env → Env → Prop) (xp : XP), EnvOk X.K W P I ρ σ Hb H → A ρ post xp → XOk X Wx W P σ xp →
    (∀ ds ρ' vs Hb' H', post ds ρ' → EnvOk X.K W P J ρ' σ Hb' H' → Sub Hb Hb' → Args X.K Hb' σ sl vs ds → Q vs H') → t σ H Q) :
    ∀ (W : Wd) (ρ : Env) (σ : St) (Hb H : Hp) (Q : VK) (post : Post) (xp : XP), EnvOk X.K W P I ρ σ Hb H → fCall G sl A ρ post xp → XOk X Wx W P σ xp →
    (∀ d ρ' v Hb' H', post d ρ' → EnvOk X.K W P J ρ' σ Hb' H' → Sub Hb Hb' → Is X.K Hb' v d → Q v H') → t σ H fun vs H1 => spD X.K n io G vs H1 Q (WE Wx σ) := by
  intro W ρ σ Hb H Q post xp E h x q
  subst hio
  refine ka W ρ σ Hb H _ _ xp E h x fun ds ρ1 vs Hb1 H1 f1 E1 s1 ar => ?_
  obtain ⟨lo, g⟩ := f1
  have hl := lentOk_of lo
  refine ⟨by rw [← ar.slLen]; exact hn, fill sl ds ρ1, Hb1, _, _, E1.lend ar hsl nd hl, g, fun d ρ' v Hb' H' p1 E2 is => ?_, fun c ρ' cls dx Hb' H' p1 E2 xi => ?_⟩
  · exact q _ _ _ _ _ p1 (E1.given ar hsl nd hl E2 ar.slLen) (s1.trans E2.stp.hb) is
  · have E3 := E1.given ar hsl nd hl E2 ar.slLen
    obtain ⟨Hb3, E4, s4⟩ := E3.drop (J := []) (fun j q => by cases q) hPJ
    refine x c _ cls dx Hb3 H' p1 E4 ?_
    obtain ⟨e, r | ⟨d, us, e1, e2, e3, e4⟩⟩ := xi
    · exact ⟨e, .inl r⟩
    · exact ⟨e, .inr ⟨d, us, e1, s4.at e2, e3, e4.mono s4⟩⟩
end
end DL

/-! DL4: statements over data. -/
namespace DL
open PySem L2
open PyProof.Rows hiding St

structure SPo where
  nx : Env → Prop
  rt : Post
  bk : Env → Prop
  ct : Env → Prop
  ex : XP
abbrev FS := Env → SPo → Prop
def SPo.sq (S : SPo) (n : Env → Prop) : SPo := { nx := n, rt := S.rt, bk := S.bk, ct := S.ct, ex := S.ex }
def SPo.lp (S : SPo) (n : Env → Prop) : SPo := { nx := n, rt := S.rt, bk := S.nx, ct := n, ex := S.ex }
@[simp ↓] theorem sq_nx (S : SPo) (n : Env → Prop) : (S.sq n).nx = n := (rfl)
@[simp ↓] theorem sq_rt (S : SPo) (n : Env → Prop) : (S.sq n).rt = S.rt := (rfl)
@[simp ↓] theorem sq_bk (S : SPo) (n : Env → Prop) : (S.sq n).bk = S.bk := (rfl)
@[simp ↓] theorem sq_ct (S : SPo) (n : Env → Prop) : (S.sq n).ct = S.ct := (rfl)
@[simp ↓] theorem sq_ex (S : SPo) (n : Env → Prop) : (S.sq n).ex = S.ex := (rfl)
@[simp ↓] theorem lp_nx (S : SPo) (n : Env → Prop) : (S.lp n).nx = n := (rfl)
@[simp ↓] theorem lp_rt (S : SPo) (n : Env → Prop) : (S.lp n).rt = S.rt := (rfl)
@[simp ↓] theorem lp_bk (S : SPo) (n : Env → Prop) : (S.lp n).bk = S.nx := (rfl)
@[simp ↓] theorem lp_ct (S : SPo) (n : Env → Prop) : (S.lp n).ct = n := (rfl)
@[simp ↓] theorem lp_ex (S : SPo) (n : Env → Prop) : (S.lp n).ex = S.ex := (rfl)
structure SOk (X : Cx) (Wx : WX) (P L J : List Nat) (W : Wd) (Hb : Hp) (D : Ends) (S : SPo) : Prop where
  nx : ∀ ρ' σ' Hb' H', S.nx ρ' → EnvOk X.K W P J ρ' σ' Hb' H' → Sub Hb Hb' → D.nx σ' H'
  rt : ∀ d ρ' σ' v Hb' H', S.rt d ρ' → EnvOk X.K W P [] ρ' σ' Hb' H' → Is X.K Hb' v d → D.rt v H'
  bk : ∀ ρ' σ' Hb' H', S.bk ρ' → EnvOk X.K W P L ρ' σ' Hb' H' → Sub Hb Hb' → D.bk σ' H'
  ct : ∀ ρ' σ' Hb' H', S.ct ρ' → EnvOk X.K W P L ρ' σ' Hb' H' → Sub Hb Hb' → D.ct σ' H'
  ex : ∀ c ρ' cls dx σ' Hb' H', S.ex c ρ' → EnvOk X.K W P [] ρ' σ' Hb' H' → XIs X.K Hb' cls dx c → Wx cls dx σ' H'
structure DS (X : Cx) (Wx : WX) (P L I : List Nat) (st : Stmt) (F : FS) (J : List Nat) : Prop where
  run : ∃ t, PS X st t ∧ ∀ (W : Wd) (ρ : Env) (σ : St) (Hb H : Hp) (D : Ends) (S : SPo), EnvOk X.K W P I ρ σ Hb H → F ρ S → SOk X Wx P L J W Hb D S → t D σ H
structure DSs (X : Cx) (Wx : WX) (P L I : List Nat) (st : List Stmt) (F : FS) (J : List Nat) : Prop where
  run : ∃ t, PSs X st t ∧ ∀ (W : Wd) (ρ : Env) (σ : St) (Hb H : Hp) (D : Ends) (S : SPo), EnvOk X.K W P I ρ σ Hb H → F ρ S → SOk X Wx P L J W Hb D S → t D σ H
theorem SOk.from {X : Cx} {Wx : WX} {P L J : List Nat} {W : Wd} {Hb Hb1 : Hp} {D : Ends} {S : SPo} (h : SOk X Wx P L J W Hb D S) (s : Sub Hb Hb1) : SOk X Wx P L J W Hb1 D S :=
  ⟨fun ρ' σ' Hb' H' a E t => h.nx ρ' σ' Hb' H' a E (s.trans t), h.rt, fun ρ' σ' Hb' H' a E t => h.bk ρ' σ' Hb' H' a E (s.trans t), fun ρ' σ' Hb' H' a E t => h.ct ρ' σ' Hb' H' a E (s.trans t), h.ex⟩
theorem SOk.xok {X : Cx} {Wx : WX} {P L J : List Nat} {W : Wd} {Hb : Hp} {D : Ends} {S : SPo} (h : SOk X Wx P L J W Hb D S) (σ : St) : XOk X Wx W P σ S.ex := fun c ρ' cls dx Hb' H' e E x => h.ex c ρ' cls dx σ Hb' H' e E x

/-! ### readings -/
def fNext : FS := fun ρ S => S.nx ρ
@[simp ↓] theorem fNext_ap (ρ : Env) (S : SPo) : fNext  ρ S = (S.nx ρ) := (rfl)
def fSeq (A B : FS) : FS := fun ρ S => A ρ (S.sq fun ρ1 => B ρ1 S)
@[simp ↓] theorem fSeq_ap (A B : FS) (ρ : Env) (S : SPo) : fSeq A B ρ S = (A ρ (S.sq fun ρ1 => B ρ1 S)) := (rfl)
def fRet (F : FE) : FS := fun ρ S => F ρ S.rt S.ex
@[simp ↓] theorem fRet_ap (F : FE) (ρ : Env) (S : SPo) : fRet F ρ S = (F ρ S.rt S.ex) := (rfl)
def fSet (i : Nat) (F : FE) : FS := fun ρ S => F ρ (fun d ρ1 => S.nx (put ρ1 i (some d))) S.ex
@[simp ↓] theorem fSet_ap (i : Nat) (F : FE) (ρ : Env) (S : SPo) : fSet i F ρ S = (F ρ (fun d ρ1 => S.nx (put ρ1 i (some d))) S.ex) := (rfl)
def fIfS (T : FT) (A B : FS) : FS := fun ρ S => T ρ (fun b ρ1 => if b = true then A ρ1 S else B ρ1 S) S.ex
@[simp ↓] theorem fIfS_ap (T : FT) (A B : FS) (ρ : Env) (S : SPo) : fIfS T A B ρ S = (T ρ (fun b ρ1 => if b = true then A ρ1 S else B ρ1 S) S.ex) := (rfl)
abbrev FG := D → Env → (Env → Prop) → Prop
def gNm (i : Nat) : FG := fun d ρ k => k (put ρ i (some d))
@[simp ↓] theorem gNm_ap (i : Nat) (d : D) (ρ : Env) (k : Env → Prop) : gNm i d ρ k = (k (put ρ i (some d))) := (rfl)
abbrev FGs := List D → Env → (Env → Prop) → Prop
def gNl : FGs
  | [], ρ, k => k ρ
  | _, _, _ => False
def gCn (g : FG) (r : FGs) : FGs
  | d :: ds, ρ, k => g d ρ fun ρ1 => r ds ρ1 k
  | _, _, _ => False
def gTp (r : FGs) : FG
  | .tup ds, ρ, k => r ds ρ k
  | .ktp ds, ρ, k => r ds ρ k
  | _, _, _ => False
@[simp ↓] theorem gNl_ap (ρ k) : gNl [] ρ k = k ρ := (rfl)
@[simp ↓] theorem gCn_ap (g : FG) (r : FGs) (d : D) (ds : List D) (ρ k) : gCn g r (d :: ds) ρ k = g d ρ fun ρ1 => r ds ρ1 k := (rfl)
@[simp ↓] theorem gTp_tup (r : FGs) (ds : List D) (ρ k) : gTp r (.tup ds) ρ k = r ds ρ k := (rfl)
@[simp ↓] theorem gTp_ktp (r : FGs) (ds : List D) (ρ k) : gTp r (.ktp ds) ρ k = r ds ρ k := (rfl)
def fAsg (g : FG) (F : FE) : FS := fun ρ S => F ρ (fun d ρ1 => g d ρ1 S.nx) S.ex
@[simp ↓] theorem fAsg_ap (g : FG) (F : FE) (ρ : Env) (S : SPo) : fAsg g F ρ S = (F ρ (fun d ρ1 => g d ρ1 S.nx) S.ex) := (rfl)

/-- assigning a frozen value to a slot that owns nothing -/
theorem EnvOk.set {K : PySem.W.Frag} {W : Wd} {P I : List Nat} {ρ : Env} {σ : St} {Hb H : Hp} {i : Nat} {v : V} {d : D} (E : EnvOk K W P I ρ σ Hb H) (h : Is K Hb v d) (hP : i ∉ P) (hI : i ∉ I) : EnvOk K W P I (put ρ i (some d)) (σ.set i (some v)) Hb H where
  tab := E.tab
  sub := E.sub
  stp := E.stp
  len := by rw [List.length_set, put_length]; exact E.len
  val := fun j e g nP nI => by
    rcases get_put g with ⟨rfl, q⟩ | ⟨hn, q⟩
    · cases q
      have hl : j < σ.length := by
        have := get_lt g
        rw [put_length] at this
        rw [E.len]; exact this
      exact ⟨v, by rw [List.getElem?_set_self hl], h⟩
    · obtain ⟨w, e1, e2⟩ := E.val j e q nP nI
      exact ⟨w, by rw [List.getElem?_set_ne (Ne.symm hn)]; exact e1, e2⟩
  celF := fun j e hj g => by
    have hn : j ≠ i := fun q => by subst q; exact hj.elim hP hI
    rw [get_put_ne _ _ _ _ (Ne.symm hn)] at g
    obtain ⟨p, e1, r⟩ := E.celF j e hj g
    exact ⟨p, by rw [List.getElem?_set_ne (Ne.symm hn)]; exact e1, r⟩
  sepF := fun j k p q dj dk a hj hk gj gk ej ek => by
    have nj : j ≠ i := fun q => by subst q; exact hj.elim hP hI
    have nk : k ≠ i := fun q => by subst q; exact hk.elim hP hI
    rw [get_put_ne _ _ _ _ (Ne.symm nj)] at gj
    rw [get_put_ne _ _ _ _ (Ne.symm nk)] at gk
    rw [List.getElem?_set_ne (Ne.symm nj)] at ej
    rw [List.getElem?_set_ne (Ne.symm nk)] at ek
    exact E.sepF j k p q dj dk a hj hk gj gk ej ek

/-- only the slots in ts differ -/
def Off (ts : List Nat) (σ σ' : St) : Prop := σ'.length = σ.length ∧ ∀ i, i ∉ ts → σ'[i]? = σ[i]?
theorem Off.refl (ts : List Nat) (σ : St) : Off ts σ σ := ⟨rfl, fun _ _ => rfl⟩
theorem Off.trans {ts us : List Nat} {σ σ1 σ2 : St} (a : Off ts σ σ1) (b : Off us σ1 σ2) : Off (ts ++ us) σ σ2 :=
  ⟨b.1.trans a.1, fun i h => (b.2 i fun q => h (List.mem_append_right _ q)).trans (a.2 i fun q => h (List.mem_append_left _ q))⟩
structure DG (X : Cx) (P I : List Nat) (tg : Expr) (ts : List Nat) (t : TG) (g : FG) : Prop where
  pe : PG X tg t
  ev : ∀ (W : Wd) (ρ : Env) (σ : St) (Hb H : Hp) (v : V) (d : D) (Q : St → Hp → Prop) (k : Env → Prop), EnvOk X.K W P I ρ σ Hb H → Is X.K Hb v d → g d ρ k →
    (∀ ρ' σ', k ρ' → EnvOk X.K W P I ρ' σ' Hb H → Off ts σ σ' → Q σ' H) → t v σ H Q
structure DGs (X : Cx) (P I : List Nat) (tg : List Expr) (ts : List Nat) (t : TGs) (g : FGs) : Prop where
  pe : PGs X tg t
  ev : ∀ (W : Wd) (ρ : Env) (σ : St) (Hb H : Hp) (vs : List V) (ds : List D) (Q : St → Hp → Prop) (k : Env → Prop), EnvOk X.K W P I ρ σ Hb H → IsL X.K Hb vs ds → g ds ρ k →
    (∀ ρ' σ', k ρ' → EnvOk X.K W P I ρ' σ' Hb H → Off ts σ σ' → Q σ' H) → t vs σ H Q
section
variable {X : Cx} {Wx : WX} {P L I J J1 J2 : List Nat} {e tg c : Expr} {es : List Expr} {st : Stmt} {rest A B : List Stmt} {F : FE} {T : FT} {Fa Fb : FS} {g : FG} {r : FGs} {pos pos' : Pos} {te : TE} {tt : TT} {tA : TA} {tg1 : TG} {tgs : TGs}
theorem dg_name (i : Nat) {x : Str} (hN : X.N.Nodup) (hi : X.N[i]? = some x := by rfl) (hx : Loc X.env.scope x := by first | exact Or.inl rfl | exact Or.inr rfl) (hf : X.fn x = true ∨ X.env.scope.names.lookup x = some .local := by first | exact .inl rfl | exact .inr rfl | assumption)
    (hP : i ∉ P := by decide) (hI : i ∉ I := by decide) : DG X P I (.Name x pos) [i] (gName i) (gNm i) :=
  ⟨pg_name hN hi hx hf, fun W ρ σ Hb H v d Q k E is f q => q _ _ f (E.set is hP hI) ⟨List.length_set, fun j hj => by rw [List.getElem?_set_ne (fun e => hj (by rw [e]; exact List.mem_cons_self))]⟩⟩
theorem dgs_nil : DGs X P I [] [] gNil gNl := ⟨pgs_nil, fun W ρ σ Hb H vs ds Q k E is f q => by
  cases is with
  | nil => exact ⟨rfl, q _ _ f E (Off.refl _ _)⟩
  | cons a l => exact f.elim⟩
theorem dgs_cons {t1 t2 : List Nat} (h1 : DG X P I e t1 tg1 g) (h2 : DGs X P I es t2 tgs r) (hs : (assignEach (e :: es) X.env).map (·.2) = assign e X.env :: (assignEach es X.env).map (·.2) := by rfl) : DGs X P I (e :: es) (t1 ++ t2) (gCons tg1 tgs) (gCn g r) := by
  obtain ⟨p1, k1⟩ := h1
  obtain ⟨p2, k2⟩ := h2
  refine ⟨pgs_cons p1 p2 hs, fun W ρ σ Hb H vs ds Q k E is f q => ?_⟩
  cases is with
  | nil => exact f.elim
  | cons a l => exact ⟨_, _, rfl, k1 W ρ σ Hb H _ _ _ _ E a f fun ρ1 σ1 f1 E1 o1 => k2 W ρ1 σ1 Hb H _ _ _ _ E1 l f1 fun ρ2 σ2 f2 E2 o2 => q ρ2 σ2 f2 E2 (o1.trans o2)⟩
theorem dg_tup {k : Nat} {n : Nat} {ts : List Nat} (hc : X.calm = true) (h : DGs X P I es ts tgs r) (hlen : ∀ ds ρ k, r ds ρ k → ds.length = n)
    (hn : (assignEach es X.env).length = n := by rfl) (hst : (assignEach es X.env).findIdx? (·.1) = none := by rfl) : DG X P I (.Tuple es k pos) ts (gTup X.K n tgs) (gTp r) := by
  obtain ⟨p, kk⟩ := h
  refine ⟨pg_tup hc p hn hst, fun W ρ σ Hb H v d Q k E is f q => ?_⟩
  cases d <;> first | exact f.elim | skip
  · obtain ⟨a, vs, rfl, h, l⟩ := is_tupD is rfl
    exact ⟨a, vs, rfl, E.sub.sqT h, by rw [l.length]; exact hlen _ _ _ f, kk W ρ σ Hb H vs _ Q k E l f q⟩
  · obtain ⟨a, vs, rfl, h, l⟩ := is_tupD is rfl
    exact ⟨a, vs, rfl, E.sub.sqT h, by rw [l.length]; exact hlen _ _ _ f, kk W ρ σ Hb H vs _ Q k E l f q⟩

theorem dss_nil : DSs X Wx P L I [] fNext I := ⟨_, pss_nil, fun W ρ σ Hb H D S E f q => q.nx _ _ _ _ f E (Sub.refl _)⟩
theorem dss_cons (h1 : DS X Wx P L I st Fa J1) (h2 : DSs X Wx P L J1 rest Fb J) : DSs X Wx P L I (st :: rest) (fSeq Fa Fb) J := by
  obtain ⟨t1, p1, k1⟩ := h1.run
  obtain ⟨t2, p2, k2⟩ := h2.run
  exact ⟨_, pss_cons p1 p2, fun W ρ σ Hb H D S E f q => k1 W ρ σ Hb H _ _ E f ⟨fun ρ' σ' Hb' H' a E' s' => k2 W ρ' σ' Hb' H' D S E' a (q.from s'), q.rt, q.bk, q.ct, q.ex⟩⟩
theorem dss_one (h1 : DS X Wx P L I st Fa J) : DSs X Wx P L I [st] Fa J := by
  obtain ⟨t1, p1, k1⟩ := h1.run
  exact ⟨_, pss_one p1, k1⟩
theorem ds_ret (h : DE X Wx P I e te F J) (hP : ∀ j ∈ J, j ∉ P := by decide) : DS X Wx P L I (.Return (some e) pos) (fRet F) J1 := by
  obtain ⟨p, k⟩ := h
  refine ⟨_, ps_ret p, fun W ρ σ Hb H D S E f q => k W ρ σ Hb H _ _ _ E f (q.xok σ) fun d ρ1 v Hb1 H1 f1 E1 s1 i1 => ?_⟩
  obtain ⟨Hb2, E2, s2⟩ := E1.drop (J := []) (fun j q => by cases q) hP
  exact q.rt _ _ _ _ _ _ f1 E2 (i1.mono s2)
theorem ds_if (hc : DT X Wx P I c tt T J1) (ha : DSs X Wx P L J1 A Fa J) (hb : DSs X Wx P L J1 B Fb J) : DS X Wx P L I (.If c A B pos) (fIfS T Fa Fb) J := by
  obtain ⟨p1, k1⟩ := hc
  obtain ⟨t2, p2, k2⟩ := ha.run
  obtain ⟨t3, p3, k3⟩ := hb.run
  refine ⟨_, ps_if p1 p2 p3, fun W ρ σ Hb H D S E f q => k1 W ρ σ Hb H _ _ _ E f (q.xok σ) fun b ρ1 Hb1 H1 f1 E1 s1 => ?_⟩
  cases b with
  | true =>
    rw [if_pos rfl] at f1 ⊢
    exact k2 W ρ1 σ Hb1 H1 D S E1 f1 (q.from s1)
  | false =>
    rw [if_neg Bool.false_ne_true] at f1 ⊢
    exact k3 W ρ1 σ Hb1 H1 D S E1 f1 (q.from s1)
theorem ds_set (i : Nat) {x : Str} (hN : X.N.Nodup) (h : DE X Wx P I e te F J) (hi : X.N[i]? = some x := by rfl) (hx : Loc X.env.scope x := by first | exact Or.inl rfl | exact Or.inr rfl) (hs : swapsWith e (some (.Name x pos')) pos.line X.env = pure false := by rfl)
    (hf : X.fn x = true ∨ X.env.scope.names.lookup x = some .local := by first | exact .inl rfl | exact .inr rfl | assumption) (hP : i ∉ P := by decide) (hI : i ∉ J := by decide) : DS X Wx P L I (.Assign [.Name x pos'] e pos) (fSet i F) J := by
  obtain ⟨p, k⟩ := h
  exact ⟨_, ps_set hN hi hx p hs hf, fun W ρ σ Hb H D S E f q => k W ρ σ Hb H _ _ _ E f (q.xok σ) fun d ρ1 v Hb1 H1 f1 E1 s1 i1 => q.nx _ _ _ _ f1 (E1.set i1 hP hI) s1⟩
theorem ds_asg {ts : List Nat} (h : DE X Wx P I e te F J) (hg : DG X P J tg ts tg1 g) (hs : swapsWithSole [tg] e pos.line X.env = pure false := by rfl) (hw : swappedStores [tg] e X.env = pure none := by rfl)
    (h1 : (assignEach [tg] X.env).map (·.2) = [assign tg X.env] := by rfl) : DS X Wx P L I (.Assign [tg] e pos) (fAsg g F) J := by
  obtain ⟨p, k⟩ := h
  obtain ⟨pg, kg⟩ := hg
  exact ⟨_, ps_asg p pg hs hw h1, fun W ρ σ Hb H D S E f q => k W ρ σ Hb H _ _ _ E f (q.xok σ) fun d ρ1 v Hb1 H1 f1 E1 s1 i1 => kg W ρ1 σ Hb1 H1 v d _ _ E1 i1 f1 fun ρ2 σ2 f2 E2 _ => q.nx _ _ _ _ f2 E2 s1⟩
/-- a, b = x, y: two local names -/
def fPar (i j : Nat) (A : FA) : FS := fun ρ S => A ρ (fun ds ρ1 => match ds with
  | [x, y] => S.nx (put (put ρ1 i (some x)) j (some y))
  | _ => False) S.ex
@[simp ↓] theorem fPar_ap (i j : Nat) (A : FA) (ρ : Env) (S : SPo) : fPar i j A ρ S = (A ρ (fun ds ρ1 => match ds with
  | [x, y] => S.nx (put (put ρ1 i (some x)) j (some y))
  | _ => False) S.ex) := (rfl)
theorem ds_par (i j : Nat) {x y : Str} {a b : Expr} {Fl : FA} {px py pt : Pos} {kt k2 pt2} (hc : X.calm = true) (hN : X.N.Nodup) (ha : DA X Wx P I [a, b] tA Fl J) (hi : X.N[i]? = some x := by rfl) (hj : X.N[j]? = some y := by rfl) (hij : i ≠ j := by decide)
    (hx : X.env.scope.names.lookup x = some .local := by rfl) (hy : X.env.scope.names.lookup y = some .local := by rfl)
    (hw : swappedStores [.Tuple [.Name x px, .Name y py] kt pt] (.Tuple [a, b] k2 pt2) X.env = pure (some [x, y]) := by rfl)
    (hs : swapsWithSole [.Tuple [.Name x px, .Name y py] kt pt] (.Tuple [a, b] k2 pt2) pos.line X.env = pure false := by rfl)
    (hP1 : i ∉ P := by decide) (hI1 : i ∉ J := by decide) (hP2 : j ∉ P := by decide) (hI2 : j ∉ J := by decide) :
    DS X Wx P L I (.Assign [.Tuple [.Name x px, .Name y py] kt pt] (.Tuple [a, b] k2 pt2) pos) (fPar i j Fl) J := by
  obtain ⟨p, k⟩ := ha
  refine ⟨_, ps_par hc hN hi hj hij hx hy p hw hs, fun W ρ σ Hb H D S E f q => k W ρ σ Hb H _ _ _ E f (q.xok σ) fun ds ρ1 vs Hb1 H1 f1 E1 s1 i1 => ?_⟩
  match ds, i1, f1 with
  | [x, y], .cons a (.cons b .nil), f1 => exact ⟨_, _, rfl, q.nx _ _ _ _ f1 ((E1.set a hP1 hI1).set b hP2 hI2) s1⟩
end

/-! ### loops -/
/-- the data that a walk yields -/
def ItD (K : PySem.W.Frag) (J : It) (Hb : Hp) (ds : List D) : Prop := ∀ (i : Nat) (H1 Hb1 : Hp), Sub Hb Hb1 → Sub Hb1 H1 →
  (∀ d, ds[i]? = some d → J.go i H1 ∧ ∀ x H2, J.yld i H1 x H2 → ∃ Hb2, Grow Hb1 H1 Hb2 H2 ∧ Is K Hb2 x d) ∧ (i = ds.length → J.stop i H1)
structure DI (X : Cx) (Wx : WX) (P I : List Nat) (tg iter : Expr) (wi : TI) (F : FA) (J : List Nat) : Prop where
  pe : PI X tg iter wi
  ev : ∀ (W : Wd) (ρ : Env) (σ : St) (Hb H : Hp) (R : It → Hp → Prop) (post : List D → Env → Prop) (xp : XP), EnvOk X.K W P I ρ σ Hb H → F ρ post xp → XOk X Wx W P σ xp →
    (∀ ds ρ' Jt Hb' H', post ds ρ' → EnvOk X.K W P J ρ' σ Hb' H' → Sub Hb Hb' → ItD X.K Jt Hb' ds → R Jt H') → wi σ H R
/-- a list or a tuple -/
def fSeqI (F : FE) : FA := fun ρ post xp => F ρ (fun d ρ1 => match d with
  | .lst ds => post ds ρ1
  | .tup ds => post ds ρ1
  | .ktp ds => post ds ρ1
  | .slst ds => post ds ρ1
  | _ => False) xp
@[simp ↓] theorem fSeqI_ap (F : FE) (ρ : Env) (post : List D → Env → Prop) (xp : XP) : fSeqI F ρ post xp = (F ρ (fun d ρ1 => match d with
  | .lst ds => post ds ρ1
  | .tup ds => post ds ρ1
  | .ktp ds => post ds ρ1
  | .slst ds => post ds ρ1
  | _ => False) xp) := (rfl)
def fRange1 (A : FA) : FA := fun ρ post xp => A ρ (fun ds ρ1 => match ds with
  | [.int n] => (-(2 ^ 62) ≤ n ∧ n < 2 ^ 62) ∧ post ((List.range n.toNat).map fun k : Nat => D.int (k : Int)) ρ1
  | _ => False) xp
@[simp ↓] theorem fRange1_ap (A : FA) (ρ : Env) (post : List D → Env → Prop) (xp : XP) : fRange1 A ρ post xp = (A ρ (fun ds ρ1 => match ds with
  | [.int n] => (-(2 ^ 62) ≤ n ∧ n < 2 ^ 62) ∧ post ((List.range n.toNat).map fun k : Nat => D.int (k : Int)) ρ1
  | _ => False) xp) := (rfl)
def iSeq (K : PySem.W.Frag) (tl : TE) : TI := fun σ H R => tl σ H fun x H1 => ∃ a, x = .ref a ∧ (((∃ xs, SqL K H1 a xs) ∧ R (Itl K a) H1) ∨ ((∃ xs, SqT K H1 a xs) ∧ R (Itt K a) H1))
theorem pi_seq {X : Cx} {tg l : Expr} {tl : TE} (hl : PE X l tl) : PI X tg l (iSeq X.K tl) := by
  refine ⟨fun pins s σ H R I h => ?_⟩
  refine thn (hl.run pins s σ H _ I h) fun v s1 ⟨x, H1, I1, r1, q1⟩ => ?_
  obtain ⟨a, e, ⟨⟨xs, hq⟩, q⟩ | ⟨⟨xs, hq⟩, q⟩⟩ := q1
  · subst e
    cases r1
    obtain ⟨its, rv, p, hz⟩ := I1.list hq
    refine wpAny_pyIter_list p.isList ?_
    refine ⟨s1.heap.objs.size, [s1.heap.objs.size], _, _, H1, rfl, I1.kept (t' := s1.toks) fun b o e => Heap.get?_push_of_some _ e, turn_list a _, ⟨_, Heap.get?_push_size _ rfl, rfl, rfl⟩, fun b hb => ?_, q⟩
    have e : b = s1.heap.objs.size := by simpa using hb
    subst e
    exact I1.fpOk (Nat.le_refl _) (I1.hok.fresh (Nat.le_refl _))
  · subst e
    cases r1
    obtain ⟨its, rv, p, hz⟩ := I1.tuple hq
    refine wpAny_pyIter_tuple (show s1.heap.IsTuple a its.toArray from p) ?_
    refine ⟨s1.heap.objs.size, [s1.heap.objs.size], _, _, H1, rfl, I1.kept (t' := s1.toks) fun b o e => Heap.get?_push_of_some _ e, turn_tuple a _, ⟨_, Heap.get?_push_size _ rfl, rfl, rfl⟩, fun b hb => ?_, q⟩
    have e : b = s1.heap.objs.size := by simpa using hb
    subst e
    exact I1.fpOk (Nat.le_refl _) (I1.hok.fresh (Nat.le_refl _))
theorem itd_list {K : PySem.W.Frag} {Hb : Hp} {a : Addr} {vs : List V} {ds : List D} (h : SqL K Hb a vs) (l : IsL K Hb vs ds) : ItD K (Itl K a) Hb ds := fun i H1 Hb1 s1 s2 => by
  have h1 := (s1.trans s2).sqL h
  refine ⟨fun d hd => ?_, fun e => ⟨vs, h1, by rw [l.length]; omega⟩⟩
  obtain ⟨v, hv, iv⟩ := l.get hd
  refine ⟨⟨vs, v, h1, hv⟩, fun x H2 ⟨e, q⟩ => ?_⟩
  subst e
  have ex := q vs h1
  rw [hv] at ex; cases ex
  exact ⟨Hb1, .refl, iv.mono s1⟩
theorem itd_tup {K : PySem.W.Frag} {Hb : Hp} {a : Addr} {vs : List V} {ds : List D} (h : SqT K Hb a vs) (l : IsL K Hb vs ds) : ItD K (Itt K a) Hb ds := fun i H1 Hb1 s1 s2 => by
  have h1 := (s1.trans s2).sqT h
  refine ⟨fun d hd => ?_, fun e => ⟨vs, h1, by rw [l.length]; omega⟩⟩
  obtain ⟨v, hv, iv⟩ := l.get hd
  refine ⟨⟨vs, v, h1, hv⟩, fun x H2 ⟨e, q⟩ => ?_⟩
  subst e
  have ex := q vs h1
  rw [hv] at ex; cases ex
  exact ⟨Hb1, .refl, iv.mono s1⟩
theorem itd_range {K : PySem.W.Frag} {Hb : Hp} (lo : Int) (n : Nat) : ItD K (Itr lo n) Hb ((List.range n).map fun k : Nat => D.int (lo + (k : Int))) := fun i H1 Hb1 s1 s2 => by
  refine ⟨fun d hd => ?_, fun e => by show n ≤ i; rw [e]; simp⟩
  rw [List.getElem?_map] at hd
  cases q : (List.range n)[i]? with
  | none => rw [q] at hd; cases hd
  | some k =>
    rw [q] at hd; cases hd
    obtain ⟨hl, ek⟩ := List.getElem?_eq_some_iff.mp q
    rw [List.getElem_range] at ek
    subst ek
    have hl' : i < n := by simpa using hl
    refine ⟨hl', fun x H2 ⟨e, ex⟩ => ?_⟩
    subst e ex
    exact ⟨Hb1, .refl, .int _⟩
section
variable {X : Cx} {Wx : WX} {P L I J J1 J2 : List Nat} {e tg c iter : Expr} {es : List Expr} {st : Stmt} {body : List Stmt} {F : FE} {T : FT} {A : FA} {B : FS} {g : FG} {r : FGs} {pos pos' p : Pos} {te : TE} {tt : TT} {tA : TA} {tg1 : TG} {tgs : TGs} {wi : TI}
theorem di_seq (h : DE X Wx P I e te F J) : DI X Wx P I tg e (iSeq X.K te) (fSeqI F) J := by
  obtain ⟨p, k⟩ := h
  refine ⟨pi_seq p, fun W ρ σ Hb H R post xp E f x q => k W ρ σ Hb H _ _ xp E f x fun d ρ1 v Hb1 H1 f1 E1 s1 i1 => ?_⟩
  cases d <;> first | exact f1.elim | skip
  · obtain ⟨a, vs, rfl, h, l⟩ := is_tupD i1 rfl
    exact ⟨a, rfl, .inr ⟨⟨vs, E1.sub.sqT h⟩, q _ _ _ _ _ f1 E1 s1 (itd_tup h l)⟩⟩
  · obtain ⟨a, vs, rfl, h, l⟩ := is_lstD i1 rfl
    exact ⟨a, rfl, .inl ⟨⟨vs, E1.sub.sqL h⟩, q _ _ _ _ _ f1 E1 s1 (itd_list h l)⟩⟩
  · obtain ⟨a, vs, rfl, h, l⟩ := is_tupD i1 rfl
    exact ⟨a, rfl, .inr ⟨⟨vs, E1.sub.sqT h⟩, q _ _ _ _ _ f1 E1 s1 (itd_tup h l)⟩⟩
  · obtain ⟨a, vs, rfl, h, l⟩ := is_lstD i1 rfl
    exact ⟨a, rfl, .inl ⟨⟨vs, E1.sub.sqL h⟩, q _ _ _ _ _ f1 E1 s1 (itd_list h l)⟩⟩
theorem di_range1 (hm : X.mg "range" = none) (ha : DA X Wx P I [e] tA A J) (hg : Gl X "range" := by rfl) (hs : starEach [e] X.env = [(false, eval e X.env)] := by rfl) : DI X Wx P I tg (.Call (.Name "range" p) [e] [] pos) (iRng1 tA) (fRange1 A) J := by
  obtain ⟨pa, k⟩ := ha
  refine ⟨pi_range1 hg hm pa hs, fun W ρ σ Hb H R post xp E f x q => k W ρ σ Hb H _ _ xp E f x fun ds ρ1 vs Hb1 H1 f1 E1 s1 i1 => ?_⟩
  match ds, i1, f1 with
  | [.int n], .cons (.int _) .nil, f1 =>
    refine ⟨n, rfl, f1.1.1, f1.1.2, q _ _ _ _ _ f1.2 E1 s1 ?_⟩
    have := itd_range (K := X.K) (Hb := Hb1) 0 n.toNat
    simpa using this
/-- a for loop, item by item -/
def loopL (g : FG) (B : FS) (S : SPo) : List D → Env → Prop
  | [], ρ => S.nx ρ
  | d :: ds, ρ => g d ρ fun ρ1 => B ρ1 { nx := loopL g B S ds, rt := S.rt, bk := S.nx, ct := loopL g B S ds, ex := S.ex }
inductive LockS (S : SPo) : Type | mk
def loopK (g : FG) (B : FS) (S : SPo) (_ : LockS S) (ds : List D) (ρ : Env) : Prop := loopL g B S ds ρ
def fFor (A : FA) (g : FG) (B : FS) : FS := fun ρ S => A ρ (fun ds ρ1 => loopK g B S .mk ds ρ1) S.ex
@[simp ↓] theorem fFor_ap (A : FA) (g : FG) (B : FS) (ρ : Env) (S : SPo) : fFor A g B ρ S = (A ρ (fun ds ρ1 => loopK g B S .mk ds ρ1) S.ex) := (rfl)
theorem ds_for (hp : PassesOwn (model X.prog X.w) X.A X.env X.xe) (hc : X.calm = true) {ts : List Nat} (hi : DI X Wx P I tg iter wi A J) (hg : DG X P J tg ts tg1 g) (hb : DSs X Wx P J J body B J)
    (hs : ∀ x, foldedSetIterable iter X.env x = pure x := by intro _; rfl) : DS X Wx P L I (.For tg iter body [] pos) (fFor A g B) J := by
  obtain ⟨pi, ki⟩ := hi
  obtain ⟨pg, kg⟩ := hg
  obtain ⟨tb, pb, kb⟩ := hb.run
  refine ⟨_, ps_for hp hc pi pg pb hs, fun W ρ σ Hb H D S E f q => ki W ρ σ Hb H _ _ _ E f (q.xok σ) fun ds ρ1 Jt Hb1 H1 f1 E1 s1 it => ?_⟩
  refine ⟨fun i m σ' H' => m = ds.length - i ∧ i ≤ ds.length ∧ ∃ ρ' Hb', EnvOk X.K W P J ρ' σ' Hb' H' ∧ Sub Hb1 Hb' ∧ loopL g B S (ds.drop i) ρ', ⟨_, rfl, Nat.zero_le _, ρ1, Hb1, E1, Sub.refl _, f1⟩, ?_⟩
  rintro i m σ2 H2 ⟨rfl, hi, ρ2, Hb2, E2, s2, f2⟩
  obtain ⟨i1, i2⟩ := it i H2 Hb2 s2 E2.sub
  by_cases hlt : i < ds.length
  · rw [List.drop_eq_getElem_cons hlt] at f2
    obtain ⟨go, yl⟩ := i1 ds[i] (List.getElem?_eq_getElem hlt)
    refine .inr ⟨go, fun σ' H' => ∃ ρ' Hb', EnvOk X.K W P J ρ' σ' Hb' H' ∧ Sub Hb1 Hb' ∧ loopL g B S (ds.drop (i + 1)) ρ', fun σ' H' h => ⟨ds.length - (i + 1), by omega, rfl, hlt, h⟩, fun x H3 y => ?_⟩
    obtain ⟨Hb3, gr, is⟩ := yl x H3 y
    obtain ⟨E3, s3⟩ := gr.env E2
    refine kg W ρ2 σ2 Hb3 H3 x _ _ _ E3 is f2 fun ρ4 σ4 f4 E4 _ => ?_
    refine kb W ρ4 σ4 Hb3 H3 _ _ E4 f4 ⟨fun ρ' σ' Hb' H' a b c => ⟨ρ', Hb', b, (s2.trans s3).trans c, a⟩, q.rt, fun ρ' σ' Hb' H' a b c => q.nx _ _ _ _ a b (((s1.trans s2).trans s3).trans c), fun ρ' σ' Hb' H' a b c => ⟨ρ', Hb', b, (s2.trans s3).trans c, a⟩, q.ex⟩
  · have e : i = ds.length := by omega
    subst e
    rw [List.drop_length] at f2
    exact .inl ⟨i2 rfl, q.nx _ _ _ _ f2 E2 (s1.trans s2)⟩

end
end DL

/-! DL5: cells that a slot owns: lists that are appended to, dicts. -/
namespace DL
open PySem L2
open PyProof.Rows hiding St

/-- a new cell at p that nothing else knows -/
structure NewAt (K : PySem.W.Frag) (W : Wd) (P J : List Nat) (ρ : Env) (σ : St) (Hb H : Hp) (p : Addr) (d : D) : Prop where
  cell : Cell K Hb H p d
  nbF : ∀ a, foot H p d a → Hb a = none ∧ W.H a = none
  unF : ∀ i di q a, (i ∈ P ∨ i ∈ J) → get ρ i = some di → σ[i]? = some (some (.ref q)) → foot H p d a → ¬ foot H q di a
theorem NewAt.nb {K : PySem.W.Frag} {W : Wd} {P J : List Nat} {ρ : Env} {σ : St} {Hb H : Hp} {p : Addr} {d : D} (n : NewAt K W P J ρ σ Hb H p d) : Hb p = none := (n.nbF p foot.root).1
theorem NewAt.wn {K : PySem.W.Frag} {W : Wd} {P J : List Nat} {ρ : Env} {σ : St} {Hb H : Hp} {p : Addr} {d : D} (n : NewAt K W P J ρ σ Hb H p d) : W.H p = none := (n.nbF p foot.root).2
theorem NewAt.un {K : PySem.W.Frag} {W : Wd} {P J : List Nat} {ρ : Env} {σ : St} {Hb H : Hp} {p : Addr} {d : D} (n : NewAt K W P J ρ σ Hb H p d) : ∀ i, (i ∈ P ∨ i ∈ J) → get ρ i ≠ none → σ[i]? ≠ some (some (.ref p)) := fun i hi g e => by
  cases q : get ρ i with
  | none => exact g q
  | some di => exact n.unF i di p p hi q e foot.root foot.root
structure DNw (X : Cx) (Wx : WX) (P I : List Nat) (e : Expr) (t : TE) (F : FE) (J : List Nat) : Prop where
  pe : PE X e t
  ev : ∀ (W : Wd) (ρ : Env) (σ : St) (Hb H : Hp) (Q : VK) (post : Post) (xp : XP), EnvOk X.K W P I ρ σ Hb H → F ρ post xp → XOk X Wx W P σ xp →
    (∀ d ρ' p Hb' H', post d ρ' → EnvOk X.K W P J ρ' σ Hb' H' → Sub Hb Hb' → NewAt X.K W P J ρ' σ Hb' H' p d → Q (.ref p) H') → t σ H Q
section
variable {K : PySem.W.Frag} {W : Wd} {P I J : List Nat} {ρ : Env} {σ : St} {Hb H : Hp} {p : Addr} {d : D} {o : HO}
theorem flat_foot {d : D} (fl : partsOf d = []) {H : Hp} {p a : Addr} (h : foot H p d a) : a = p := h.elim id fun e => by rw [fl] at e; cases e
/-- what a slot owns is none of what is not there -/
theorem EnvOk.noneF (E : EnvOk K W P I ρ σ Hb H) {i : Nat} {di : D} {q a : Addr} (hi : i ∈ P ∨ i ∈ I) (g : get ρ i = some di) (e : σ[i]? = some (some (.ref q))) (ft : foot H q di a) : ∃ o, H a = some o := by
  obtain ⟨p, ep, c, _⟩ := E.celF i di hi g
  rw [e] at ep; cases ep
  obtain ⟨o, ho, _⟩ := c.footS ft
  exact ⟨o, ho⟩
theorem NewAt.mk' (E : EnvOk K W P I ρ σ Hb H) (h : H p = none) (c : Cell K Hb (upd H p o) p d) (fl : partsOf d = [] := by rfl) : NewAt K W P I ρ σ Hb (upd H p o) p d where
  cell := c
  nbF := fun a ha => by
    have := flat_foot fl ha
    subst this
    exact ⟨E.sub.none h, E.stp.al a h⟩
  unF := fun i di q a hi g e ha fa => by
    have := flat_foot fl ha
    subst this
    have nq : q ≠ a := fun z => by
      subst z
      obtain ⟨u, hu⟩ := E.noneF hi g e foot.root
      rw [h] at hu; cases hu
    have fa := foot.cong (H := H) (by rw [upd_ne nq]) fa
    obtain ⟨u, hu⟩ := E.noneF hi g e fa
    rw [h] at hu; cases hu
/-- frozen -/
theorem EnvOk.freeze (E : EnvOk K W P I ρ σ Hb H) (n : NewAt K W P I ρ σ Hb H p d) : ∃ Hb', EnvOk K W P I ρ σ Hb' H ∧ Sub Hb Hb' ∧ Is K Hb' (.ref p) d := by
  classical
  let Hb' : Hp := fun a => if foot H p d a then H a else Hb a
  have hpos : ∀ {a}, foot H p d a → Hb' a = H a := fun {a} h => if_pos h
  have hneg : ∀ {a}, ¬ foot H p d a → Hb' a = Hb a := fun {a} h => if_neg h
  have sb : Sub Hb Hb' := fun a o e => by
    by_cases h : foot H p d a
    · rw [(n.nbF a h).1] at e; cases e
    · rw [hneg h]; exact ⟨_, e, .inl rfl⟩
  obtain ⟨k1, k2⟩ := E.cells (H' := H) (W' := W) sb (fun i x q a u hi g e ha hu => ⟨hu, by
    obtain ⟨q', e', _, _, f⟩ := E.celF i x hi g
    rw [e] at e'; cases e'
    rw [hneg fun z => n.unF i x q a hi g e z ha]
    exact (f a ha).1⟩) (fun _ _ _ _ _ _ _ _ => ⟨id, id⟩) (fun _ _ _ _ _ _ _ _ => id)
  refine ⟨Hb', ⟨fun a u e => ?_, ⟨E.stp.hb.trans sb, E.stp.fr, fun a u e => ?_, E.stp.al, E.stp.tp⟩, E.len, fun i x g nP nI => ?_, k1, k2, E.tab.kb sb fun a ps e z => by rw [hneg fun w => n.cell.nts w e ps rfl]; exact z⟩, sb, ?_⟩
  · by_cases ha : foot H p d a
    · rw [hpos ha] at e; exact ⟨_, e, .inl rfl⟩
    · rw [hneg ha] at e; exact E.sub a u e
  · by_cases ha : foot H p d a
    · exact .inr (.inl (n.nbF a ha).2)
    · rw [hneg ha] at e; exact E.stp.fs a u e
  · obtain ⟨v, e, q⟩ := E.val i x g nP nI
    exact ⟨v, e, q.mono sb⟩
  · exact (n.cell.mono sb (H' := Hb') fun a u ha e => by rw [hpos ha]; exact e).is (Sub.refl _)
/-- a slot takes the new cell -/
theorem EnvOk.take (E : EnvOk K W P J ρ σ Hb H) (n : NewAt K W P J ρ σ Hb H p d) {i : Nat} (hP : i ∉ P) (hi : i < ρ.length) : EnvOk K W P (i :: J) (put ρ i (some d)) (σ.set i (some (.ref p))) Hb H where
  tab := E.tab
  sub := E.sub
  stp := E.stp
  len := by rw [List.length_set, put_length]; exact E.len
  val := fun j x g nP nI => by
    have hn : j ≠ i := fun q => nI (by rw [q]; exact List.mem_cons_self)
    rw [get_put_ne _ _ _ _ (Ne.symm hn)] at g
    obtain ⟨w, e1, e2⟩ := E.val j x g nP fun q => nI (List.mem_cons_of_mem _ q)
    exact ⟨w, by rw [List.getElem?_set_ne (Ne.symm hn)]; exact e1, e2⟩
  celF := fun j x hj g => by
    by_cases hn : j = i
    · subst hn
      rw [get_put_same _ _ _ hi] at g; cases g
      exact ⟨p, by rw [List.getElem?_set_self (by rw [E.len]; exact hi)], n.cell, fun q => absurd q hP, fun a ha => ⟨(n.nbF a ha).1, fun q => absurd q hP, fun _ => (n.nbF a ha).2⟩⟩
    · rw [get_put_ne _ _ _ _ (Ne.symm hn)] at g
      have hj' : j ∈ P ∨ j ∈ J := hj.imp id fun q => (List.mem_cons.mp q).resolve_left hn
      obtain ⟨q, e1, e2, e3, e4⟩ := E.celF j x hj' g
      exact ⟨q, by rw [List.getElem?_set_ne (Ne.symm hn)]; exact e1, e2, e3, fun a ha => ⟨(e4 a ha).1, (e4 a ha).2.1, fun z => (e4 a ha).2.2 ((List.mem_cons.mp z).resolve_left hn)⟩⟩
  sepF := fun j k q q' dj dk a hj hk gj gk ej ek fj fk => by
    have other : ∀ {m : Nat} {dm : D} {r : Addr}, m ≠ i → (m ∈ P ∨ m ∈ i :: J) → get (put ρ i (some d)) m = some dm → (σ.set i (some (.ref p)))[m]? = some (some (.ref r)) → (m ∈ P ∨ m ∈ J) ∧ get ρ m = some dm ∧ σ[m]? = some (some (.ref r)) := fun {m dm r} hn hm gm em => by
      rw [get_put_ne _ _ _ _ (Ne.symm hn)] at gm
      rw [List.getElem?_set_ne (Ne.symm hn)] at em
      exact ⟨hm.imp id fun z => (List.mem_cons.mp z).resolve_left hn, gm, em⟩
    by_cases hj0 : j = i
    · by_cases hk0 : k = i
      · rw [hj0, hk0]
      · obtain ⟨a1, a2, a3⟩ := other hk0 hk gk ek
        subst hj0
        rw [List.getElem?_set_self (by rw [E.len]; exact hi)] at ej
        cases ej
        rw [get_put_same _ _ _ hi] at gj; cases gj
        exact absurd fk (n.unF k dk q' a a1 a2 a3 fj)
    · obtain ⟨b1, b2, b3⟩ := other hj0 hj gj ej
      by_cases hk0 : k = i
      · subst hk0
        rw [List.getElem?_set_self (by rw [E.len]; exact hi)] at ek
        cases ek
        rw [get_put_same _ _ _ hi] at gk; cases gk
        exact absurd fj (n.unF j dj q a b1 b2 b3 fk)
      · obtain ⟨a1, a2, a3⟩ := other hk0 hk gk ek
        exact E.sepF j k q q' dj dk a b1 a1 b2 a2 b3 a3 fj fk
/-- an address of a slot's cell is written; the cell's addresses stay -/
theorem EnvOk.writeF {i : Nat} {d0 : D} {r : Addr} (E : EnvOk K W P I ρ σ Hb H) (hi : i ∈ P ∨ i ∈ I) (g : get ρ i = some d0) (e : σ[i]? = some (some (.ref r))) (fp : foot H r d0 p) (c : Cell K Hb (upd H p o) r d) (nt : ∀ vs : List V, o ≠ .tup vs) (same : ∀ a, foot (upd H p o) r d a → foot H r d0 a) : EnvOk K W P I (put ρ i (some d)) σ Hb (upd H p o) := by
  obtain ⟨p', ep, c0, hr, f⟩ := E.celF i d0 hi g
  rw [e] at ep; cases ep
  obtain ⟨nb, h1, h2⟩ := f p fp
  -- the others
  have oth : ∀ {j x q}, j ≠ i → (j ∈ P ∨ j ∈ I) → get ρ j = some x → σ[j]? = some (some (.ref q)) → ∀ a, foot H q x a → a ≠ p := fun {j x q} hn hj gj ej a ha z => by
    subst z
    exact hn (E.sepF j i q r x d0 a hj hi gj g ej e ha fp)
  have rt : ∀ {j x q}, j ≠ i → (j ∈ P ∨ j ∈ I) → get ρ j = some x → σ[j]? = some (some (.ref q)) → ∀ a, foot (upd H p o) q x a → foot H q x a := fun {j x q} hn hj gj ej a ha =>
    foot.cong (by rw [upd_ne (oth hn hj gj ej q foot.root)]) ha
  obtain ⟨o0, ho0, no0⟩ := c0.footT fp
  refine ⟨fun a x ea => ?_, ⟨E.stp.hb, fun a x ea n ntb => ?_, E.stp.fs, fun a ea => ?_, fun a vs ea => ?_⟩, by rw [put_length]; exact E.len, fun j x gj nP nI => ?_, fun j x hj gj => ?_, fun j k q q' dj dk a hj hk gj gk ej ek fj fk => ?_, E.tab.wr ho0 no0⟩
  · have ha : a ≠ p := fun z => by subst z; rw [nb] at ea; cases ea
    rw [upd_ne ha]; exact E.sub a x ea
  · have ha : a ≠ p := fun z => by
      subst z
      rcases hi with hi | hi
      · rcases h1 hi with h1 | h1
        · exact n i h1
        · rw [h1] at ea; cases ea
      · rw [h2 hi] at ea; cases ea
    rw [upd_ne ha]; exact E.stp.fr a x ea n ntb
  · by_cases ha : a = p
    · subst ha; rw [upd_same] at ea; cases ea
    · rw [upd_ne ha] at ea; exact E.stp.al a ea
  · by_cases ha : a = p
    · subst ha; rw [upd_same] at ea; cases ea; exact absurd rfl (nt vs)
    · rw [upd_ne ha] at ea; exact E.stp.tp a vs ea
  · have hn : j ≠ i := fun q => by subst q; exact hi.elim nP nI
    rw [get_put_ne _ _ _ _ (Ne.symm hn)] at gj
    exact E.val j x gj nP nI
  · by_cases hn : j = i
    · subst hn
      rw [get_put_same _ _ _ (get_lt g)] at gj; cases gj
      exact ⟨r, e, c, hr, fun a ha => f a (same a ha)⟩
    · rw [get_put_ne _ _ _ _ (Ne.symm hn)] at gj
      obtain ⟨q, e1, e2, e3, e4⟩ := E.celF j x hj gj
      exact ⟨q, e1, e2.mono (Sub.refl _) fun a o ha eo => by rw [upd_ne (oth hn hj gj e1 a ha)]; exact eo, e3, fun a ha => e4 a (rt hn hj gj e1 a ha)⟩
  · by_cases hj0 : j = i
    · by_cases hk0 : k = i
      · rw [hj0, hk0]
      · subst hj0
        rw [get_put_same _ _ _ (get_lt g)] at gj; cases gj
        rw [get_put_ne _ _ _ _ (Ne.symm hk0)] at gk
        rw [e] at ej; cases ej
        exact E.sepF j k r q' d0 dk a hj hk g gk e ek (same a fj) (rt hk0 hk gk ek a fk)
    · rw [get_put_ne _ _ _ _ (Ne.symm hj0)] at gj
      by_cases hk0 : k = i
      · subst hk0
        rw [get_put_same _ _ _ (get_lt g)] at gk; cases gk
        rw [e] at ek; cases ek
        exact E.sepF j k q r dj d0 a hj hk gj g ej e (rt hj0 hj gj ej a fj) (same a fk)
      · rw [get_put_ne _ _ _ _ (Ne.symm hk0)] at gk
        exact E.sepF j k q q' dj dk a hj hk gj gk ej ek (rt hj0 hj gj ej a fj) (rt hk0 hk gk ek a fk)
/-- the cell of a slot is written -/
theorem EnvOk.write (E : EnvOk K W P I ρ σ Hb H) {i : Nat} {d0 : D} (hi : i ∈ P ∨ i ∈ I) (g : get ρ i = some d0) (e : σ[i]? = some (some (.ref p))) (c : Cell K Hb (upd H p o) p d) (fl : ∀ a, a ∈ partsOf d → foot H p d0 a := by intro a z; cases z) : EnvOk K W P I (put ρ i (some d)) σ Hb (upd H p o) :=
  E.writeF hi g e foot.root c (fun vs z => c.nt vs (by rw [upd_same, z])) fun a ha => by
    rcases ha with ha | ha
    · exact .inl ha
    · exact fl a ha
end

section
variable {X : Cx} {Wx : WX} {P L I J J1 J2 : List Nat} {e a b c : Expr} {es : List Expr} {F G : FE} {A : FA} {pos pos' apos cpos : Pos} {te : TE} {tA : TA}
theorem de_new (h : DNw X Wx P I e te F J) : DE X Wx P I e te F J := by
  obtain ⟨p, k⟩ := h
  refine ⟨p, fun W ρ σ Hb H Q post xp E f x q => k W ρ σ Hb H Q post xp E f x fun d ρ' p Hb' H' f' E' s' n => ?_⟩
  obtain ⟨Hb2, E2, s2, i2⟩ := E'.freeze n
  exact q _ _ _ _ _ f' E2 (s'.trans s2) i2
theorem dn_lst (h : DA X Wx P I es tA A J) : DNw X Wx P I (.List es pos) (tLst tA) (fun ρ post xp => A ρ (fun xs ρ1 => xs.length ≤ 1000000 ∧ post (.lst xs) ρ1) xp) J := by
  obtain ⟨pa, ka⟩ := h
  refine ⟨pe_lst pa, fun W ρ σ Hb H Q post xp E f x q => ka W ρ σ Hb H _ _ xp E f x fun ds ρ1 vs Hb1 H1 f1 E1 s1 i1 => ⟨?_, fun p hp => ?_⟩⟩
  · rw [i1.length]; exact Nat.le_trans f1.1 (by decide)
  · exact q _ _ _ _ _ f1.2 (E1.more hp) s1 (NewAt.mk' E1 hp ⟨vs, upd_same, i1⟩)
/-- x = a new cell; x owns it from here on -/
def fSetN (i : Nat) (F : FE) : FS := fun ρ S => F ρ (fun d ρ1 => i < ρ1.length ∧ S.nx (put ρ1 i (some d))) S.ex
@[simp ↓] theorem fSetN_ap (i : Nat) (F : FE) (ρ : Env) (S : SPo) : fSetN i F ρ S = (F ρ (fun d ρ1 => i < ρ1.length ∧ S.nx (put ρ1 i (some d))) S.ex) := (rfl)
theorem ds_setN (i : Nat) {x : Str} (hN : X.N.Nodup) (h : DNw X Wx P I e te F J) (hi : X.N[i]? = some x := by rfl) (hx : Loc X.env.scope x := by first | exact Or.inl rfl | exact Or.inr rfl) (hs : swapsWith e (some (.Name x pos')) pos.line X.env = pure false := by rfl)
    (hf : X.fn x = true ∨ X.env.scope.names.lookup x = some .local := by first | exact .inl rfl | exact .inr rfl | assumption) (hP : i ∉ P := by decide) : DS X Wx P L I (.Assign [.Name x pos'] e pos) (fSetN i F) (i :: J) := by
  obtain ⟨p, k⟩ := h
  exact ⟨_, ps_set hN hi hx p hs hf, fun W ρ σ Hb H D S E f q => k W ρ σ Hb H _ _ _ E f (q.xok σ) fun d ρ1 p Hb1 H1 f1 E1 s1 n => q.nx _ _ _ _ f1.2 (E1.take n hP f1.1) s1⟩
/-- x.append(e), x owns its list -/
def fAppend (i : Nat) (F : FE) : FS := fun ρ S => (∃ ds, get ρ i = some (.lst ds)) ∧ F ρ (fun y ρ1 => ∃ ds, get ρ1 i = some (.lst ds) ∧ ds.length < 1000000 ∧ S.nx (put ρ1 i (some (.lst (ds ++ [y]))))) S.ex
@[simp ↓] theorem fAppend_ap (i : Nat) (F : FE) (ρ : Env) (S : SPo) : fAppend i F ρ S = ((∃ ds, get ρ i = some (.lst ds)) ∧ F ρ (fun y ρ1 => ∃ ds, get ρ1 i = some (.lst ds) ∧ ds.length < 1000000 ∧ S.nx (put ρ1 i (some (.lst (ds ++ [y]))))) S.ex) := (rfl)
theorem ds_append (i : Nat) {x : Str} (h : DE X Wx P I e te F J) (hi : i ∈ P ∨ i ∈ I := by decide) (hj : i ∈ P ∨ i ∈ J := by decide) (hN : X.N[i]? = some x := by rfl) (hv : Vis X.env.scope x := by first | exact Or.inl rfl | exact Or.inr (Or.inl rfl) | exact Or.inr (Or.inr rfl)) (hd : (x == ("__debug__" : Str)) = false := by decide)
    (hcd : (x == ("__classdict__" : Str)) = false := by decide) (hs : swapsWith (.Call (.Attribute (.Name x pos') "append" apos) [e] [] cpos) none pos.line X.env = pure false := by rfl)
    (hbase : attributeBase (.Name x pos') "append" X.env (eval (.Name x pos') X.env) = eval (.Name x pos') X.env := by rfl)
    (hfew : ((backTo cpos (starEach [e] X.env)).all (fun x => !x.1) && (backToKw cpos (keywordEach [] X.env)).all (fun x => x.1.isSome)
      && decide ([e].length + ([] : List Keyword).length + (if ([] : List Keyword).isEmpty then 0 else 1) < 30)) = true := by rfl)
    (hline : (apos.endLine == cpos.line) = true := by rfl) (hst : starEach [e] X.env = (false, eval e X.env) :: starEach [] X.env := by rfl) (hplain : (backTo cpos (starEach [] X.env)).any (·.1) = false := by rfl) :
    DS X Wx P L I (.Expr (.Call (.Attribute (.Name x pos') "append" apos) [e] [] cpos) pos) (fAppend i F) J := by
  obtain ⟨p, k⟩ := h
  refine ⟨_, ps_expr (pe_bm PySem.F.plainAttrs_list PySem.F.slot_list_append PySem.F.type_list_append mt_append (pe_var hN hv hd hcd) (pa_cons p pa_nil hst) hbase hfew hline hst hplain) hs, fun W ρ σ Hb H D S E f q => ?_⟩
  obtain ⟨⟨ds0, g0⟩, f⟩ := f
  obtain ⟨p, ep, n0, ⟨vs0, hp0, _⟩, _, _⟩ := E.cel i _ hi g0
  refine ⟨_, ep, .inl ⟨rfl, _, SqL.of hp0⟩, ?_⟩
  refine k W ρ σ Hb H _ _ _ E f (q.xok σ) fun d ρ1 v Hb1 H1 f1 E1 s1 i1 => ?_
  obtain ⟨ds, g1, hz, f2⟩ := f1
  obtain ⟨p', ep', n1, ⟨vs, hp, l⟩, _, _⟩ := E1.cel i _ hj g1
  rw [ep] at ep'; cases ep'
  refine ⟨p, vs, v, rfl, rfl, hp, by rw [l.length]; exact Nat.lt_of_lt_of_le hz (by decide), ?_⟩
  exact q.nx _ _ _ _ f2 (E1.write hj g1 ep ⟨_, upd_same, l.snoc i1⟩) s1

end
end DL

/-! DL6: dicts, slices, comprehensions over data. -/
namespace DL
open PySem L2
open PyProof.Rows hiding St

/-! ### a store into a slot's own dict -/
def fPutO (i : Nat) (Fv Fk : FE) : FS := fun ρ S => Fv ρ (fun v ρ1 => (∃ d0, get ρ1 i = some d0 ∧ isDict d0) ∧ Fk ρ1 (fun k ρ2 => ∃ d d', get ρ2 i = some d ∧ sizeD d < 1000000 ∧ putKD d k v = some d' ∧ S.nx (put ρ2 i (some d'))) S.ex) S.ex
@[simp ↓] theorem fPutO_ap (i : Nat) (Fv Fk : FE) (ρ : Env) (S : SPo) : fPutO i Fv Fk ρ S = (Fv ρ (fun v ρ1 => (∃ d0, get ρ1 i = some d0 ∧ isDict d0) ∧ Fk ρ1 (fun k ρ2 => ∃ d d', get ρ2 i = some d ∧ sizeD d < 1000000 ∧ putKD d k v = some d' ∧ S.nx (put ρ2 i (some d'))) S.ex) S.ex) := (rfl)
section
variable {X : Cx} {Wx : WX} {P L I J J1 J2 : List Nat} {e a b c o k : Expr} {es : List Expr} {F G : FE} {A : FA} {pos pos' apos cpos : Pos} {ta tb : TE}
/-- d[k] = v, d a slot's own -/
theorem ds_putO (i : Nat) {x : Str} {value : Expr} {spos : Pos} (hu : X.A.units + 1 < cLine) (hv : DE X Wx P I value ta F J1) (hk : DE X Wx P J1 k tb G J) (hi : i ∈ P ∨ i ∈ J1 := by decide) (hj : i ∈ P ∨ i ∈ J := by decide) (hN : X.N[i]? = some x := by rfl) (hvx : Vis X.env.scope x := by first | exact Or.inl rfl | exact Or.inr (Or.inl rfl) | exact Or.inr (Or.inr rfl)) (hd : (x == ("__debug__" : Str)) = false := by decide)
    (hcd : (x == ("__classdict__" : Str)) = false := by decide) (hs : swapsWith value (some (.Subscript (.Name x pos') k spos)) pos.line X.env = pure false := by rfl) :
    DS X Wx P L I (.Assign [.Subscript (.Name x pos') k spos] value pos) (fPutO i F G) J := by
  obtain ⟨p1, k1⟩ := hv
  obtain ⟨p2, k2⟩ := hk
  refine ⟨_, ps_dput hu (pe_var hN hvx hd hcd) p2 p1 hs, fun W ρ σ Hb H D S E f q => k1 W ρ σ Hb H _ _ _ E f (q.xok σ) fun z ρ1 v Hb1 H1 f1 E1 s1 i1 => ?_⟩
  obtain ⟨⟨d0, g0, _⟩, f1⟩ := f1
  obtain ⟨p, ep, _⟩ := E1.cel i d0 hi g0
  refine ⟨_, ep, k2 W ρ1 σ Hb1 H1 _ _ _ E1 f1 (q.xok σ) fun kd ρ2 y Hb2 H2 f2 E2 s2 i2 => ?_⟩
  obtain ⟨d, d', gd, hz, g, f2⟩ := f2
  obtain ⟨p', ep', _, c, _⟩ := E2.cel i d hj gd
  rw [ep] at ep'; cases ep'
  obtain ⟨o, dp, c', fl⟩ := cell_put c i2 (i1.mono s2) E2.sub hz g
  exact ⟨p, _, rfl, dp, q.nx _ _ _ _ f2 (E2.write hj gd ep c' fl) (s1.trans s2)⟩
end

/-! ### slices -/
def cutL (ds : List D) (lo hi : Option Int) : List D := (ds.drop (HT.sIx ds.length 0 lo)).take (HT.sIx ds.length ds.length hi - HT.sIx ds.length 0 lo)
theorem cut_is {K : PySem.W.Frag} {H : Hp} {vs : List V} {ds : List D} (l : IsL K H vs ds) (lo hi : Option Int) : IsL K H (cutV vs lo hi) (cutL ds lo hi) := by
  unfold cutV cutL
  rw [l.length]
  exact (l.drop _).take _
abbrev FO := Env → (Option Int → Env → Prop) → XP → Prop
structure DOp (X : Cx) (Wx : WX) (P I : List Nat) (e : Option Expr) (t : TO) (F : FO) (J : List Nat) : Prop where
  pe : PO X e t
  ev : ∀ (W : Wd) (ρ : Env) (σ : St) (Hb H : Hp) (Q : Option Int → Hp → Prop) (post : Option Int → Env → Prop) (xp : XP), EnvOk X.K W P I ρ σ Hb H → F ρ post xp → XOk X Wx W P σ xp →
    (∀ o ρ' Hb' H', post o ρ' → EnvOk X.K W P J ρ' σ Hb' H' → Sub Hb Hb' → Q o H') → t σ H Q
def oNone : FO := fun ρ post _ => post none ρ
@[simp ↓] theorem oNone_ap (ρ : Env) (post : Option Int → Env → Prop) (z_2 : XP) : oNone  ρ post z_2 = (post none ρ) := (rfl)
def oSome (F : FE) : FO := fun ρ post xp => F ρ (fun d ρ1 => match d with
  | .int i => post (some i) ρ1
  | _ => False) xp
@[simp ↓] theorem oSome_ap (F : FE) (ρ : Env) (post : Option Int → Env → Prop) (xp : XP) : oSome F ρ post xp = (F ρ (fun d ρ1 => match d with
  | .int i => post (some i) ρ1
  | _ => False) xp) := (rfl)
def gCut (d : D) (lo hi : Option Int) (k : D → Prop) : Prop := match d with
  | .lst ds => k (.lst (cutL ds lo hi))
  | .slst ds => k (.lst (cutL ds lo hi))
  | .tup ds => k (.tup (cutL ds lo hi))
  | _ => False
def fCut (F : FE) (A B : FO) : FE := fun ρ post xp => F ρ (fun d ρ1 => A ρ1 (fun lo ρ2 => B ρ2 (fun hi ρ3 => gCut d lo hi fun z => post z ρ3) xp) xp) xp
@[simp ↓] theorem fCut_ap (F : FE) (A B : FO) (ρ : Env) (post : Post) (xp : XP) : fCut F A B ρ post xp = (F ρ (fun d ρ1 => A ρ1 (fun lo ρ2 => B ρ2 (fun hi ρ3 => gCut d lo hi fun z => post z ρ3) xp) xp) xp) := (rfl)
theorem cutL_whole {ds : List D} {lo hi : Option Int} (h : HT.sIx ds.length 0 lo = 0 ∧ HT.sIx ds.length ds.length hi = ds.length) : cutL ds lo hi = ds := by
  unfold cutL
  rw [h.1, h.2]
  simp
section
variable {X : Cx} {Wx : WX} {P L I J J1 J2 : List Nat} {e a b c o k : Expr} {eo : Option Expr} {es : List Expr} {F G : FE} {A B : FO} {pos p2 : Pos} {ta : TE} {tl th : TO}
theorem do_none : DOp X Wx P I none tNoPart oNone I := ⟨po_none, fun W ρ σ Hb H Q post xp E f _ q => q _ _ _ _ f E (Sub.refl _)⟩
theorem do_some (h : DE X Wx P I e ta F J) : DOp X Wx P I (some e) (tPart ta) (oSome F) J := by
  obtain ⟨p, k⟩ := h
  refine ⟨po_some p, fun W ρ σ Hb H Q post xp E f x q => k W ρ σ Hb H _ _ xp E f x fun d ρ1 v Hb1 H1 f1 E1 s1 i1 => ?_⟩
  cases d <;> first | exact f1.elim | skip
  exact ⟨_, is_int i1, q _ _ _ _ f1 E1 s1⟩
theorem cut_core {lo hi : Option Expr} (h : DE X Wx P I e ta F J1) (ha : DOp X Wx P J1 lo tl A J2) (hb : DOp X Wx P J2 hi th B J) : ∀ (W : Wd) (ρ : Env) (σ : St) (Hb H : Hp) (Q : VK) (post : D → Option Int → Option Int → Env → Prop) (xp : XP), EnvOk X.K W P I ρ σ Hb H →
    F ρ (fun d ρ1 => A ρ1 (fun lo ρ2 => B ρ2 (fun hi ρ3 => post d lo hi ρ3) xp) xp) xp → XOk X Wx W P σ xp →
    ∀ r : V → Option Int → Option Int → Hp → VK → Prop, (∀ d lo hi ρ' v Hb' H', post d lo hi ρ' → EnvOk X.K W P J ρ' σ Hb' H' → Sub Hb Hb' → Is X.K Hb' v d → r v lo hi H' Q) → tSl r ta tl th σ H Q := by
  obtain ⟨p1, k1⟩ := h
  obtain ⟨p2, k2⟩ := ha
  obtain ⟨p3, k3⟩ := hb
  exact fun W ρ σ Hb H Q post xp E f x r q => k1 W ρ σ Hb H _ _ xp E f x fun d ρ1 v Hb1 H1 f1 E1 s1 i1 => k2 W ρ1 σ Hb1 H1 _ _ xp E1 f1 x fun lo ρ2 Hb2 H2 f2 E2 s2 =>
    k3 W ρ2 σ Hb2 H2 _ _ xp E2 f2 x fun hi ρ3 Hb3 H3 f3 E3 s3 => q _ _ _ _ _ _ _ f3 E3 ((s1.trans s2).trans s3) ((i1.mono s2).mono s3)
theorem de_cut {lo hi : Option Expr} (h : DE X Wx P I e ta F J1) (ha : DOp X Wx P J1 lo tl A J2) (hb : DOp X Wx P J2 hi th B J) : DE X Wx P I (.Subscript e (.Slice lo hi none p2) pos) (tSl (fun x lo hi H Q => rSlL X.K x lo hi H Q ∨ rSlA X.K x lo hi H Q) ta tl th) (fCut F A B) J := by
  have kk := cut_core h ha hb
  refine de_of (pe_slice (SlR.or sl_list sl_tupA) h.pe ha.pe hb.pe) fun W ρ σ Hb H Q post xp E f x q => kk W ρ σ Hb H Q _ xp E f x _ fun d lo hi ρ' v Hb' H' f1 E1 s1 i1 => ?_
  unfold gCut at f1
  split at f1
  · obtain ⟨a, vs, rfl, hs, l⟩ := is_lstD i1 rfl
    exact .inl ⟨a, vs, rfl, E1.sub.sqL hs, fun p hp => q _ _ _ _ _ f1 (E1.alloc hp) (s1.trans (Sub.new (E1.sub.none hp))) (.lst upd_same ((cut_is l lo hi).mono (Sub.new (E1.sub.none hp))))⟩
  · obtain ⟨a, vs, rfl, hs, l⟩ := is_lstD i1 rfl
    exact .inl ⟨a, vs, rfl, E1.sub.sqL hs, fun p hp => q _ _ _ _ _ f1 (E1.alloc hp) (s1.trans (Sub.new (E1.sub.none hp))) (.lst upd_same ((cut_is l lo hi).mono (Sub.new (E1.sub.none hp))))⟩
  · obtain ⟨a, vs, rfl, hs, l⟩ := is_tupD i1 rfl
    refine .inr ⟨a, vs, rfl, E1.sub.sqT hs, fun hw => ?_, fun hw p hp => ?_⟩
    · rw [l.length] at hw
      rw [cutL_whole hw] at f1
      exact q _ _ _ _ _ f1 E1 s1 i1
    · exact q _ _ _ _ _ f1 (E1.alloc hp) (s1.trans (Sub.new (E1.sub.none hp))) (.tup upd_same ((cut_is l lo hi).mono (Sub.new (E1.sub.none hp))))
  · exact f1.elim
end
end DL

/-! DL7: list comprehensions over data. -/
namespace DL
open PySem L2
open PyProof.Rows hiding St

@[simp] def wipeE (ρ : Env) : List Nat → Env
  | [] => ρ
  | v :: vs => put (wipeE ρ vs) v none
/-- the slots vs as they were in ρ -/
@[simp] def unwipe (ρ ρ' : Env) : List Nat → Env
  | [] => ρ'
  | v :: vs => put (unwipe ρ ρ' vs) v (get ρ v)
theorem wipeE_len (ρ : Env) : ∀ vs, (wipeE ρ vs).length = ρ.length
  | [] => rfl
  | v :: vs => (put_length _ _ _).trans (wipeE_len ρ vs)
theorem unwipe_len (ρ ρ' : Env) : ∀ vs, (unwipe ρ ρ' vs).length = ρ'.length
  | [] => rfl
  | v :: vs => (put_length _ _ _).trans (unwipe_len ρ ρ' vs)
theorem get_wipe {ρ : Env} {i : Nat} {d : D} : ∀ {vs : List Nat}, get (wipeE ρ vs) i = some d → get ρ i = some d ∧ i ∉ vs
  | [], h => ⟨h, by simp⟩
  | v :: vs, h => by
    rcases get_put (show get (put (wipeE ρ vs) v none) i = some d from h) with ⟨_, q⟩ | ⟨n, q⟩
    · cases q
    · obtain ⟨a, b⟩ := get_wipe q
      exact ⟨a, by simp only [List.mem_cons, not_or]; exact ⟨n, b⟩⟩
theorem get_unwipe {ρ ρ' : Env} {i : Nat} {d : D} : ∀ {vs : List Nat}, get (unwipe ρ ρ' vs) i = some d → (i ∈ vs ∧ get ρ i = some d) ∨ (i ∉ vs ∧ get ρ' i = some d)
  | [], h => .inr ⟨by simp, h⟩
  | v :: vs, h => by
    rcases get_put (show get (put (unwipe ρ ρ' vs) v (get ρ v)) i = some d from h) with ⟨e, q⟩ | ⟨n, q⟩
    · subst e; exact .inl ⟨List.mem_cons_self, q⟩
    · rcases get_unwipe q with ⟨a, b⟩ | ⟨a, b⟩
      · exact .inl ⟨List.mem_cons_of_mem _ a, b⟩
      · exact .inr ⟨by simp only [List.mem_cons, not_or]; exact ⟨n, a⟩, b⟩
theorem wipe_get {σ : St} {i : Nat} : ∀ {vs : List Nat}, i ∉ vs → (wipe σ vs)[i]? = σ[i]?
  | [], _ => rfl
  | v :: vs, h => by
    simp only [List.mem_cons, not_or] at h
    unfold wipe
    rw [List.getElem?_set_ne (Ne.symm h.1)]
    exact wipe_get h.2
theorem wipe_in {σ : St} {i : Nat} : ∀ {vs : List Nat}, i ∈ vs → i < σ.length → (wipe σ vs)[i]? = some none
  | [], h, _ => by cases h
  | v :: vs, h, hl => by
    unfold wipe
    by_cases e : v = i
    · subst e
      rw [List.getElem?_set_self (by rw [wipe_length]; exact hl)]
    · rw [List.getElem?_set_ne e]
      exact wipe_in ((List.mem_cons.mp h).resolve_left (Ne.symm e)) hl
theorem wipe_ext {σ σ' : St} {vs : List Nat} (hl : σ'.length = σ.length) (h : ∀ i, i ∉ vs → σ'[i]? = σ[i]?) : wipe σ' vs = wipe σ vs := by
  apply List.ext_getElem?
  intro i
  by_cases hi : i ∈ vs
  · by_cases hb : i < σ.length
    · rw [wipe_in hi hb, wipe_in hi (by rw [hl]; exact hb)]
    · rw [List.getElem?_eq_none (by rw [wipe_length]; omega), List.getElem?_eq_none (by rw [wipe_length]; omega)]
  · rw [wipe_get hi, wipe_get hi, h i hi]
section
variable {K : PySem.W.Frag} {W : Wd} {P I : List Nat} {ρ : Env} {σ : St} {Hb H : Hp} {vs : List Nat}
theorem EnvOk.wiped (E : EnvOk K W P I ρ σ Hb H) (hP : ∀ v ∈ vs, v ∉ P ∧ v ∉ I) : EnvOk K W P I (wipeE ρ vs) (wipe σ vs) Hb H where
  tab := E.tab
  sub := E.sub
  stp := E.stp
  len := by rw [wipe_length, wipeE_len]; exact E.len
  val := fun i d g nP nI => by
    obtain ⟨g, h⟩ := get_wipe g
    obtain ⟨v, e, is⟩ := E.val i d g nP nI
    exact ⟨v, by rw [wipe_get h]; exact e, is⟩
  celF := fun i d hi g => by
    obtain ⟨g, h⟩ := get_wipe g
    obtain ⟨p, e, r⟩ := E.celF i d hi g
    exact ⟨p, by rw [wipe_get h]; exact e, r⟩
  sepF := fun i j p q di dj a hi hj gi gj ei ej => by
    obtain ⟨a1, b1⟩ := get_wipe gi
    obtain ⟨a2, b2⟩ := get_wipe gj
    rw [wipe_get b1] at ei
    rw [wipe_get b2] at ej
    exact E.sepF i j p q di dj a hi hj a1 a2 ei ej
/-- out of the block: its own names as they were -/
theorem EnvOk.unwiped {W' : Wd} {ρ' : Env} {σ' : St} {Hb' H' : Hp} (E : EnvOk K W P I ρ σ Hb H) (E' : EnvOk K W' P I ρ' σ' Hb' H') (s : Sub Hb Hb') (o : σ'.length = σ.length ∧ ∀ i, i ∉ vs → σ'[i]? = σ[i]?) (hP : ∀ v ∈ vs, v ∉ P ∧ v ∉ I) :
    EnvOk K W' P I (unwipe ρ ρ' vs) σ Hb' H' where
  tab := E'.tab
  sub := E'.sub
  stp := E'.stp
  len := by rw [unwipe_len, ← E'.len, o.1]
  val := fun i d g nP nI => by
    rcases get_unwipe g with ⟨a, b⟩ | ⟨a, b⟩
    · obtain ⟨v, e, is⟩ := E.val i d b nP nI
      exact ⟨v, e, is.mono s⟩
    · obtain ⟨v, e, is⟩ := E'.val i d b nP nI
      exact ⟨v, by rw [← o.2 i a]; exact e, is⟩
  celF := fun i d hi g => by
    rcases get_unwipe g with ⟨a, b⟩ | ⟨a, b⟩
    · exact absurd hi (fun q => q.elim (hP i a).1 (hP i a).2)
    · obtain ⟨p, e, r⟩ := E'.celF i d hi b
      exact ⟨p, by rw [← o.2 i a]; exact e, r⟩
  sepF := fun i j p q di dj a hi hj gi gj ei ej => by
    have back : ∀ {k : Nat} {d : D}, (k ∈ P ∨ k ∈ I) → get (unwipe ρ ρ' vs) k = some d → get ρ' k = some d ∧ k ∉ vs := fun {k d} hk g => by
      rcases get_unwipe g with ⟨a, b⟩ | ⟨a, b⟩
      · exact absurd hk (fun q => q.elim (hP k a).1 (hP k a).2)
      · exact ⟨b, a⟩
    obtain ⟨a1, b1⟩ := back hi gi
    obtain ⟨a2, b2⟩ := back hj gj
    exact E'.sepF i j p q di dj a hi hj a1 a2 (by rw [o.2 i b1]; exact ei) (by rw [o.2 j b2]; exact ej)
/-- an object that nothing here knows is written -/
theorem EnvOk.pokeF {p : Addr} {o : HO} (E : EnvOk K W P I ρ σ Hb H) (nb : Hb p = none) (wn : W.H p = none) (np : ∀ ts, H p ≠ some (.tbl ts)) (un : ∀ i di q, (i ∈ P ∨ i ∈ I) → get ρ i = some di → σ[i]? = some (some (.ref q)) → ¬ foot H q di p) : EnvOk K W P I ρ σ Hb (upd H p o) := by
  have ne : ∀ i d q a, (i ∈ P ∨ i ∈ I) → get ρ i = some d → σ[i]? = some (some (.ref q)) → foot H q d a → a ≠ p := fun i d q a hi g e ha z => by
    subst z; exact un i d q hi g e ha
  obtain ⟨k1, k2⟩ := E.cells (H' := upd H p o) (W' := W) (Sub.refl Hb) (fun i d q a u hi g e ha hu => ⟨by rw [upd_ne (ne i d q a hi g e ha)]; exact hu, by
    obtain ⟨q', e', _, _, f⟩ := E.celF i d hi g
    rw [e] at e'; cases e'
    exact (f a ha).1⟩) (fun _ _ _ _ _ _ _ _ => ⟨id, id⟩) (fun _ _ _ _ _ _ _ _ => id)
  refine ⟨fun a x ea => ?_, ⟨E.stp.hb, fun a x ea n ntb => ?_, E.stp.fs, fun a ea => ?_, fun a vs ea => ?_⟩, E.len, E.val, k1, k2, E.tab.keep (Sub.refl _) (fun a ps e => ?_) fun _ _ _ h => h⟩
  · have ha : a ≠ p := fun z => by subst z; rw [nb] at ea; cases ea
    rw [upd_ne ha]; exact E.sub a x ea
  · have ha : a ≠ p := fun z => by subst z; rw [wn] at ea; cases ea
    rw [upd_ne ha]; exact E.stp.fr a x ea n ntb
  · by_cases ha : a = p
    · subst ha; rw [upd_same] at ea; cases ea
    · rw [upd_ne ha] at ea; exact E.stp.al a ea
  · by_cases ha : a = p
    · subst ha; exact .inl wn
    · rw [upd_ne ha] at ea; exact E.stp.tp a vs ea
  · rw [upd_ne (fun z => by subst z; exact np _ e)]; exact e
theorem NewAt.grow {p : Addr} {d : D} {Hb' H' : Hp} (E : EnvOk K W P I ρ σ Hb H) (n : NewAt K W P I ρ σ Hb H p d) (g : Grow Hb H Hb' H') : NewAt K W P I ρ σ Hb' H' p d := by
  induction g with
  | refl => exact n
  | @step Hb1 H1 r o g h no ih =>
    have E1 := (g.env E).1
    have hne : ∀ a, foot H1 p d a → a ≠ r := fun a ha z => by
      subst z
      obtain ⟨o, ho, _⟩ := ih.cell.footS ha
      rw [h] at ho; cases ho
    have rt : ∀ a, foot (upd H1 r o) p d a → foot H1 p d a := fun a ha => foot.cong (by rw [upd_ne (hne p foot.root)]) ha
    refine ⟨ih.cell.mono (Sub.new (E1.sub.none h)) fun a o ha eo => by rw [upd_ne (hne a ha)]; exact eo, fun a ha => ⟨by rw [upd_ne (hne a (rt a ha))]; exact (ih.nbF a (rt a ha)).1, (ih.nbF a (rt a ha)).2⟩, fun i di q a hi g e ha fa => ?_⟩
    have hq : q ≠ r := fun z => by
      subst z
      obtain ⟨o, ho⟩ := E1.noneF hi g e foot.root
      rw [h] at ho; cases ho
    exact ih.unF i di q a hi g e (rt a ha) (foot.cong (by rw [upd_ne hq]) fa)
  | @know Hb1 H1 r vs g h ih =>
    have hne : ∀ a, foot H1 p d a → a ≠ r := fun a ha z => by
      subst z
      obtain ⟨o, ho, nt⟩ := ih.cell.footS ha
      rw [h] at ho; cases ho
      exact nt _ rfl
    exact ⟨ih.cell.mono ((g.env E).1.know h).2 fun a o ha eo => eo, fun a ha => ⟨by rw [upd_ne (hne a ha)]; exact (ih.nbF a ha).1, (ih.nbF a ha).2⟩, ih.unF⟩
/-- a new cell, over a stretch in which it was not known -/
theorem NewAt.over {p : Addr} {d : D} {ρ' : Env} {Hb' H' : Hp} (n : NewAt K W P I ρ σ Hb H p d) (E8 : EnvOk K (here P I ρ σ Hb H) (P ++ I) [] ρ' σ Hb' H') : NewAt K W P I ρ' σ Hb' H' p d := by
  have kp : ∀ a, foot H p d a → ∃ o, H a = some o ∧ H' a = some o ∧ Hb' a = none := fun a ha => by
    obtain ⟨o, ho, nt⟩ := n.cell.footS ha
    have no : ∀ i, ¬ (here P I ρ σ Hb H).ps i a := fun i ⟨hi, di, q, g, e, fa⟩ => n.unF i di q a hi g e ha fa
    exact ⟨o, ho, E8.stp.own (n.nbF a ha).1 ho (n.cell.nts ha ho) no, E8.stp.nb (n.nbF a ha).1 ho nt⟩
  have rt : H' p = H p := by
    obtain ⟨o, e1, e2, _⟩ := kp p foot.root
    rw [e1, e2]
  refine ⟨n.cell.mono E8.stp.hb fun a o ha eo => ?_, fun a ha => ?_, fun i di q a hi g e ha fa => ?_⟩
  · obtain ⟨o', e1, e2, _⟩ := kp a ha
    rw [eo] at e1; cases e1; exact e2
  · have ha := foot.cong rt ha
    obtain ⟨_, _, _, nb⟩ := kp a ha
    exact ⟨nb, (n.nbF a ha).2⟩
  · have ha := foot.cong rt ha
    obtain ⟨q', e', _, _, f⟩ := E8.celF i di (.inl (List.mem_append.mpr hi)) g
    rw [e] at e'; cases e'
    rcases (f a fa).2.1 (List.mem_append.mpr hi) with ⟨hi', d1, q1, g1, e1, f1⟩ | r
    · exact n.unF i d1 q1 a hi' g1 e1 ha f1
    · obtain ⟨o, e1, _⟩ := kp a ha
      have r : H a = none := r
      rw [e1] at r; cases r
/-- a new cell is written -/
theorem NewAt.write {p : Addr} {d d' : D} {o : HO} (E : EnvOk K W P I ρ σ Hb H) (n : NewAt K W P I ρ σ Hb H p d) (c : Cell K Hb (upd H p o) p d') (fl : partsOf d' = [] := by rfl) :
    EnvOk K W P I ρ σ Hb (upd H p o) ∧ NewAt K W P I ρ σ Hb (upd H p o) p d' := by
  refine ⟨E.pokeF n.nb n.wn (fun ts z => n.cell.nts foot.root z ts rfl) fun i di q hi g e ft => n.unF i di q p hi g e foot.root ft, c, fun a ha => ?_, fun i di q a hi g e ha fa => ?_⟩
  · have := flat_foot fl ha
    subst this
    exact ⟨n.nb, n.wn⟩
  · have := flat_foot fl ha
    subst this
    have nq : q ≠ a := fun z => by subst z; exact n.unF i di q q hi g e foot.root foot.root
    exact n.unF i di q a hi g e foot.root (foot.cong (by rw [upd_ne nq]) fa)
end

/-- no exception leaves a comprehension -/
def noX : XP := fun _ _ => False
abbrev WN : WX := fun _ _ _ _ => False
/-- the comprehension's turns -/
def compL (vs : List Nat) (g : FG) (T : FT) (E : FE) (post : Post) : List D → List D → Env → Prop
  | [], acc, ρ => post (.lst acc) ρ
  | d :: ds, acc, ρ => g d (wipeE ρ vs) fun ρ1 => T ρ1 (fun b ρ2 => if b = true then E ρ2 (fun y ρ3 => acc.length < 1000000 ∧ compL vs g T E post ds (acc ++ [y]) (unwipe ρ ρ3 vs)) noX else compL vs g T E post ds acc (unwipe ρ ρ2 vs)) noX
def compK (vs : List Nat) (g : FG) (T : FT) (E : FE) (post : Post) (_ : Lock post noX) (ds acc : List D) (ρ : Env) : Prop := compL vs g T E post ds acc ρ
def fLc (A : FA) (vs : List Nat) (g : FG) (T : FT) (E : FE) : FE := fun ρ post xp => A ρ (fun ds ρ1 => compK vs g T E post .mk ds [] ρ1) xp
@[simp ↓] theorem fLc_ap (A : FA) (vs : List Nat) (g : FG) (T : FT) (E : FE) (ρ : Env) (post : Post) (xp : XP) : fLc A vs g T E ρ post xp = (A ρ (fun ds ρ1 => compK vs g T E post .mk ds [] ρ1) xp) := (rfl)
def tYesD : FT := fun ρ post _ => post true ρ
@[simp ↓] theorem tYesD_ap (ρ : Env) (post : Bool → Env → Prop) (z_2 : XP) : tYesD  ρ post z_2 = (post true ρ) := (rfl)
structure DTs (X : Cx) (Wx : WX) (P I : List Nat) (ifs : List Expr) (t : TT) (F : FT) (J : List Nat) : Prop where
  pe : PTs X ifs t
  ev : ∀ (W : Wd) (ρ : Env) (σ : St) (Hb H : Hp) (Q : Bool → Hp → Prop) (post : Bool → Env → Prop) (xp : XP), EnvOk X.K W P I ρ σ Hb H → F ρ post xp → XOk X Wx W P σ xp →
    (∀ b ρ' Hb' H', post b ρ' → EnvOk X.K W P J ρ' σ Hb' H' → Sub Hb Hb' → Q b H') → t σ H Q
theorem dts_nil {X : Cx} {Wx : WX} {P I : List Nat} : DTs X Wx P I [] tYes tYesD I := ⟨pts_nil, fun W ρ σ Hb H Q post xp E f _ q => q _ _ _ _ f E (Sub.refl _)⟩
theorem dts_one {X : Cx} {Wx : WX} {P I J : List Nat} {c : Expr} {t : TT} {F : FT} (h : DT X Wx P I c t F J) : DTs X Wx P I [c] t F J := ⟨pts_one h.pe, h.ev⟩
section
variable {X : Cx} {Wx : WX} {P L I J : List Nat} {elt tg iter : Expr} {ifs : List Expr} {scope : Scope} {own : List (Str × Nat)} {pos spos py : Pos} {wi : TI} {g : TG} {tt : TT} {te : TE} {A : FA} {gd : FG} {T : FT} {E : FE} {ts : List Nat}
theorem lc_ev (hi : DI X Wx P I tg iter wi A J) (hg : ∀ (s : Shared) (H : Hp) (C : Addr) (cl : List (Str × Addr)) (fp : List Addr), DG (X.blk s H scope (compEnvC scope cl C X.env) fp) (P ++ J) [] tg ts g gd)
    (ht : ∀ (s : Shared) (H : Hp) (C : Addr) (cl : List (Str × Addr)) (fp : List Addr), DTs (X.blk s H scope (compEnvC scope cl C X.env) fp) WN (P ++ J) [] ifs tt T [])
    (he : ∀ (s : Shared) (H : Hp) (C : Addr) (cl : List (Str × Addr)) (fp : List Addr), DE (X.blk s H scope (compEnvC scope cl C X.env) fp) WN (P ++ J) [] elt te E [])
    (hts : ∀ v ∈ ts, v ∈ own.map (·.2)) (hvs : ∀ v ∈ own.map (·.2), v ∉ P ∧ v ∉ J) :
    ∀ (W : Wd) (ρ : Env) (σ : St) (Hb H : Hp) (Q : VK) (post : Post) (xp : XP), EnvOk X.K W P I ρ σ Hb H → fLc A (own.map (·.2)) gd T E ρ post xp → XOk X Wx W P σ xp →
    (∀ d ρ' p Hb' H', post d ρ' → EnvOk X.K W P J ρ' σ Hb' H' → Sub Hb Hb' → NewAt X.K W P J ρ' σ Hb' H' p d → Q (.ref p) H') → tLc wi g tt te (own.map (·.2)) σ H Q := by
  intro W ρ σ Hb H Q post xp E0 f x q
  refine hi.ev W ρ σ Hb H _ _ xp E0 f x fun ds ρ1 Jt Hb1 H1 f1 E1 s1 it => ?_
  have f1 : compL (own.map (·.2)) gd T E post ds [] ρ1 := f1
  intro D hD
  let s0 : Shared := {}
  refine ⟨fun i m H' => m = ds.length - i ∧ i ≤ ds.length ∧ ∃ ρ' Hb' acc, EnvOk X.K W P J ρ' σ Hb' H' ∧ Sub Hb1 Hb' ∧ NewAt X.K W P J ρ' σ Hb' H' D (.lst acc) ∧ compL (own.map (·.2)) gd T E post (ds.drop i) acc ρ',
    ⟨_, rfl, Nat.zero_le _, ρ1, Hb1, [], E1.more hD, Sub.refl _, NewAt.mk' E1 hD ⟨[], upd_same, .nil⟩, f1⟩, ?_⟩
  rintro i m H2 ⟨rfl, hi, ρ2, Hb2, acc, E2, s2, n2, f2⟩
  obtain ⟨i1, i2⟩ := it i H2 Hb2 s2 E2.sub
  by_cases hlt : i < ds.length
  · rw [List.drop_eq_getElem_cons hlt] at f2
    unfold compL at f2
    obtain ⟨go, yl⟩ := i1 ds[i] (List.getElem?_eq_getElem hlt)
    refine .inr ⟨go, fun H' => ∃ ρ' Hb' acc, EnvOk X.K W P J ρ' σ Hb' H' ∧ Sub Hb1 Hb' ∧ NewAt X.K W P J ρ' σ Hb' H' D (.lst acc) ∧ compL (own.map (·.2)) gd T E post (ds.drop (i + 1)) acc ρ', fun H' h => ⟨ds.length - (i + 1), by omega, rfl, hlt, h⟩, fun y H3 yy => ?_⟩
    obtain ⟨Hb3, gr, is⟩ := yl y H3 yy
    obtain ⟨E3, s3⟩ := gr.env E2
    have n3 := n2.grow E2 gr
    have hP' : ∀ v ∈ own.map (·.2), v ∉ P ++ J ∧ v ∉ ([] : List Nat) := fun v hv => ⟨fun z => (List.mem_append.mp z).elim (hvs v hv).1 (hvs v hv).2, by simp⟩
    have EL := E3.lent
    have EW := EL.wiped hP'
    have xn : ∀ (Y : Cx) (σ' : St), XOk Y WN (here P J ρ2 σ Hb3 H3) (P ++ J) σ' noX := fun Y σ' c ρ' cls dx Hb' H' z => z.elim
    refine (hg s0 H3 0 [] []).ev (here P J ρ2 σ Hb3 H3) (wipeE ρ2 (own.map (·.2))) (wipe σ (own.map (·.2))) Hb3 H3 y _ _ _ EW is f2 fun ρ4 σ4 f4 E4 o4 => ?_
    have off : σ4.length = σ.length ∧ ∀ i, i ∉ own.map (·.2) → σ4[i]? = σ[i]? := ⟨by rw [o4.1, wipe_length], fun i hi => by rw [o4.2 i fun z => hi (hts i z), wipe_get hi]⟩
    refine ⟨wipe_ext off.1 off.2, (ht s0 H3 0 [] []).ev _ ρ4 σ4 Hb3 H3 _ _ noX E4 f4 (xn _ _) fun b ρ5 Hb5 H5 f5 E5 s5 => ?_⟩
    cases b with
    | true =>
      rw [if_pos rfl] at f5 ⊢
      refine (he s0 H3 0 [] []).ev _ ρ5 σ4 Hb5 H5 _ _ noX E5 f5 (xn _ _) fun z ρ6 v Hb6 H6 f6 E6 s6 i6 => ?_
      have E8 := EL.unwiped E6 (s5.trans s6) off hP'
      have E7 := E3.back E8
      have n7 := n3.over E8
      obtain ⟨vs, hv, lv⟩ := n7.cell
      obtain ⟨E9, n9⟩ := n7.write (o := .lst (vs ++ [v])) (d' := .lst (acc ++ [z])) E7 ⟨_, upd_same, lv.snoc i6⟩
      exact ⟨vs, hv, by rw [lv.length]; exact Nat.lt_of_lt_of_le f6.1 (by decide), _, Hb6, acc ++ [z], E9, ((s2.trans s3).trans s5).trans s6, n9, f6.2⟩
    | false =>
      rw [if_neg Bool.false_ne_true] at f5 ⊢
      have E8 := EL.unwiped E5 s5 off hP'
      exact ⟨_, Hb5, acc, E3.back E8, (s2.trans s3).trans s5, n3.over E8, f5⟩
  · have e : i = ds.length := by omega
    subst e
    rw [List.drop_length] at f2
    exact .inl ⟨i2 rfl, q _ _ _ _ _ f2 E2 (s1.trans s2) n2⟩
theorem dn_lc (own : List (Str × Nat)) (hc : X.calm = true) (hN : X.N.Nodup) (hi : DI X Wx P I tg iter wi A J) (ok : BlkOk X.N X.env.scope scope own)
    (hg : ∀ (s : Shared) (H : Hp) (C : Addr) (cl : List (Str × Addr)) (fp : List Addr), DG (X.blk s H scope (compEnvC scope cl C X.env) fp) (P ++ J) [] tg ts g gd)
    (ht : ∀ (s : Shared) (H : Hp) (C : Addr) (cl : List (Str × Addr)) (fp : List Addr), DTs (X.blk s H scope (compEnvC scope cl C X.env) fp) WN (P ++ J) [] ifs tt T [])
    (he : ∀ (s : Shared) (H : Hp) (C : Addr) (cl : List (Str × Addr)) (fp : List Addr), DE (X.blk s H scope (compEnvC scope cl C X.env) fp) WN (P ++ J) [] elt te E [])
    (hts : ∀ v ∈ ts, v ∈ own.map (·.2) := by decide) (hvs : ∀ v ∈ own.map (·.2), v ∉ P ∧ v ∉ J := by decide) (hs : ∀ x, foldedSetIterable iter X.env x = pure x := by intro _; rfl) :
    DNw X Wx P I (.ListComp elt [⟨tg, iter, ifs, 0⟩] scope pos) (tLc wi g tt te (own.map (·.2))) (fLc A (own.map (·.2)) gd T E) J :=
  ⟨pe_lc hc hN hi.pe ok (fun s H C cl fp => (hg s H C cl fp).pe) (fun s H C cl fp => (ht s H C cl fp).pe) (fun s H C cl fp => (he s H C cl fp).pe) hs, lc_ev hi hg ht he hts hvs⟩
/-- y = [..]: the list is never changed -/
theorem ds_setLc (i : Nat) {y : Str} (own : List (Str × Nat)) (hc : X.calm = true) (hN : X.N.Nodup) (hsw : swapsWith (.ListComp elt [⟨tg, iter, ifs, 0⟩] scope pos) (some (.Name y py)) spos.line X.env = pure true) (hi : DI X Wx P I tg iter wi A J) (ok : BlkOk X.N X.env.scope scope own)
    (hg : ∀ (s : Shared) (H : Hp) (C : Addr) (cl : List (Str × Addr)) (fp : List Addr), DG (X.blk s H scope (compEnvC scope cl C X.env) fp) (P ++ J) [] tg ts g gd)
    (ht : ∀ (s : Shared) (H : Hp) (C : Addr) (cl : List (Str × Addr)) (fp : List Addr), DTs (X.blk s H scope (compEnvC scope cl C X.env) fp) WN (P ++ J) [] ifs tt T [])
    (he : ∀ (s : Shared) (H : Hp) (C : Addr) (cl : List (Str × Addr)) (fp : List Addr), DE (X.blk s H scope (compEnvC scope cl C X.env) fp) WN (P ++ J) [] elt te E [])
    (hy : X.N[i]? = some y := by rfl) (hyl : X.env.scope.names.lookup y = some .local := by rfl) (hP : i ∉ P := by decide) (hI : i ∉ J := by decide)
    (hts : ∀ v ∈ ts, v ∈ own.map (·.2) := by decide) (hvs : ∀ v ∈ own.map (·.2), v ∉ P ∧ v ∉ J := by decide) (hs : ∀ x, foldedSetIterable iter X.env x = pure x := by intro _; rfl) :
    DS X Wx P L I (.Assign [.Name y py] (.ListComp elt [⟨tg, iter, ifs, 0⟩] scope pos) spos) (fSet i (fLc A (own.map (·.2)) gd T E)) J :=
  ⟨_, ps_setLc hc hN hy hyl hsw hi.pe ok (fun s H C cl fp => (hg s H C cl fp).pe) (fun s H C cl fp => (ht s H C cl fp).pe) (fun s H C cl fp => (he s H C cl fp).pe) hs,
    fun W ρ σ Hb H D S E f q => lc_ev hi hg ht he hts hvs W ρ σ Hb H _ _ _ E f (q.xok σ) fun d ρ1 p Hb1 H1 f1 E1 s1 n => by
      obtain ⟨Hb2, E2, s2, i2⟩ := E1.freeze n
      exact q.nx _ _ _ _ f1 (E2.set i2 hP hI) (s1.trans s2)⟩
end
end DL

/-! DL8: a def by its body, over data; the law's end. -/
namespace DL
open PySem L2
open PyProof.Rows hiding St

/-- the lent parameters as they stand at the end -/
def maskF (io : List Nat) : Nat → Nat → Env → Env
  | _, 0, _ => []
  | i, n + 1, ρ => (if i ∈ io then get ρ i else none) :: maskF io (i + 1) n ρ
theorem maskF_len (io : List Nat) : ∀ (n i : Nat) (ρ : Env), (maskF io i n ρ).length = n
  | 0, _, _ => rfl
  | n + 1, i, ρ => congrArg (· + 1) (maskF_len io n (i + 1) ρ)
theorem get_mask (io : List Nat) : ∀ (n i j : Nat) (ρ : Env), j < n → get (maskF io i n ρ) j = if i + j ∈ io then get ρ (i + j) else none
  | 0, _, _, _, h => by omega
  | n + 1, i, 0, ρ, h => rfl
  | n + 1, i, j + 1, ρ, h => by
    have e : i + (j + 1) = i + 1 + j := by omega
    rw [e]
    exact get_mask io n (i + 1) j ρ (by omega)
theorem get_mask_some {io : List Nat} {n j : Nat} {ρ : Env} {d : D} (h : get (maskF io 0 n ρ) j = some d) : j ∈ io ∧ get ρ j = some d ∧ j < n := by
  have hl := get_lt h
  rw [maskF_len] at hl
  rw [get_mask io n 0 j ρ hl, Nat.zero_add] at h
  split at h
  · exact ⟨by assumption, h, hl⟩
  · cases h
section
variable {K : PySem.W.Frag} {io J : List Nat} {ρ ρ' : Env} {σ' : St} {Hb H Hb' H' : Hp} {vs : List V} {n m : Nat}
theorem EnvOk.masked {ρ0 : Env} (E : EnvOk K ⟨Hb, H, lentAt io vs ρ0 H, rootAt io vs⟩ io J ρ' σ' Hb' H') (hn : vs.length = n) : EnvOk K ⟨Hb, H, lentAt io vs ρ0 H, rootAt io vs⟩ io [] (maskF io 0 n ρ') (vs.map some) Hb' H' where
  tab := E.tab
  sub := E.sub
  stp := E.stp
  len := by rw [maskF_len, List.length_map, hn]
  val := fun i d g nP _ => absurd (get_mask_some g).1 nP
  celF := fun i d hi g => by
    obtain ⟨h1, h2, h3⟩ := get_mask_some g
    obtain ⟨p, e, c, hp, f⟩ := E.celF i d (.inl h1) h2
    obtain ⟨_, ev⟩ := hp h1
    exact ⟨p, by rw [List.getElem?_map, ev]; rfl, c, hp, fun a ha => ⟨(f a ha).1, (f a ha).2.1, fun q => by cases q⟩⟩
  sepF := fun i j p q di dj a hi hj gi gj ei ej fi fj => by
    have back : ∀ {k : Nat} {d : D} {r : Addr}, get (maskF io 0 n ρ') k = some d → (vs.map some)[k]? = some (some (V.ref r)) → k ∈ io ∧ get ρ' k = some d ∧ σ'[k]? = some (some (.ref r)) := fun {k d r} g e => by
      obtain ⟨h1, h2, h3⟩ := get_mask_some g
      obtain ⟨p', e', c, hp, _⟩ := E.celF k d (.inl h1) h2
      obtain ⟨_, ev⟩ := hp h1
      rw [List.getElem?_map, ev] at e
      cases e
      exact ⟨h1, h2, e'⟩
    obtain ⟨a1, a2, a3⟩ := back gi ei
    obtain ⟨b1, b2, b3⟩ := back gj ej
    exact E.sepF i j p q di dj a (.inl a1) (.inl b1) a2 b2 a3 b3 fi fj
theorem get_append_none : ∀ (ρ : Env) (m i : Nat) (d : D), get (ρ ++ List.replicate m none) i = some d → get ρ i = some d
  | [], 0, _, _, h => by simp [get] at h
  | [], m + 1, 0, _, h => by simp [get, List.replicate_succ] at h
  | [], m + 1, i + 1, d, h => get_append_none [] m i d (by simpa [List.replicate_succ, get] using h)
  | x :: r, m, 0, _, h => h
  | x :: r, m, i + 1, d, h => get_append_none r m i d h
theorem EnvOk.entry {ρ0 : Env} (E : EnvOk K ⟨Hb, H, lentAt io vs ρ0 H, rootAt io vs⟩ io [] ρ (vs.map some) Hb H) : EnvOk K ⟨Hb, H, lentAt io vs ρ0 H, rootAt io vs⟩ io [] (ρ ++ List.replicate m none) (vs.map some ++ List.replicate m none) Hb H where
  tab := E.tab
  sub := E.sub
  stp := E.stp
  len := by have := E.len; rw [List.length_append, List.length_append, this, List.length_replicate, List.length_replicate]
  val := fun i d g nP nI => by
    have g := get_append_none _ _ _ _ g
    obtain ⟨v, e, is⟩ := E.val i d g nP nI
    have hl := get_lt g
    exact ⟨v, by rw [List.getElem?_append_left (by rw [E.len]; exact hl)]; exact e, is⟩
  celF := fun i d hi g => by
    have g := get_append_none _ _ _ _ g
    obtain ⟨p, e, r⟩ := E.celF i d hi g
    have hl := get_lt g
    exact ⟨p, by rw [List.getElem?_append_left (by rw [E.len]; exact hl)]; exact e, r⟩
  sepF := fun i j p q di dj a hi hj gi gj ei ej => by
    have back : ∀ {k : Nat} {d : D} {r : Addr}, get (ρ ++ List.replicate m none) k = some d → (vs.map some ++ List.replicate m none)[k]? = some (some (V.ref r)) → get ρ k = some d ∧ (vs.map some)[k]? = some (some (V.ref r)) := fun {k d r} q e => by
      have q := get_append_none _ _ _ _ q
      have hl := get_lt q
      rw [List.getElem?_append_left (by rw [E.len]; exact hl)] at e
      exact ⟨q, e⟩
    obtain ⟨a1, a2⟩ := back gi ei
    obtain ⟨b1, b2⟩ := back gj ej
    exact E.sepF i j p q di dj a hi hj a1 b1 a2 b2
end
/-- how a body may end -/
def endS (io : List Nat) (n : Nat) (post : Post) (xp : XP) : SPo where
  nx := fun ρ' => post .non (maskF io 0 n ρ')
  rt := fun d ρ' => post d (maskF io 0 n ρ')
  bk := fun _ => False
  ct := fun _ => False
  ex := fun c ρ' => xp c (maskF io 0 n ρ')
abbrev WofE (E : XK) : WX := fun cls d _ H => E cls d H
section
variable {P : Program} {w : World} {K : PySem.W.Frag} {mg : Str → Option Value} {base : Heap}
end

/-! ### the law -/
def spLaw (K : PySem.W.Frag) : Sp := fun vs H Q _ => ∃ (a : Addr) (ns : List Int), vs = [.ref a] ∧ SqL K H a (ns.map V.int) ∧ ns.length ≤ 63 ∧ TabsAt K H ∧ ∀ H', Q (.bl true) H'
theorem isL_ints {K : PySem.W.Frag} {H : Hp} : ∀ ns : List Int, IsL K H (ns.map V.int) (ns.map D.int)
  | [] => .nil
  | n :: r => .cons (.int n) (isL_ints r)
section
variable {P : Program} {w : World} {K : PySem.W.Frag} {mg : Str → Option Value} {base : Heap}
theorem ok_law {k : Nat} {f : Addr} {fd : FuncData} {ps : List Str} {G : DFn} (F : FnOk P w K mg base (L2.CX P w) k f fd ps (spD K 1 [] G))
    (h : ∀ ns : List Int, ns.length ≤ 63 → G [some (.slst (ns.map D.int))] (fun d _ => d = .bl true) fun _ _ => False) : FnOk P w K mg base (L2.CX P w) k f fd ps (spLaw K) :=
  F.imp fun vs H Q E ⟨a, ns, e, hs, hl, ht, q⟩ => by
    subst e
    refine ⟨rfl, [some (.slst (ns.map D.int))], noTab H, _, _, ⟨noTab_sub _, Stp.refl _ _ _ _, rfl, fun i d g _ _ => ?_, fun i d hi _ => ?_, fun i j p q di dj a hi => ?_, ht.ok⟩, h ns hl, fun d ρ' v Hb' H' e _ is => ?_, fun _ _ _ _ _ _ z => z.elim⟩
    · match i, g with
      | 0, g =>
        cases g
        exact ⟨_, rfl, .slst (noTab_sqL hs) (isL_ints ns)⟩
      | i + 1, g => simp [get] at g
    · rcases hi with hi | hi <;> cases hi
    · rcases hi with hi | hi <;> cases hi
    · subst e
      rw [is_bl is]
      exact q _
end
end DL

/-! DL9: isinstance, repr of flat values, chains, dict displays, stores into own lists. -/
namespace DL
open PySem L2
open PyProof.Rows hiding St

/-! ### isinstance with a built-in class -/
def tyD : D → Option String
  | .non => some "NoneType"
  | .bl _ => some "bool"
  | .int _ => some "int"
  | .str _ => some "str"
  | .tup _ => some "tuple"
  | .ktp _ => some "tuple"
  | .lst _ => some "list"
  | .slst _ => some "list"
  | .dk _ => some "dict"
  | _ => none
inductive Kd where
  | int | bool | str | tuple | list | dict
@[simp] def Kd.name : Kd → String
  | .int => "int"
  | .bool => "bool"
  | .str => "str"
  | .tuple => "tuple"
  | .list => "list"
  | .dict => "dict"
@[simp] def isK : Kd → D → Option Bool
  | .int, .bl _ => some true
  | .int, .int _ => some true
  | .bool, .bl _ => some true
  | .str, .str _ => some true
  | .tuple, .tup _ => some true
  | .tuple, .ktp _ => some true
  | .list, .lst _ => some true
  | .list, .slst _ => some true
  | .dict, .dk _ => some true
  | _, .ty _ => none
  | _, .fn _ => none
  | _, .cl _ => none
  | _, .xc _ _ => none
  | _, .lam _ _ => none
  | _, .obj _ _ => none
  | _, .dt _ => none
  | _, .nest _ _ _ => none
  | _, .nestL _ _ _ _ => none
  | _, .nobj _ _ _ => none
  | _, _ => some false
theorem isK_kit {K : PySem.W.Frag} (c : Kd) {d : D} {b : Bool} (h : isK c d = some b) : ∃ T, tyD d = some T ∧ PySem.W.kitOne K (.type T) (.type c.name) = some b := by
  cases c <;> cases d <;> simp only [isK] at h <;> first | (cases h; done) | (cases h; exact ⟨_, rfl, kit_ty (by decide +kernel)⟩)
theorem o_tyx {K : PySem.W.Frag} {Hb H : Hp} {v : V} {d : D} {T : String} (s : Sub Hb H) (h : IsO K Hb H v d) (e : tyD d = some T) : TyX K H v (.type T) := by
  have q := h.is s
  clear h s
  cases q with
  | non => cases e; exact .base .non
  | bl b => cases e; exact .base (.bl _)
  | int i => cases e; exact .base (.int _)
  | str z => cases e; exact .base (.str _)
  | ty n => cases e
  | fn n => cases e
  | cl n => cases e
  | xc0 _ _ => cases e
  | xcd _ _ _ _ _ => cases e
  | lam _ _ => cases e
  | tup h l => cases e; exact .base (.tup h)
  | lst h l => cases e; exact .base (.lst h)
  | ktp h l =>
    cases e
    rcases h.sq with (h | ⟨o, h⟩) | ⟨o, its, n, h1, h2, _⟩
    · exact .base (.tup h)
    · exact .fTuple h
    · exact .kTuple h1 h2
  | slst h l =>
    cases e
    rcases h with (h | ⟨o, h⟩) | ⟨o, its, n, h1, h2, _⟩
    · exact .base (.lst h)
    · exact .base (.frz h)
    · exact .kList h1 h2
  | dk h e2 l =>
    cases e
    rcases h with h | ⟨o, h⟩
    · exact .base (.dK h)
    · exact .fDict h
  | dt h e2 l => cases e
  | obj c h e2 l => cases e
  | nest h e2 l => cases e
  | nestL h e2 l => cases e
  | nobj c h e2 l => cases e
def gIsi (c : Kd) : GN
  | [d, .ty n], k => n = c.name ∧ ∃ b, isK c d = some b ∧ k (.bl b)
  | _, _ => False
theorem rv_isi {K : PySem.W.Frag} (c : Kd) : RVN K (rIsi K) (gIsi c) := fun Hb H xs ds k Q s l g q => by
  unfold gIsi at g
  split at g
  · obtain ⟨e, b, h, g⟩ := g
    subst e
    obtain ⟨v, w, rfl, i, j⟩ := o_two l
    obtain rfl := o_ty j
    obtain ⟨T, h1, h2⟩ := isK_kit (K := K) c h
    exact ⟨_, _, _, _, b, rfl, .ty _, o_tyx s i h1, h2, q _ _ _ _ g .refl (.bl _)⟩
  · exact g.elim

/-! ### repr of flat values -/
section
variable {X : Cx}
@[simp] def flatText : D → Option Str
  | .non => some "None"
  | .bl b => some (if b then "True" else "False")
  | .int i => if i.natAbs.log2 < 1920 then some (toString i : String) else none
  | _ => none
end

/-! ### a op b op' c -/
section
variable {X : Cx} {Wx : WX} {P L I J J1 J2 : List Nat} {e a b c o k : Expr} {es : List Expr} {F G M : FE} {A : FA} {pos pos' p2 : Pos} {ta tb tc : TE}
def fChain (g g' : G2) (F G M : FE) : FE := fun ρ post xp => F ρ (fun x ρ1 => G ρ1 (fun y ρ2 => g x y fun z => gB z fun t => if t = true then M ρ2 (fun w ρ3 => g' y w fun z => post z ρ3) xp else post (.bl false) ρ2) xp) xp
@[simp ↓] theorem fChain_ap (g g' : G2) (F G M : FE) (ρ : Env) (post : Post) (xp : XP) : fChain g g' F G M ρ post xp = (F ρ (fun x ρ1 => G ρ1 (fun y ρ2 => g x y fun z => gB z fun t => if t = true then M ρ2 (fun w ρ3 => g' y w fun z => post z ρ3) xp else post (.bl false) ρ2) xp) xp) := (rfl)
theorem chain_core {r r' : R2} {g g' : G2} (hr : RV2 X.K r g) (hr' : RV2 X.K r' g') (ha : DE X Wx P I a ta F I) (hb : DE X Wx P I b tb G I) (hc : DE X Wx P I c tc M I) :
    ∀ (W : Wd) (ρ : Env) (σ : St) (Hb H : Hp) (Q : VK) (post : Post) (xp : XP), EnvOk X.K W P I ρ σ Hb H → fChain g g' F G M ρ post xp → XOk X Wx W P σ xp →
    (∀ d ρ' v Hb' H', post d ρ' → EnvOk X.K W P I ρ' σ Hb' H' → Sub Hb Hb' → Is X.K Hb' v d → Q v H') → tChain r r' ta tb tc σ H Q := by
  intro W ρ σ Hb H Q post xp E f x q
  refine ha.ev W ρ σ Hb H _ _ xp E f x fun d ρ1 v Hb1 H1 f1 E1 s1 i1 => ?_
  refine hb.ev W ρ1 σ Hb1 H1 _ _ xp E1 f1 x fun d2 ρ2 v2 Hb2 H2 f2 E2 s2 i2 => ?_
  refine hr Hb2 H2 v v2 d d2 _ _ E2.sub (.inl (i1.mono s2)) (.inl i2) f2 fun w dz Hb3 H3 kz gr iz => ?_
  obtain ⟨E3, s3⟩ := gr.env E2
  cases dz <;> first | exact kz.elim | skip
  rename_i t
  refine ⟨t, is_bl iz, ?_⟩
  cases t with
  | true =>
    have kz : M ρ2 (fun w ρ3 => g' d2 w fun z => post z ρ3) xp := by simpa [gB] using kz
    rw [if_pos rfl]
    refine hc.ev W ρ2 σ Hb3 H3 _ _ xp E3 kz x fun d4 ρ4 v4 Hb4 H4 f4 E4 s4 i4 => ?_
    refine hr' Hb4 H4 v2 v4 d2 d4 _ _ E4.sub (.inl ((i2.mono s3).mono s4)) (.inl i4) f4 fun w dz Hb5 H5 kz gr iz => ?_
    obtain ⟨E5, s5⟩ := gr.env E4
    exact q _ _ _ _ _ kz E5 ((((s1.trans s2).trans s3).trans s4).trans s5) iz
  | false =>
    have kz : post (.bl false) ρ2 := by simpa [gB] using kz
    rw [if_neg Bool.false_ne_true]
    exact q _ _ _ _ _ kz E3 ((s1.trans s2).trans s3) (.bl _)
theorem dt_chain {op op' : CmpOp} {r r' : R2} {g g' : G2} (ho : OpR X (compareOp op) r) (hr : RV2 X.K r g) (ho' : OpR X (compareOp op') r') (hr' : RV2 X.K r' g') (ha : DE X Wx P I a ta F I) (hb : DE X Wx P I b tb G I) (hc : DE X Wx P I c tc M I)
    (hm : lastMarks [op, op'] [b, c] = false := by with_unfolding_all rfl) : DT X Wx P I (.Compare a [op, op'] [b, c] pos) (tTest (tChain r r' ta tb tc)) (fTest (fChain g g' F G M)) I := by
  refine dt_of (pt_chain ho ho' ha.pe hb.pe hc.pe hm) fun W ρ σ Hb H Q post xp E f x q => chain_core hr hr' ha hb hc W ρ σ Hb H _ _ xp E f x fun d ρ1 v Hb1 H1 f1 E1 s1 i1 => ?_
  cases d <;> first | exact f1.elim | skip
  exact ⟨_, is_bl i1, q _ _ _ _ f1 E1 s1⟩

/-! ### dict displays: {}, {'k': v, ..} -/
@[simp] def dKey : D → Option Key
  | .int i => some (.inl i)
  | .str s => some (.inr s)
  | _ => none
structure DPs (X : Cx) (Wx : WX) (P I : List Nat) (pos : Pos) (keys : List (Option Expr)) (vals : List Expr) (t : List (TE × TE)) (F : Env → (List (Key × D) → Env → Prop) → XP → Prop) : Prop where
  pe : PPs X pos keys vals t
  ev : ∀ (W : Wd) (ρ : Env) (σ : St) (Hb H : Hp) (Q : List (V × V) → Hp → Prop) (post : List (Key × D) → Env → Prop) (xp : XP), EnvOk X.K W P I ρ σ Hb H → F ρ post xp → XOk X Wx W P σ xp →
    (∀ ds ρ' (vs : List (Key × V)) Hb' H', post ds ρ' → EnvOk X.K W P I ρ' σ Hb' H' → Sub Hb Hb' → ds.length = keys.length → vs.map (·.1) = ds.map (·.1) → IsL X.K Hb' (vs.map (·.2)) (ds.map (·.2)) → Q (vs.map fun kv => (kV kv.1, kv.2)) H') → tPairs t σ H Q
theorem dps_nil : DPs X Wx P I pos [] [] [] (fun ρ post _ => post [] ρ) := ⟨pps_nil, fun W ρ σ Hb H Q post xp E f _ q => q [] ρ [] Hb H f E (Sub.refl _) rfl rfl .nil⟩
theorem dps_cons {v : Expr} {ks : List (Option Expr)} {vs : List Expr} {trs : List (TE × TE)} {R : Env → (List (Key × D) → Env → Prop) → XP → Prop} (hk : DE X Wx P I k ta F I) (hv : DE X Wx P I v tb G I) (hr : DPs X Wx P I pos ks vs trs R) :
    DPs X Wx P I pos (some k :: ks) (v :: vs) ((ta, tb) :: trs) (fun ρ post xp => F ρ (fun kd ρ1 => G ρ1 (fun d ρ2 => ∃ key, dKey kd = some key ∧ R ρ2 (fun r ρ3 => post ((key, d) :: r) ρ3) xp) xp) xp) := by
  obtain ⟨p1, k1⟩ := hk
  obtain ⟨p2, k2⟩ := hv
  obtain ⟨p3, k3⟩ := hr
  refine ⟨pps_cons p1 p2 p3, fun W ρ σ Hb H Q post xp E f x q => k1 W ρ σ Hb H _ _ xp E f x fun kd ρ1 kv Hb1 H1 f1 E1 s1 i1 => k2 W ρ1 σ Hb1 H1 _ _ xp E1 f1 x fun d ρ2 v Hb2 H2 f2 E2 s2 i2 => ?_⟩
  obtain ⟨key, ek, f2⟩ := f2
  refine k3 W ρ2 σ Hb2 H2 _ _ xp E2 f2 x fun ds ρ3 us Hb3 H3 f3 E3 s3 z3 e3 l3 => ?_
  have ekv : kv = kV key := by
    cases kd <;> simp only [dKey] at ek <;> first | (cases ek; done) | cases ek
    · exact is_int i1
    · exact is_str i1
  subst ekv
  exact q ((key, d) :: ds) ρ3 ((key, v) :: us) Hb3 H3 f3 E3 ((s1.trans s2).trans s3) (congrArg (· + 1) z3) (by simp [e3]) (.cons (i2.mono s3) l3)
@[simp] def mergeD (kvs : List (Key × D)) : List (Key × D) := kvs.foldl (fun acc kv => putD acc kv.1 kv.2) []
def fDict (R : Env → (List (Key × D) → Env → Prop) → XP → Prop) : FE := fun ρ post xp => R ρ (fun kvs ρ1 => post (.dk (mergeD kvs)) ρ1) xp
@[simp ↓] theorem fDict_ap (R : Env → (List (Key × D) → Env → Prop) → XP → Prop) (ρ : Env) (post : Post) (xp : XP) : fDict R ρ post xp = (R ρ (fun kvs ρ1 => post (.dk (mergeD kvs)) ρ1) xp) := (rfl)
theorem any_keys {k : Key} : ∀ {vs : List (Key × V)} {ds : List (Key × D)}, vs.map (·.1) = ds.map (·.1) → (vs.any fun kv => decide (kv.1 = k)) = (ds.any fun kv => decide (kv.1 = k))
  | [], [], _ => rfl
  | v :: vs, d :: ds, e => by
    simp only [List.map_cons, List.cons.injEq] at e
    simp only [List.any_cons, e.1, any_keys e.2]
  | [], _ :: _, e => by simp at e
  | _ :: _, [], e => by simp at e
theorem putK_is {K : PySem.W.Frag} {H : Hp} {vs : List (Key × V)} {ds : List (Key × D)} {k : Key} {v : V} {d : D} (e : vs.map (·.1) = ds.map (·.1)) (l : IsL K H (vs.map (·.2)) (ds.map (·.2))) (i : Is K H v d) :
    (putK vs k v).map (·.1) = (putD ds k d).map (·.1) ∧ IsL K H ((putK vs k v).map (·.2)) ((putD ds k d).map (·.2)) := by
  unfold putK putD
  rw [any_keys e]
  split
  · have rec1 : ∀ {vs : List (Key × V)} {ds : List (Key × D)}, vs.map (·.1) = ds.map (·.1) → IsL K H (vs.map (·.2)) (ds.map (·.2)) →
        (vs.map fun kv => if kv.1 = k then (kv.1, v) else kv).map (·.1) = (ds.map fun kv => if kv.1 = k then (kv.1, d) else kv).map (·.1) ∧ IsL K H ((vs.map fun kv => if kv.1 = k then (kv.1, v) else kv).map (·.2)) ((ds.map fun kv => if kv.1 = k then (kv.1, d) else kv).map (·.2)) := by
      intro vs
      induction vs with
      | nil =>
        intro ds e l
        cases ds with
        | nil => exact ⟨rfl, .nil⟩
        | cons => simp at e
      | cons a vs ih =>
        intro ds e l
        cases ds with
        | nil => simp at e
        | cons b ds =>
          simp only [List.map_cons, List.cons.injEq] at e
          rw [List.map_cons, List.map_cons] at l
          cases l with
          | cons l1 l2 =>
            obtain ⟨r1, r2⟩ := ih e.2 l2
            rw [List.map_cons, List.map_cons, List.map_cons, List.map_cons, List.map_cons, List.map_cons, r1, e.1]
            by_cases hk : b.1 = k
            · rw [if_pos hk, if_pos hk]
              exact ⟨rfl, .cons i r2⟩
            · rw [if_neg hk, if_neg hk]
              exact ⟨by rw [e.1], .cons l1 r2⟩
    exact rec1 e l
  · simp only [List.map_append, List.map_cons, List.map_nil]
    exact ⟨by rw [e], l.snoc i⟩
theorem merge_is {K : PySem.W.Frag} {H : Hp} : ∀ {vs : List (Key × V)} {ds : List (Key × D)} {av : List (Key × V)} {ad : List (Key × D)}, vs.map (·.1) = ds.map (·.1) → IsL K H (vs.map (·.2)) (ds.map (·.2)) → av.map (·.1) = ad.map (·.1) → IsL K H (av.map (·.2)) (ad.map (·.2)) →
    (mergeK av vs).map (·.1) = (ds.foldl (fun acc kv => putD acc kv.1 kv.2) ad).map (·.1) ∧ IsL K H ((mergeK av vs).map (·.2)) ((ds.foldl (fun acc kv => putD acc kv.1 kv.2) ad).map (·.2))
  | [], [], _, _, _, _, e, l => ⟨e, l⟩
  | v :: vs, d :: ds, av, ad, e1, l1, e, l => by
    simp only [List.map_cons, List.cons.injEq] at e1
    rw [List.map_cons, List.map_cons] at l1
    cases l1 with
    | cons a l1 =>
      obtain ⟨p1, p2⟩ := putK_is (k := v.1) e l a
      have := merge_is e1.2 l1 p1 p2
      have em : mergeK av (v :: vs) = mergeK (putK av v.1 v.2) vs := rfl
      rw [em, List.foldl_cons, ← e1.1]
      exact this
  | [], _ :: _, _, _, e1, _, _, _ => by simp at e1
  | _ :: _, [], _, _, e1, _, _, _ => by simp at e1
/-- the world with one address more, that nobody lends -/
def Wd.plus (W : Wd) (p : Addr) (o : HO) : Wd := ⟨W.Hb, upd W.H p o, fun i a => W.ps i a ∧ a ≠ p, W.rt⟩
theorem EnvOk.over {K : PySem.W.Frag} {W : Wd} {P I : List Nat} {ρ : Env} {σ : St} {Hb H : Hp} {p : Addr} {o : HO} (E : EnvOk K W P I ρ σ Hb H) (hp : H p = none) : EnvOk K (W.plus p o) P I ρ σ Hb (upd H p o) := by
  have E1 := E.more (o := o) hp
  have nb := E.sub.none hp
  have wn := E.stp.al p hp
  obtain ⟨k1, k2⟩ := E.cells (H' := upd H p o) (W' := W.plus p o) (Sub.refl Hb) (fun i d q a u hi g e ha hu => ⟨by rw [upd_ne (ne_of_none hu hp)]; exact hu, by
    obtain ⟨q', e', _, _, f⟩ := E.celF i d hi g
    rw [e] at e'; cases e'
    exact (f a ha).1⟩) (fun i a d q hi g e ha => by
      obtain ⟨u, hu⟩ := E.noneF (.inl hi) g e ha
      have na : a ≠ p := ne_of_none hu hp
      exact ⟨fun h => ⟨h, na⟩, fun h => by show upd W.H p o a = none; rw [upd_ne na]; exact h⟩) (fun i a d q hi g e ha h => by
      obtain ⟨u, hu⟩ := E.noneF (.inr hi) g e ha
      have na : a ≠ p := ne_of_none hu hp
      show upd W.H p o a = none
      rw [upd_ne na]; exact h)
  refine ⟨E1.sub, ⟨E1.stp.hb, fun a u e n ntb => ?_, fun a u e => ?_, fun a e => ?_, fun a vs e => ?_⟩, E1.len, E1.val, k1, k2, E1.tab⟩
  · by_cases ha : a = p
    · subst ha
      have e : upd W.H a o a = some u := e
      rw [upd_same] at e ⊢; exact .inl e
    · have e : upd W.H p o a = some u := e
      rw [upd_ne ha] at e
      exact E1.stp.fr a u e (fun i q => n i ⟨q, ha⟩) ntb
  · have ha : a ≠ p := fun z => by subst z; rw [nb] at e; cases e
    rcases E1.stp.fs a u e with r | r | ⟨vs, r⟩
    · exact .inl r
    · exact .inr (.inl (by show upd W.H p o a = none; rw [upd_ne ha]; exact r))
    · exact .inr (.inr ⟨vs, by show upd W.H p o a = some (.tup vs); rw [upd_ne ha]; exact r⟩)
  · have ha : a ≠ p := fun z => by subst z; rw [upd_same] at e; cases e
    show upd W.H p o a = none
    rw [upd_ne ha]
    exact E1.stp.al a e
  · by_cases ha : a = p
    · subst ha
      rw [upd_same] at e
      exact .inr (by show upd W.H a o a = some (.tup vs); rw [upd_same]; exact e)
    · rw [upd_ne ha] at e
      show upd W.H p o a = none ∨ upd W.H p o a = some (.tup vs)
      rw [upd_ne ha]
      exact E.stp.tp a vs e
theorem EnvOk.under {K : PySem.W.Frag} {W : Wd} {P I : List Nat} {ρ : Env} {σ : St} {Hb H : Hp} {p : Addr} {o : HO} (E : EnvOk K (W.plus p o) P I ρ σ Hb H) (wn : W.H p = none) : EnvOk K W P I ρ σ Hb H := by
  refine ⟨E.sub, ⟨E.stp.hb, fun a u e n ntb => ?_, fun a u e => ?_, fun a e => ?_, fun a vs e => ?_⟩, E.len, E.val, fun i d hi g => ?_, E.sepF, E.tab⟩
  · have ha : a ≠ p := ne_of_none e wn
    exact E.stp.fr a u (by show upd W.H p o a = some u; rw [upd_ne ha]; exact e) (fun i q => n i q.1) ntb
  · rcases E.stp.fs a u e with r | r | ⟨vs, r⟩
    · exact .inl r
    · have r : upd W.H p o a = none := r
      have ha : a ≠ p := fun z => by subst z; rw [upd_same] at r; cases r
      rw [upd_ne ha] at r
      exact .inr (.inl r)
    · have r : upd W.H p o a = some (.tup vs) := r
      by_cases ha : a = p
      · subst ha; exact .inr (.inl wn)
      · rw [upd_ne ha] at r
        exact .inr (.inr ⟨vs, r⟩)
  · have r : upd W.H p o a = none := E.stp.al a e
    have ha : a ≠ p := fun z => by subst z; rw [upd_same] at r; cases r
    rw [upd_ne ha] at r
    exact r
  · by_cases ha : a = p
    · subst ha; exact .inl wn
    · have r : upd W.H p o a = none ∨ upd W.H p o a = some (.tup vs) := E.stp.tp a vs e
      rw [upd_ne ha] at r
      exact r
  · obtain ⟨q, e, c, hr, f⟩ := E.celF i d hi g
    have low : ∀ a, upd W.H p o a = none → W.H a = none := fun a r => by
      have ha : a ≠ p := fun z => by subst z; rw [upd_same] at r; cases r
      rw [upd_ne ha] at r
      exact r
    exact ⟨q, e, c, hr, fun a ha => ⟨(f a ha).1, fun z => ((f a ha).2.1 z).imp (·.1) (low a), fun z => low a ((f a ha).2.2 z)⟩⟩
theorem EnvOk.at_plus {K : PySem.W.Frag} {W : Wd} {P I : List Nat} {ρ : Env} {σ : St} {Hb H : Hp} {p : Addr} {o : HO} (E : EnvOk K (W.plus p o) P I ρ σ Hb H) (nb : W.Hb p = none) (nt : ∀ vs : List V, o ≠ .tup vs := by intro _ z; cases z) (ntb : ∀ ts, o ≠ .tbl ts := by intro _ z; cases z) : Hb p = none ∧ H p = some o ∧ ∀ i di q, (i ∈ P ∨ i ∈ I) → get ρ i = some di → σ[i]? = some (some (.ref q)) → ¬ foot H q di p := by
  refine ⟨E.stp.nb nb (o := o) upd_same nt, E.stp.own nb upd_same ntb fun i q => q.2 rfl, fun i di q hi g e ft => ?_⟩
  obtain ⟨q', e', _, _, f⟩ := E.celF i di hi g
  rw [e] at e'; cases e'
  have nn : ¬ (W.plus p o).H p = none := fun r => by
    have r : upd W.H p o p = none := r
    rw [upd_same] at r; cases r
  rcases hi with hi | hi
  · rcases (f p ft).2.1 hi with h | h
    · exact h.2 rfl
    · exact nn h
  · exact nn ((f p ft).2.2 hi)
theorem dn_dict {keys : List (Option Expr)} {vals : List Expr} {trs : List (TE × TE)} {R : Env → (List (Key × D) → Env → Prop) → XP → Prop} (h : DPs X Wx P I pos keys vals trs R) (hall : keys.all (·.isSome) = true := by rfl) (hl : keys.length = vals.length := by rfl) (h0 : keys ≠ [] := by exact fun h => nomatch h)
    (h15 : keys.length ≤ 15 := by decide) : DNw X Wx P I (.Dict keys vals pos) (tDisp trs) (fDict R) I := by
  obtain ⟨pp, kk⟩ := h
  refine ⟨pe_disp pp hall hl h0 h15, fun W ρ σ Hb H Q post xp E f x q p hp => ?_⟩
  have nb : W.Hb p = none := E.stp.hb.none (E.sub.none hp)
  have wn : W.H p = none := E.stp.al p hp
  refine kk (W.plus p (.dK [])) ρ σ Hb _ _ _ xp (E.over hp) f (fun c ρ' cls dx Hb' H' z E' xi => x c ρ' cls dx Hb' H' z (E'.under wn) xi) fun ds ρ' vs Hb2 H2 f2 E2 s2 z2 e2 l2 => ?_
  obtain ⟨n2, h2, un⟩ := E2.at_plus nb
  obtain ⟨m1, m2⟩ := merge_is (av := []) (ad := []) e2 l2 rfl .nil
  have lz : vs.length = ds.length := by
    have := congrArg List.length e2
    simpa using this
  have E3 := E2.under wn
  refine ⟨h2, vs, rfl, by rw [lz, z2]; exact h15, q _ _ _ _ _ f2 (E3.pokeF n2 wn (fun ts z => by rw [h2] at z; cases z) un) s2 ⟨⟨_, upd_same, m1, m2⟩, fun a ha => ?_, fun i di r a hi g e ha fa => ?_⟩⟩
  · have := flat_foot (d := .dk (mergeD ds)) rfl ha
    subst this
    exact ⟨n2, wn⟩
  · have := flat_foot (d := .dk (mergeD ds)) rfl ha
    subst this
    have nq : r ≠ a := fun z => by subst z; exact un i di r hi g e foot.root
    exact un i di r hi g e (foot.cong (by rw [upd_ne nq]) fa)
end
end DL

/-! DL10: calls that make a new cell; small words for the printed walks. -/
namespace DL
open PySem L2
open PyProof.Rows hiding St

/-- the promise of a def that returns a new cell -/
def spN (K : PySem.W.Frag) (n : Nat) (io : List Nat) (G : DFn) : Sp := fun vs H Q E => vs.length = n ∧ ∃ (ρ : Env) (Hb : Hp) (post : Post) (xp : XP), EnvOk K ⟨Hb, H, lentAt io vs ρ H, rootAt io vs⟩ io [] ρ (vs.map some) Hb H ∧ G ρ post xp ∧
  (∀ d ρ' p Hb' H', post d ρ' → EnvOk K ⟨Hb, H, lentAt io vs ρ H, rootAt io vs⟩ io [] ρ' (vs.map some) Hb' H' → NewAt K ⟨Hb, H, lentAt io vs ρ H, rootAt io vs⟩ io [] ρ' (vs.map some) Hb' H' p d → Q (.ref p) H') ∧
  (∀ c ρ' cls dx Hb' H', xp c ρ' → EnvOk K ⟨Hb, H, lentAt io vs ρ H, rootAt io vs⟩ io [] ρ' (vs.map some) Hb' H' → XIs K Hb' cls dx c → E cls dx H')
section
variable {X : Cx} {Wx : WX} {P I J J1 : List Nat} {e a b c : Expr} {es : List Expr} {F : FE} {A : Env → (Env → Env → Prop) → XP → Prop} {sl : List (Option Nat)} {pos p : Pos} {k n : Nat} {f : Addr} {fd : FuncData} {ps : List Str} {G : DFn} {x : Str} {io : List Nat} {tA : TA}
theorem calln_core {t : TA} (tk : Takes X Wx) (hio : ioOf 0 sl = io) (hsl : ∀ j ∈ slots sl, j ∈ P ∨ j ∈ J) (nd : (slots sl).Nodup) (hPJ : ∀ j ∈ J, j ∉ P) (hn : sl.length = n)
    (ka : ∀ (W : Wd) (ρ : Env) (σ : St) (Hb H : Hp) (Q : List V → Hp → Prop) (post : Env → Env → Prop) (xp : XP), EnvOk X.K W P I ρ σ Hb H → A ρ post xp → XOk X Wx W P σ xp →
    (∀ ds ρ' vs Hb' H', post ds ρ' → EnvOk X.K W P J ρ' σ Hb' H' → Sub Hb Hb' → Args X.K Hb' σ sl vs ds → Q vs H') → t σ H Q) :
    ∀ (W : Wd) (ρ : Env) (σ : St) (Hb H : Hp) (Q : VK) (post : Post) (xp : XP), EnvOk X.K W P I ρ σ Hb H → fCall G sl A ρ post xp → XOk X Wx W P σ xp →
    (∀ d ρ' p Hb' H', post d ρ' → EnvOk X.K W P J ρ' σ Hb' H' → Sub Hb Hb' → NewAt X.K W P J ρ' σ Hb' H' p d → Q (.ref p) H') → t σ H fun vs H1 => spN X.K n io G vs H1 Q (WE Wx σ) := by
  intro W ρ σ Hb H Q post xp E h x q
  subst hio
  refine ka W ρ σ Hb H _ _ xp E h x fun ds ρ1 vs Hb1 H1 f1 E1 s1 ar => ?_
  obtain ⟨lo, g⟩ := f1
  have hl := lentOk_of lo
  refine ⟨by rw [← ar.slLen]; exact hn, fill sl ds ρ1, Hb1, _, _, E1.lend ar hsl nd hl, g, fun d ρ' pn Hb' H' p1 E2 nw => ?_, fun c ρ' cls dx Hb' H' p1 E2 xi => ?_⟩
  · have E3 := E1.given ar hsl nd hl E2 ar.slLen
    exact q _ _ _ _ _ p1 E3 (s1.trans E2.stp.hb) ⟨nw.cell, fun a ha => ⟨(nw.nbF a ha).1, E1.stp.al a (nw.nbF a ha).2⟩, fun i di r a hi g e ha fa =>
      E1.given_un ar hsl nd hl E2 ar.slLen (nw.nbF a ha).2 (fun m dm r hm g e ft => nw.unF m dm r a (.inl hm) g e ha ft) i di r hi g e fa⟩
  · have E3 := E1.given ar hsl nd hl E2 ar.slLen
    obtain ⟨Hb3, E4, s4⟩ := E3.drop (J := []) (fun j q => by cases q) hPJ
    refine x c _ cls dx Hb3 H' p1 E4 ?_
    obtain ⟨e, r | ⟨d, us, e1, e2, e3, e4⟩⟩ := xi
    · exact ⟨e, .inl r⟩
    · exact ⟨e, .inr ⟨d, us, e1, s4.at e2, e3, e4.mono s4⟩⟩
end
section
variable {P : Program} {w : World} {K : PySem.W.Frag} {mg : Str → Option Value} {base : Heap}
end
theorem hu65_of {A : Around} {k : Nat} (hr : Room k A) : A.units + 65 < cLine := by have := hr.un; omega
theorem hu64_of {A : Around} {k : Nat} (hr : Room k A) : A.units + 64 < cLine := by have := hr.un; omega
theorem hu0_of {A : Around} {k : Nat} (hr : Room k A) : A.units < cLine := by have := hr.un; omega
/-- readings by name -/
def fTupE (A : FA) : FE := fun ρ post xp => A ρ (fun xs ρ1 => xs.length ≤ 1000 ∧ post (.tup xs) ρ1) xp
@[simp ↓] theorem fTupE_ap (A : FA) (ρ : Env) (post : Post) (xp : XP) : fTupE A ρ post xp = (A ρ (fun xs ρ1 => xs.length ≤ 1000 ∧ post (.tup xs) ρ1) xp) := (rfl)
def fLstE (A : FA) : FE := fun ρ post xp => A ρ (fun xs ρ1 => xs.length ≤ 1000000 ∧ post (.lst xs) ρ1) xp
@[simp ↓] theorem fLstE_ap (A : FA) (ρ : Env) (post : Post) (xp : XP) : fLstE A ρ post xp = (A ρ (fun xs ρ1 => xs.length ≤ 1000000 ∧ post (.lst xs) ρ1) xp) := (rfl)
abbrev FKv := Env → (List (Key × D) → Env → Prop) → XP → Prop
def fKvs0 : FKv := fun ρ post _ => post [] ρ
@[simp ↓] theorem fKvs0_ap (ρ : Env) (post : List (Key × D) → Env → Prop) (z_2 : XP) : fKvs0  ρ post z_2 = (post [] ρ) := (rfl)
def fKvs (F G : FE) (R : FKv) : FKv := fun ρ post xp => F ρ (fun kd ρ1 => G ρ1 (fun d ρ2 => ∃ key, dKey kd = some key ∧ R ρ2 (fun r ρ3 => post ((key, d) :: r) ρ3) xp) xp) xp
@[simp ↓] theorem fKvs_ap (F G : FE) (R : FKv) (ρ : Env) (post : List (Key × D) → Env → Prop) (xp : XP) : fKvs F G R ρ post xp = (F ρ (fun kd ρ1 => G ρ1 (fun d ρ2 => ∃ key, dKey kd = some key ∧ R ρ2 (fun r ρ3 => post ((key, d) :: r) ρ3) xp) xp) xp) := (rfl)
/-- a tuple of targets has as many items -/
def GS (g : FG) : Prop := ∀ d ρ k, g d ρ k → ∃ ρ1, k ρ1
def GL (r : FGs) (n : Nat) : Prop := ∀ ds ρ k, r ds ρ k → ds.length = n ∧ ∃ ρ1, k ρ1
theorem gs_nm {i : Nat} : GS (gNm i) := fun _ _ _ h => ⟨_, h⟩
theorem gl_nil : GL gNl 0 := fun ds ρ k h => by
  cases ds with
  | nil => exact ⟨rfl, _, h⟩
  | cons => exact h.elim
theorem gl_cons {g : FG} {r : FGs} {n : Nat} (hg : GS g) (hr : GL r n) : GL (gCn g r) (n + 1) := fun ds ρ k h => by
  cases ds with
  | nil => exact h.elim
  | cons d ds =>
    obtain ⟨ρ1, h⟩ := hg _ _ _ h
    obtain ⟨e, q⟩ := hr _ _ _ h
    exact ⟨congrArg (· + 1) e, q⟩
theorem gs_tp {r : FGs} {n : Nat} (h : GL r n) : GS (gTp r) := fun d ρ k q => by
  cases d <;> first | exact q.elim | exact (h _ _ _ q).2

/-! ### comprehensions whose parts' transformers may name the block -/
abbrev Bk (X : Cx) (scope : Scope) (s : Shared) (H : Hp) (C : Addr) (cl : List (Str × Addr)) (fp : List Addr) : Cx := X.blk s H scope (compEnvC scope cl C X.env) fp
section
variable {X : Cx} {Wx : WX} {P L I J : List Nat} {elt tg iter : Expr} {ifs : List Expr} {scope : Scope} {own : List (Str × Nat)} {pos spos py : Pos} {wi : TI} {A : FA} {gd : FG} {T : FT} {E : FE} {ts : List Nat}
theorem all_de {e : Expr} (h : ∀ (s : Shared) (H : Hp) (C : Addr) (cl : List (Str × Addr)) (fp : List Addr), ∃ te, DE (Bk X scope s H C cl fp) Wx P I e te E J) :
    ∃ te, ∀ (s : Shared) (H : Hp) (C : Addr) (cl : List (Str × Addr)) (fp : List Addr), DE (Bk X scope s H C cl fp) Wx P I e te E J := by
  classical
  refine ⟨fun σ H Q => ∀ s H0 C cl fp, Classical.choose (h s H0 C cl fp) σ H Q, fun s H C cl fp => ?_⟩
  have k := Classical.choose_spec (h s H C cl fp)
  refine ⟨⟨fun pins s1 σ H1 Q I1 q => k.pe.run pins s1 σ H1 Q I1 (q s H C cl fp)⟩, fun W ρ σ Hb H1 Q post xp E1 f x q s2 H2 C2 cl2 fp2 => ?_⟩
  exact (Classical.choose_spec (h s2 H2 C2 cl2 fp2)).ev W ρ σ Hb H1 Q post xp E1 f x q
theorem all_dts (h : ∀ (s : Shared) (H : Hp) (C : Addr) (cl : List (Str × Addr)) (fp : List Addr), ∃ te, DTs (Bk X scope s H C cl fp) Wx P I ifs te T J) :
    ∃ te, ∀ (s : Shared) (H : Hp) (C : Addr) (cl : List (Str × Addr)) (fp : List Addr), DTs (Bk X scope s H C cl fp) Wx P I ifs te T J := by
  classical
  refine ⟨fun σ H Q => ∀ s H0 C cl fp, Classical.choose (h s H0 C cl fp) σ H Q, fun s H C cl fp => ?_⟩
  have k := Classical.choose_spec (h s H C cl fp)
  refine ⟨⟨fun pins s1 σ H1 Q I1 q => k.pe.run pins s1 σ H1 Q I1 (q s H C cl fp)⟩, fun W ρ σ Hb H1 Q post xp E1 f x q s2 H2 C2 cl2 fp2 => ?_⟩
  exact (Classical.choose_spec (h s2 H2 C2 cl2 fp2)).ev W ρ σ Hb H1 Q post xp E1 f x q
theorem all_dg (h : ∀ (s : Shared) (H : Hp) (C : Addr) (cl : List (Str × Addr)) (fp : List Addr), ∃ g, DG (Bk X scope s H C cl fp) P I tg ts g gd) :
    ∃ g, ∀ (s : Shared) (H : Hp) (C : Addr) (cl : List (Str × Addr)) (fp : List Addr), DG (Bk X scope s H C cl fp) P I tg ts g gd := by
  classical
  refine ⟨fun v σ H Q => ∀ s H0 C cl fp, Classical.choose (h s H0 C cl fp) v σ H Q, fun s H C cl fp => ?_⟩
  have k := Classical.choose_spec (h s H C cl fp)
  refine ⟨⟨fun pins s1 σ H1 v u Q I1 r q => k.pe.run pins s1 σ H1 v u Q I1 r (q s H C cl fp)⟩, fun W ρ σ Hb H1 v d Q kk E1 i f q s2 H2 C2 cl2 fp2 => ?_⟩
  exact (Classical.choose_spec (h s2 H2 C2 cl2 fp2)).ev W ρ σ Hb H1 v d Q kk E1 i f q
/-- the new list of a comprehension -/
structure DNx (X : Cx) (Wx : WX) (P I : List Nat) (e : Expr) (F : FE) (J : List Nat) : Prop where
  ex : ∃ t, DNw X Wx P I e t F J
theorem dx_lc (N : List Str) (sc : Scope) (own : List (Str × Nat)) (vs : List Nat) (hc : X.calm = true) (hN : X.N.Nodup) (hi : DI X Wx P I tg iter wi A J) (hb : blkC N sc scope own = true)
    (hg : ∀ (s : Shared) (H : Hp) (C : Addr) (cl : List (Str × Addr)) (fp : List Addr), ∃ g, DG (Bk X scope s H C cl fp) (P ++ J) [] tg ts g gd)
    (ht : ∀ (s : Shared) (H : Hp) (C : Addr) (cl : List (Str × Addr)) (fp : List Addr), ∃ tt, DTs (Bk X scope s H C cl fp) WN (P ++ J) [] ifs tt T [])
    (he : ∀ (s : Shared) (H : Hp) (C : Addr) (cl : List (Str × Addr)) (fp : List Addr), ∃ te, DE (Bk X scope s H C cl fp) WN (P ++ J) [] elt te E [])
    (e1 : X.N = N := by rfl) (e2 : X.env.scope = sc := by rfl) (e3 : own.map (·.2) = vs := by rfl)
    (hts : ∀ v ∈ ts, v ∈ own.map (·.2) := by decide) (hvs : ∀ v ∈ own.map (·.2), v ∉ P ∧ v ∉ J := by decide) (hs : ∀ x, foldedSetIterable iter X.env x = pure x := by intro _; rfl) :
    DNx X Wx P I (.ListComp elt [⟨tg, iter, ifs, 0⟩] scope pos) (fLc A vs gd T E) J := by
  obtain ⟨g, hg⟩ := all_dg hg
  obtain ⟨tt, ht⟩ := all_dts ht
  obtain ⟨te, he⟩ := all_de he
  subst e1 e2 e3
  exact ⟨_, dn_lc own hc hN hi (blkOk_by hb) hg ht he hts hvs hs⟩
end
theorem dn_of {X : Cx} {Wx : WX} {P I J : List Nat} {e : Expr} {F : FE} (h : DNx X Wx P I e F J) : DNw X Wx P I e (Classical.choose h.ex) F J := Classical.choose_spec h.ex
section
variable {X : Cx} {Wx : WX} {P L I J : List Nat} {elt tg iter : Expr} {ifs : List Expr} {scope : Scope} {own : List (Str × Nat)} {pos spos py : Pos} {wi : TI} {A : FA} {gd : FG} {T : FT} {E : FE} {ts : List Nat}
theorem dx_setLc (i : Nat) {y : Str} (N : List Str) (sc : Scope) (own : List (Str × Nat)) (vs : List Nat) (hc : X.calm = true) (hN : X.N.Nodup) (hsw : swapsWith (.ListComp elt [⟨tg, iter, ifs, 0⟩] scope pos) (some (.Name y py)) spos.line X.env = pure true) (hi : DI X Wx P I tg iter wi A J) (hb : blkC N sc scope own = true)
    (hg : ∀ (s : Shared) (H : Hp) (C : Addr) (cl : List (Str × Addr)) (fp : List Addr), ∃ g, DG (Bk X scope s H C cl fp) (P ++ J) [] tg ts g gd)
    (ht : ∀ (s : Shared) (H : Hp) (C : Addr) (cl : List (Str × Addr)) (fp : List Addr), ∃ tt, DTs (Bk X scope s H C cl fp) WN (P ++ J) [] ifs tt T [])
    (he : ∀ (s : Shared) (H : Hp) (C : Addr) (cl : List (Str × Addr)) (fp : List Addr), ∃ te, DE (Bk X scope s H C cl fp) WN (P ++ J) [] elt te E [])
    (e1 : X.N = N := by rfl) (e2 : X.env.scope = sc := by rfl) (e3 : own.map (·.2) = vs := by rfl)
    (hy : X.N[i]? = some y := by rfl) (hyl : X.env.scope.names.lookup y = some .local := by rfl) (hP : i ∉ P := by decide) (hI : i ∉ J := by decide)
    (hts : ∀ v ∈ ts, v ∈ own.map (·.2) := by decide) (hvs : ∀ v ∈ own.map (·.2), v ∉ P ∧ v ∉ J := by decide) (hs : ∀ x, foldedSetIterable iter X.env x = pure x := by intro _; rfl) :
    DS X Wx P L I (.Assign [.Name y py] (.ListComp elt [⟨tg, iter, ifs, 0⟩] scope pos) spos) (fSet i (fLc A vs gd T E)) J := by
  obtain ⟨g, hg⟩ := all_dg hg
  obtain ⟨tt, ht⟩ := all_dts ht
  obtain ⟨te, he⟩ := all_de he
  subst e1 e2 e3
  exact ds_setLc i own hc hN hsw hi (blkOk_by hb) hg ht he hy hyl hP hI hts hvs hs
end
theorem cx_no {P : Program} {w : World} {outer : List PySem.Env} {H : Hp} {s s' : Shared} {u : Value} (h : L2.CX P w outer H s (fun _ _ _ => False) u s') : False := by
  obtain ⟨a, B, H', cls, d, h⟩ := h
  obtain ⟨_, _, _, _, _, _, h⟩ := h
  exact h.2

/-! ### == and != with an empty list or tuple: the items don't matter -/
section
variable {X : Cx} {K : PySem.W.Frag} {Hb H : Hp}
def rEmpS (K : PySem.W.Frag) (neg : Bool) : R2 := fun x y H Q => ∃ a b xs ys, x = .ref a ∧ y = .ref b ∧ ((SqL K H a xs ∧ SqL K H b ys) ∨ (SqT K H a xs ∧ SqT K H b ys)) ∧ (xs = [] ∨ ys = []) ∧ Q (.bl (neg != decide (xs.length = ys.length))) H
theorem emp_range {n m : Nat} (h : n = 0 ∨ m = 0) (e : Nat → Bool) : (List.range (min n m)).all e = true := by
  have : min n m = 0 := by omega
  rw [this]; rfl
theorem op_eqEmpS (hu : X.A.units < cLine) : OpR X (compareOp .Eq) (rEmpS X.K false) := by
  intro pins s σ H x y v u Q I rx ry h
  obtain ⟨a, b, xs, ys, rfl, rfl, hs, he, q⟩ := h
  cases rx; cases ry
  rcases hs with ⟨h1, h2⟩ | ⟨h1, h2⟩
  · obtain ⟨i1, r1, p1, _⟩ := I.list h1
    obtain ⟨i2, r2, p2, _⟩ := I.list h2
    have l1 := r1.length
    have l2 := r2.length
    by_cases hl : xs.length = ys.length
    · have z : xs = [] ∧ ys = [] := by
        rcases he with e | e
        · subst e; exact ⟨rfl, List.eq_nil_of_length_eq_zero hl.symm⟩
        · subst e; exact ⟨List.eq_nil_of_length_eq_zero hl, rfl⟩
      obtain ⟨rfl, rfl⟩ := z
      cases r1; cases r2
      exact SeqAt.eq_listAt (e := fun _ => true) p1.isList p2.isList rfl hu (fun j h _ => absurd h (by simp)) ⟨.bl true, H, I, rfl, by simpa using q⟩
    · refine SeqAt.eq_list_lengthsAt p1.isList p2.isList (by simp only [List.size_toArray, bne_iff_ne, ne_eq]; omega) hu ⟨.bl false, H, I, rfl, ?_⟩
      rw [decide_eq_false hl] at q
      exact q
  · obtain ⟨i1, r1, p1, _⟩ := I.tuple h1
    obtain ⟨i2, r2, p2, _⟩ := I.tuple h2
    have l1 := r1.length
    have l2 := r2.length
    have hz : i1.toArray.size = 0 ∨ i2.toArray.size = 0 := by
      simp only [List.size_toArray]
      rcases he with e | e
      · subst e; left; simpa using l1.symm
      · subst e; right; simpa using l2.symm
    refine SeqAt.eq_tupleAt (e := fun _ => true) p1 p2 hu (fun j h h' => by omega) ?_
    rw [emp_range hz]
    refine ⟨.bl (decide (xs.length = ys.length)), H, I, ?_, by simpa using q⟩
    show Value.bool _ = Value.bool _
    congr 1
    rw [Bool.true_and, l1, l2, List.size_toArray, List.size_toArray]
    by_cases z : i1.length = i2.length
    · rw [decide_eq_true z]; simpa using z
    · rw [decide_eq_false z]; simpa using z
theorem op_neEmpS (hu : X.A.units < cLine) : OpR X (compareOp .NotEq) (rEmpS X.K true) := by
  intro pins s σ H x y v u Q I rx ry h
  obtain ⟨a, b, xs, ys, rfl, rfl, hs, he, q⟩ := h
  cases rx; cases ry
  rcases hs with ⟨h1, h2⟩ | ⟨h1, h2⟩
  · obtain ⟨i1, r1, p1, _⟩ := I.list h1
    obtain ⟨i2, r2, p2, _⟩ := I.list h2
    have l1 := r1.length
    have l2 := r2.length
    by_cases hl : xs.length = ys.length
    · have z : xs = [] ∧ ys = [] := by
        rcases he with e | e
        · subst e; exact ⟨rfl, List.eq_nil_of_length_eq_zero hl.symm⟩
        · subst e; exact ⟨List.eq_nil_of_length_eq_zero hl, rfl⟩
      obtain ⟨rfl, rfl⟩ := z
      cases r1; cases r2
      exact SeqAt.RcNeAt.lists (e := fun _ => true) p1.isList p2.isList rfl hu (fun j h _ => absurd h (by simp)) _ _ _ _ ⟨.bl false, H, I, rfl, by simpa using q⟩
    · refine SeqAt.RcNeAt.lists_lengths p1.isList p2.isList (by simp only [List.size_toArray, bne_iff_ne, ne_eq]; omega) hu _ _ _ _ ⟨.bl true, H, I, rfl, ?_⟩
      rw [decide_eq_false hl] at q
      exact q
  · obtain ⟨i1, r1, p1, _⟩ := I.tuple h1
    obtain ⟨i2, r2, p2, _⟩ := I.tuple h2
    have l1 := r1.length
    have l2 := r2.length
    have hz : i1.toArray.size = 0 ∨ i2.toArray.size = 0 := by
      simp only [List.size_toArray]
      rcases he with e | e
      · subst e; left; simpa using l1.symm
      · subst e; right; simpa using l2.symm
    refine SeqAt.RcNeAt.tuples (e := fun _ => true) p1 p2 hu (fun j h h' => by omega) _ _ _ _ ?_
    rw [emp_range hz]
    refine ⟨.bl (!decide (xs.length = ys.length)), H, I, ?_, by simpa using q⟩
    show Value.bool _ = Value.bool _
    congr 1
    rw [Bool.true_and, l1, l2, List.size_toArray, List.size_toArray]
    by_cases z : i1.length = i2.length
    · rw [decide_eq_true z]; simpa using z
    · rw [decide_eq_false z]; simpa using z
def rEqSt (neg : Bool) : R2 := fun x y H Q => ∃ a b : Str, x = .str a ∧ y = .str b ∧ Q (.bl (neg != decide (a = b))) H
abbrev rEmp (K : PySem.W.Frag) (neg : Bool) : R2 := fun x y H Q => rEmpS K neg x y H Q ∨ rEqSt neg x y H Q
theorem op_eqSt : OpR X (compareOp .Eq) (rEqSt false) := fun pins s σ H x y v u Q I rx ry ⟨a, b, ex, ey, q⟩ => op_eq pins s σ H x y v u Q I rx ry (by
  subst ex; subst ey
  refine ⟨rfl, ?_⟩
  have : decide (V.str a = V.str b) = decide (a = b) := by simp
  rw [this]; simpa using q)
theorem op_neSt : OpR X (compareOp .NotEq) (rEqSt true) := fun pins s σ H x y v u Q I rx ry ⟨a, b, ex, ey, q⟩ => op_ne pins s σ H x y v u Q I rx ry (by
  subst ex; subst ey
  refine ⟨rfl, ?_⟩
  have : decide (V.str a = V.str b) = decide (a = b) := by simp
  rw [this]; simpa using q)
theorem op_eqEmp (hu : X.A.units < cLine) : OpR X (compareOp .Eq) (rEmp X.K false) := (op_eqEmpS hu).or op_eqSt
theorem op_neEmp (hu : X.A.units < cLine) : OpR X (compareOp .NotEq) (rEmp X.K true) := (op_neEmpS hu).or op_neSt
/-- two sequences of one kind, one of them empty -/
def empty2 : D → D → Option Bool
  | .lst a, .lst b => if a = [] ∨ b = [] then some (decide (a.length = b.length)) else none
  | .slst a, .lst b => if a = [] ∨ b = [] then some (decide (a.length = b.length)) else none
  | .tup a, .tup b => if a = [] ∨ b = [] then some (decide (a.length = b.length)) else none
  | .str a, .str b => some (decide (a = b))
  | _, _ => none
def gEqU : G2 := fun x y k => match empty2 x y with
  | some b => k (.bl b)
  | none => gEq x y k
def gNeU : G2 := fun x y k => match empty2 x y with
  | some b => k (.bl (!b))
  | none => gNe x y k
theorem emp_of (s : Sub Hb H) {v w : V} {x y : D} {b : Bool} {neg : Bool} {Q : VK} (ix : IsO K Hb H v x) (iy : IsO K Hb H w y) (e : empty2 x y = some b) (q : Q (.bl (neg != b)) H) : rEmp K neg v w H Q := by
  have L : ∀ {a b' : List D}, lstD x = some a → lstD y = some b' → (if a = [] ∨ b' = [] then some (decide (a.length = b'.length)) else none) = some b → rEmpS K neg v w H Q := fun {a b'} e1 e2 e => by
    obtain ⟨p, us, rfl, h1, l1⟩ := o_lstD s ix e1
    obtain ⟨p', us', rfl, h2, l2⟩ := o_lstD s iy e2
    split at e
    · rename_i he
      cases e
      refine ⟨p, p', us, us', rfl, rfl, .inl ⟨h1, h2⟩, he.imp (fun z => ?_) (fun z => ?_), by rw [l1.length, l2.length]; exact q⟩
      · subst z; exact List.eq_nil_of_length_eq_zero (by rw [l1.length]; rfl)
      · subst z; exact List.eq_nil_of_length_eq_zero (by rw [l2.length]; rfl)
    · cases e
  unfold empty2 at e
  split at e
  · exact .inl (L rfl rfl e)
  · exact .inl (L rfl rfl e)
  · obtain ⟨_, p, us, rfl, h1, l1⟩ := o_tupD s ix rfl
    obtain ⟨_, p', us', rfl, h2, l2⟩ := o_tupD s iy rfl
    split at e
    · rename_i he
      cases e
      refine .inl ⟨p, p', us, us', rfl, rfl, .inr ⟨h1, h2⟩, he.imp (fun z => ?_) (fun z => ?_), by rw [l1.length, l2.length]; exact q⟩
      · subst z; exact List.eq_nil_of_length_eq_zero (by rw [l1.length]; rfl)
      · subst z; exact List.eq_nil_of_length_eq_zero (by rw [l2.length]; rfl)
    · cases e
  · cases e
    have e1 := o_str ix
    have e2 := o_str iy
    exact .inr ⟨_, _, e1, e2, q⟩
  · cases e
theorem op_eqU (hu : X.A.units + 64 < cLine) : OpR X (compareOp .Eq) (fun x y H Q => rEqD X.K x y H Q ∨ rEmp X.K false x y H Q) := (op_eqD hu).or (op_eqEmp (by omega))
theorem op_neU (hu : X.A.units + 64 < cLine) : OpR X (compareOp .NotEq) (fun x y H Q => rNeD X.K x y H Q ∨ rEmp X.K true x y H Q) := (op_neD hu).or (op_neEmp (by omega))
theorem rv_eqU : RV2 K (fun x y H Q => rEqD K x y H Q ∨ rEmp K false x y H Q) gEqU := fun Hb H x y dx dy k Q s ix iy g q => by
  unfold gEqU at g
  split at g
  · rename_i b e
    exact .inr (emp_of s ix iy e (by simpa using q _ _ _ _ g .refl (.bl _)))
  · exact .inl (rv_eq Hb H x y dx dy k Q s ix iy g q)
theorem rv_neU : RV2 K (fun x y H Q => rNeD K x y H Q ∨ rEmp K true x y H Q) gNeU := fun Hb H x y dx dy k Q s ix iy g q => by
  unfold gNeU at g
  split at g
  · rename_i b e
    exact .inr (emp_of s ix iy e (by simpa using q _ _ _ _ g .refl (.bl _)))
  · exact .inl (rv_ne Hb H x y dx dy k Q s ix iy g q)
end
end DL

/-! DL11: how readings are evaluated (simp). -/
namespace DL
open PySem L2

@[simp] theorem ofString_inj {a b : String} : (Str.ofString a = Str.ofString b) = (a = b) := by
  refine propext ⟨fun h => ?_, fun h => by rw [h]⟩
  rw [Str.ofString_eq_toList, Str.ofString_eq_toList] at h
  have h := congrArg (fun s : Str => s.cps.toList) h
  simp only [List.toList_toArray] at h
  have inj : ∀ {l m : List Char}, l.map Char.toNat = m.map Char.toNat → l = m := by
    intro l
    induction l with
    | nil => intro m h; cases m with
      | nil => rfl
      | cons => simp at h
    | cons x l ih => intro m h; cases m with
      | nil => simp at h
      | cons y m =>
        simp only [List.map_cons, List.cons.injEq] at h
        have e : x = y := by
          have := h.1
          exact Char.ext (UInt32.toNat_inj.mp this)
        rw [e, ih h.2]
  exact String.toList_injective (inj h)
@[simp] theorem get_zero (x : Option D) (r : Env) : get (x :: r) 0 = x := rfl
@[simp] theorem get_succ (x : Option D) (r : Env) (n : Nat) : get (x :: r) (n + 1) = get r n := rfl
@[simp] theorem put_zero (x d : Option D) (r : Env) : put (x :: r) 0 d = d :: r := rfl
@[simp] theorem put_succ (x d : Option D) (r : Env) (n : Nat) : put (x :: r) (n + 1) d = x :: put r n d := rfl
@[simp ↓] theorem gAdd_int (i j : Int) (k) : gAdd (.int i) (.int j) k = k (.int (i + j)) := (rfl)
@[simp ↓] theorem gAdd_lst (a b : List D) (k) : gAdd (.lst a) (.lst b) k = (a.length + b.length ≤ 1000000 ∧ k (.lst (a ++ b))) := (rfl)
@[simp ↓] theorem gAdd_tup (a b : List D) (k) : gAdd (.tup a) (.tup b) k = (a.length + b.length ≤ 1000000 ∧ k (.tup (a ++ b))) := (rfl)
@[simp ↓] theorem gAdd_str (a b : Str) (k) : gAdd (.str a) (.str b) k = (a.length + b.length ≤ 1000000 ∧ k (.str (a ++ b))) := (rfl)
@[simp ↓] theorem gSub_int (i j : Int) (k) : gSub (.int i) (.int j) k = k (.int (i - j)) := (rfl)
@[simp ↓] theorem gMul_int (i j : Int) (k) : gMul (.int i) (.int j) k = (CMulO i j ∧ k (.int (i * j))) := (rfl)
@[simp ↓] theorem gFdiv_int (i j : Int) (k) : gFdiv (.int i) (.int j) k = ((j ≠ 0 ∧ j.natAbs.log2 < 9000) ∧ k (.int (i.fdiv j))) := (rfl)
@[simp ↓] theorem gFmod_int (i j : Int) (k) : gFmod (.int i) (.int j) k = (j ≠ 0 ∧ k (.int (i.fmod j))) := (rfl)
@[simp ↓] theorem gPow_int (i j : Int) (k) : gPow (.int i) (.int j) k = ((0 ≤ j ∧ j ≤ 1000000 ∧ i.natAbs < 2 ^ 64) ∧ k (.int (i ^ j.toNat))) := (rfl)
@[simp ↓] theorem gNeg_int (i : Int) (k) : gNeg (.int i) k = k (.int (-i)) := (rfl)
@[simp ↓] theorem gLt_int (i j : Int) (k) : gLt (.int i) (.int j) k = k (.bl (decide (i < j))) := (rfl)
@[simp ↓] theorem gLe_int (i j : Int) (k) : gLe (.int i) (.int j) k = k (.bl (decide (i ≤ j))) := (rfl)
@[simp ↓] theorem gGe_int (i j : Int) (k) : gGe (.int i) (.int j) k = k (.bl (decide (j ≤ i))) := (rfl)
@[simp ↓] theorem gEqU_lst0 (a : List D) (k) : gEqU (.lst a) (.lst []) k = k (.bl (decide (a = []))) := by
  have e : empty2 (.lst a) (.lst []) = some (decide (a = [])) := by simp [empty2, List.length_eq_zero_iff]
  show (match empty2 (.lst a) (.lst []) with | some b => k (.bl b) | none => _) = _
  rw [e]
@[simp ↓] theorem gNeU_lst0 (a : List D) (k) : gNeU (.lst a) (.lst []) k = k (.bl (!decide (a = []))) := by
  have e : empty2 (.lst a) (.lst []) = some (decide (a = [])) := by simp [empty2, List.length_eq_zero_iff]
  show (match empty2 (.lst a) (.lst []) with | some b => k (.bl (!b)) | none => _) = _
  rw [e]
theorem gEq_of {x y : D} {a b : PyData} (h1 : pd x = some a) (h2 : pd y = some b) (s1 : SeqAt.shaped a = true) (s2 : SeqAt.shaped b = true) (k : D → Prop) : gEq x y k = k (.bl (PyData.eqv a b)) := by
  refine propext ⟨fun ⟨c, d, e1, e2, _, _, h⟩ => ?_, fun h => ⟨a, b, h1, h2, s1, s2, h⟩⟩
  rw [h1] at e1; rw [h2] at e2
  cases e1; cases e2; exact h
theorem gNe_of {x y : D} {a b : PyData} (h1 : pd x = some a) (h2 : pd y = some b) (s1 : SeqAt.shaped a = true) (s2 : SeqAt.shaped b = true) (k : D → Prop) : gNe x y k = k (.bl (!PyData.eqv a b)) := by
  refine propext ⟨fun ⟨c, d, e1, e2, _, _, h⟩ => ?_, fun h => ⟨a, b, h1, h2, s1, s2, h⟩⟩
  rw [h1] at e1; rw [h2] at e2
  cases e1; cases e2; exact h
theorem shaped_int (i : Int) : SeqAt.shaped (.int i) = true := by
  simp [SeqAt.shaped, PyData.canLay0, PyData.depth]
theorem shaped_bool (i : Bool) : SeqAt.shaped (.bool i) = true := by
  simp [SeqAt.shaped, PyData.canLay0, PyData.depth]
@[simp ↓] theorem gEqU_int (i j : Int) (k) : gEqU (.int i) (.int j) k = k (.bl (decide (i = j))) := by
  show gEq _ _ _ = _
  rw [gEq_of rfl rfl (shaped_int i) (shaped_int j)]
  have e : PyData.eqv (.int i) (.int j) = decide (i = j) := by
    simp only [PyData.eqv]
    by_cases h : i = j <;> simp [h]
  rw [e]
@[simp ↓] theorem gNeU_int (i j : Int) (k) : gNeU (.int i) (.int j) k = k (.bl (!decide (i = j))) := by
  show gNe _ _ _ = _
  rw [gNe_of rfl rfl (shaped_int i) (shaped_int j)]
  have e : PyData.eqv (.int i) (.int j) = decide (i = j) := by
    simp only [PyData.eqv]
    by_cases h : i = j <;> simp [h]
  rw [e]
@[simp ↓] theorem gEqU_bl (i j : Bool) (k) : gEqU (.bl i) (.bl j) k = k (.bl (decide (i = j))) := by
  show gEq _ _ _ = _
  rw [gEq_of rfl rfl (shaped_bool i) (shaped_bool j)]
  cases i <;> cases j <;> simp [PyData.eqv]
@[simp ↓] theorem gNeU_bl (i j : Bool) (k) : gNeU (.bl i) (.bl j) k = k (.bl (!decide (i = j))) := by
  show gNe _ _ _ = _
  rw [gNe_of rfl rfl (shaped_bool i) (shaped_bool j)]
  cases i <;> cases j <;> simp [PyData.eqv]
@[simp ↓] theorem gIx_tup (a : List D) (i : Int) (k) : gIx (.tup a) (.int i) k = ∃ d, atI a i = some d ∧ k d := (rfl)
@[simp ↓] theorem gIx_lst (a : List D) (i : Int) (k) : gIx (.lst a) (.int i) k = ∃ d, atI a i = some d ∧ k d := (rfl)
@[simp ↓] theorem gIx_slst (a : List D) (i : Int) (k) : gIx (.slst a) (.int i) k = ∃ d, atI a i = some d ∧ k d := (rfl)
@[simp ↓] theorem gIx_dkS (a : List (Key × D)) (i : Str) (k) : gIx (.dk a) (.str i) k = ∃ d, valD a (.inr i) = some d ∧ k d := by
  show (∃ d, getK (.dk a) (.str i) = some (some d) ∧ k d) = _
  simp [getK]
@[simp ↓] theorem gIx_dkI (a : List (Key × D)) (i : Int) (k) : gIx (.dk a) (.int i) k = ∃ d, valD a (.inl i) = some d ∧ k d := by
  show (∃ d, getK (.dk a) (.int i) = some (some d) ∧ k d) = _
  simp [getK]
@[simp] theorem valD_cons {κ : Type} [DecidableEq κ] (p : κ × D) (r : List (κ × D)) (k : κ) : valD (p :: r) k = if p.1 = k then some p.2 else valD r k := by
  unfold valD
  by_cases h : p.1 = k
  · simp [List.find?_cons, h]
  · simp [List.find?_cons, h]
@[simp] theorem valD_nil {κ : Type} [DecidableEq κ] (k : κ) : valD ([] : List (κ × D)) k = none := rfl
@[simp] theorem putKD_dkS (a : List (Key × D)) (i : Str) (v d : D) : (putKD (.dk a) (.str i) v = some d) = (D.dk (putD a (.inr i) v) = d) := by simp [putKD]
@[simp] theorem putKD_dkI (a : List (Key × D)) (i : Int) (v d : D) : (putKD (.dk a) (.int i) v = some d) = (D.dk (putD a (.inl i) v) = d) := by simp [putKD]
@[simp] theorem sizeD_dk (a : List (Key × D)) : sizeD (.dk a) = a.length := rfl
@[simp] theorem isDict_dk (a : List (Key × D)) : isDict (.dk a) = True := rfl
@[simp ↓] theorem gLen_lst (a : List D) (k) : gLen [.lst a] k = k (.int a.length) := (rfl)
@[simp ↓] theorem gLen_slst (a : List D) (k) : gLen [.slst a] k = k (.int a.length) := (rfl)
@[simp ↓] theorem gLen_tup (a : List D) (k) : gLen [.tup a] k = k (.int a.length) := (rfl)
@[simp ↓] theorem gLen_dk (a : List (Key × D)) (k) : gLen [.dk a] k = k (.int a.length) := (rfl)
@[simp ↓] theorem gAbs_int (i : Int) (k) : gAbs [.int i] k = k (.int (if i < 0 then -i else i)) := (rfl)
@[simp ↓] theorem gInt_int (i : Int) (k) : gInt [.int i] k = k (.int i) := (rfl)
@[simp ↓] theorem gInt_bl (b : Bool) (k) : gInt [.bl b] k = k (.int (if b then 1 else 0)) := (rfl)
@[simp ↓] theorem gTuple_lst (a : List D) (k) : gTuple [.lst a] k = k (.tup a) := (rfl)
@[simp ↓] theorem gTuple_tup (a : List D) (k) : gTuple [.tup a] k = k (.tup a) := (rfl)
@[simp ↓] theorem gIsi_ty (c : Kd) (d : D) (n : String) (k) : gIsi c [d, .ty n] k = (n = c.name ∧ ∃ b, isK c d = some b ∧ k (.bl b)) := (rfl)
@[simp ↓] theorem gCut_lst (a : List D) (lo hi : Option Int) (k) : gCut (.lst a) lo hi k = k (.lst (cutL a lo hi)) := (rfl)
@[simp ↓] theorem gCut_slst (a : List D) (lo hi : Option Int) (k) : gCut (.slst a) lo hi k = k (.lst (cutL a lo hi)) := (rfl)
@[simp ↓] theorem endS_nx (io n post xp ρ) : (endS io n post xp).nx ρ = post .non (maskF io 0 n ρ) := (rfl)
@[simp ↓] theorem endS_rt (io n post xp d ρ) : (endS io n post xp).rt d ρ = post d (maskF io 0 n ρ) := (rfl)
@[simp ↓] theorem endS_ex (io n post xp d ρ) : (endS io n post xp).ex d ρ = xp d (maskF io 0 n ρ) := (rfl)
@[simp] theorem maskF_zero (io i ρ) : maskF io i 0 ρ = [] := rfl
@[simp] theorem maskF_succ (io i n ρ) : maskF io i (n + 1) ρ = (if i ∈ io then get ρ i else none) :: maskF io (i + 1) n ρ := rfl
theorem atI_nat {a : List D} {i : Nat} {d : D} (h : a[i]? = some d) : atI a (i : Int) = some d := by
  obtain ⟨hl, _⟩ := List.getElem?_eq_some_iff.mp h
  unfold atI ixN
  rw [if_pos (by omega), if_pos (by omega)]
  simpa using h
/-- an item by a drawn index -/
theorem atI_lt {a : List D} {i : Int} (h0 : 0 ≤ i) (h1 : i < a.length) : ∃ d, atI a i = some d ∧ d ∈ a := by
  have hl : i.toNat < a.length := by omega
  refine ⟨a[i.toNat], ?_, List.getElem_mem hl⟩
  have := atI_nat (a := a) (i := i.toNat) (List.getElem?_eq_getElem hl)
  rwa [Int.toNat_of_nonneg h0] at this
theorem fmod_nn {i j : Int} (h : 0 < j) : 0 ≤ i.fmod j := Int.fmod_nonneg_of_pos i h
theorem fmod_lt {i j : Int} (h : 0 < j) : i.fmod j < j := Int.fmod_lt_of_pos i h
theorem fdiv_nn {i j : Int} (h : 0 ≤ i) (h' : 0 < j) : 0 ≤ i.fdiv j := by
  rw [Int.fdiv_eq_ediv_of_nonneg _ (Int.le_of_lt h')]; exact Int.ediv_nonneg h (Int.le_of_lt h')
/-- a for loop by an invariant of the items left and the environment -/
theorem loop_inv {g : FG} {B : FS} {S : SPo} (Inv : List D → Env → Prop) (h0 : ∀ ρ, Inv [] ρ → S.nx ρ)
    (h1 : ∀ d ds ρ (N : Env → Prop), (∀ ρ', Inv ds ρ' → N ρ') → Inv (d :: ds) ρ → g d ρ fun ρ1 => B ρ1 (S.lp N)) :
    ∀ ds ρ, Inv ds ρ → loopL g B S ds ρ
  | [], ρ, h => h0 ρ h
  | d :: ds, ρ, h => h1 d ds ρ _ (fun ρ' q => loop_inv Inv h0 h1 ds ρ' q) h
theorem ix_drawn {a : List D} {i : Int} {k : D → Prop} (h0 : 0 ≤ i) (h1 : i < a.length) (h : ∀ d ∈ a, k d) : ∃ d, atI a i = some d ∧ k d := by
  obtain ⟨d, e, m⟩ := atI_lt h0 h1
  exact ⟨d, e, h d m⟩
@[simp] theorem atI_ints (ns : List Int) (i : Int) (k : D → Prop) : (∃ d, atI (ns.map D.int) i = some d ∧ k d) = ∃ c, atI ns i = some c ∧ k (.int c) := by
  have e : atI (ns.map D.int) i = (atI ns i).map D.int := by
    unfold atI
    rw [List.length_map]
    cases ixN ns.length i <;> simp
  rw [e]
  refine propext ⟨fun ⟨d, h, q⟩ => ?_, fun ⟨c, h, q⟩ => ⟨_, by rw [h]; rfl, q⟩⟩
  cases z : atI ns i with
  | none => rw [z] at h; cases h
  | some c => rw [z] at h; cases h; exact ⟨c, rfl, q⟩
theorem atI_ex {α : Type} {a : List α} {i : Int} (h0 : 0 ≤ i) (h1 : i < a.length) : ∃ d, atI a i = some d := by
  have hl : i.toNat < a.length := by omega
  refine ⟨a[i.toNat], ?_⟩
  unfold atI ixN
  rw [if_pos h0, if_pos h1]
  simp [hl]
theorem draw_bound {u q a c k : Int} (hu : 0 ≤ u) (hu2 : u < q) (hq : q ≤ 2147483648) (ha : 0 ≤ a) (ha2 : a ≤ 1000000) (hc : 0 ≤ c) (hc2 : c ≤ 1000000) (hk : 0 ≤ k) (hk2 : k ≤ 1000000) : (u * (a + c) + k * a * a).natAbs < 18446744073709551616 := by
  have h1 : u * (a + c) ≤ 2147483648 * 2000000 := Int.mul_le_mul (by omega) (by omega) (by omega) (by omega)
  have h2 : k * a ≤ 1000000 * 1000000 := Int.mul_le_mul hk2 ha2 ha (by omega)
  have h3 : k * a * a ≤ (1000000 * 1000000) * 1000000 := Int.mul_le_mul h2 ha2 ha (by omega)
  have h4 : 0 ≤ u * (a + c) := Int.mul_nonneg hu (by omega)
  have h5 : 0 ≤ k * a * a := Int.mul_nonneg (Int.mul_nonneg hk ha) ha
  omega
theorem cmul_l {i j : Int} (h : -(2 ^ 64) < i) (h' : i < 2 ^ 64) : CMulO i j := .inl ⟨h, h'⟩
theorem cmul_r {i j : Int} (h : -(2 ^ 64) < j) (h' : j < 2 ^ 64) : CMulO i j := .inr (.inl ⟨h, h'⟩)
theorem draw_sum {x p b c d : Int} (hp : 0 < p) (hp2 : p ≤ 2147483648) (hb : 0 ≤ b) (hb2 : b ≤ 1000000) (ha : 0 ≤ c) (ha2 : c ≤ 1000000) (hd : 0 ≤ d) (hd2 : d ≤ 1000000) : (x.fmod p + b * c + d).natAbs < 18446744073709551616 := by
  have h1 := fmod_nn (i := x) hp
  have h2 := fmod_lt (i := x) hp
  have h3 : b * c ≤ 1000000 * 1000000 := Int.mul_le_mul hb2 ha2 ha (by omega)
  have h4 : 0 ≤ b * c := Int.mul_nonneg hb ha
  omega
theorem log_small {m : Int} (hm : 1 ≤ m) (hm2 : m ≤ 1000000) : m.natAbs.log2 < 9000 := by
  have : m.natAbs < 2 ^ 20 := by omega
  have := (Nat.log2_lt (by omega : m.natAbs ≠ 0)).mpr this
  omega
@[simp ↓] theorem gEqU_str (a b : Str) (k) : gEqU (.str a) (.str b) k = k (.bl (decide (a = b))) := (rfl)
@[simp ↓] theorem gNeU_str (a b : Str) (k) : gNeU (.str a) (.str b) k = k (.bl (!decide (a = b))) := (rfl)
theorem cutL_all {a : List D} {n : Nat} (h : a.length ≤ n) : cutL a none (some (n : Int)) = a := cutL_whole ⟨rfl, by rw [HT.sIx_nat]; omega⟩
theorem ix_at {a : List D} {i : Nat} {d : D} (h : a[i]? = some d) (k : D → Prop) : (∃ d', atI a (i : Int) = some d' ∧ k d') = k d := by
  rw [DL.atI_nat h]; simp
@[simp ↓] theorem ix_0 (x : D) (l : List D) (k : D → Prop) : (∃ d', atI (x :: l) 0 = some d' ∧ k d') = k x := ix_at (i := 0) rfl k
@[simp ↓] theorem ix_1 (x0 x1 : D) (l : List D) (k : D → Prop) : (∃ d', atI (x0 :: x1 :: l) 1 = some d' ∧ k d') = k x1 := ix_at (i := 1) rfl k
@[simp ↓] theorem ix_2 (x0 x1 x2 : D) (l : List D) (k : D → Prop) : (∃ d', atI (x0 :: x1 :: x2 :: l) 2 = some d' ∧ k d') = k x2 := ix_at (i := 2) rfl k
@[simp ↓] theorem ix_3 (x0 x1 x2 x3 : D) (l : List D) (k : D → Prop) : (∃ d', atI (x0 :: x1 :: x2 :: x3 :: l) 3 = some d' ∧ k d') = k x3 := ix_at (i := 3) rfl k
@[simp ↓] theorem ix_4 (x0 x1 x2 x3 x4 : D) (l : List D) (k : D → Prop) : (∃ d', atI (x0 :: x1 :: x2 :: x3 :: x4 :: l) 4 = some d' ∧ k d') = k x4 := ix_at (i := 4) rfl k
@[simp ↓] theorem ix_5 (x0 x1 x2 x3 x4 x5 : D) (l : List D) (k : D → Prop) : (∃ d', atI (x0 :: x1 :: x2 :: x3 :: x4 :: x5 :: l) 5 = some d' ∧ k d') = k x5 := ix_at (i := 5) rfl k
end DL

/-! DG0: promises of defs that know that no repr is under way (guards); their calls; the law's end. -/
namespace DL
open PySem L2
open PyProof.Rows hiding St

/-- a def's promise by positional values, where no repr is under way -/
def FnG (P : Program) (w : World) (K : PySem.W.Frag) (mg : Str → Option Value) (base : Heap) (k : Nat) (f : Addr) (sp : Sp) : Prop :=
  ∀ (A : Around) (frs_ : List PySem.Env) (s : Shared) (H : Hp) (us : List Value) (vs : List V) (Q : VK) (E : XK), Room k A → A.guards = some [] → Env0 P w K mg base A frs_ s H → Vals vs us → sp vs H Q E →
    codeAny (model P w) A (.call (.ref f) ⟨us, []⟩) (CR (L2.CX P w) frs_ P w H s Q E) s
/-- a def as it stands behind the top; dV: its defaults -/
structure FunG (K : PySem.W.Frag) (x qual : Str) (st : Stmt) (f : Addr) (fd : FuncData) : Prop where
  ex : ∃ (oc : Value) (od : Option Addr) (dV kV doc pm : Value) (an : Option Addr) (cdv ct : Value) (osl : Array (Option Value)),
    fd = PySem.W.fnOf x qual (defArgs st) (defBody st) (defScope st) dV kV doc pm an cdv ct ∧ K.lookup f = some ⟨oc, od, .func fd, osl⟩ ∧ PySem.W.codeIn K cdv qual = true
  kp : PySem.W.keepIn K (.ref f) = true
theorem funG_mk {K : PySem.W.Frag} {x qual : Str} {st : Stmt} {f : Addr} {oc : Value} {od an : Option Addr} {osl : Array (Option Value)} {dV kV doc pm cdv ct : Value} (l : K.lookup f = some ⟨oc, od, .func (PySem.W.fnOf x qual (defArgs st) (defBody st) (defScope st) dV kV doc pm an cdv ct), osl⟩)
    (c : PySem.W.codeIn K cdv qual = true) (k : PySem.W.keepIn K (.ref f) = true) : FunG K x qual st f (PySem.W.fnOf x qual (defArgs st) (defBody st) (defScope st) dV kV doc pm an cdv ct) := ⟨⟨oc, od, dV, kV, doc, pm, an, cdv, ct, osl, rfl, l, c⟩, k⟩
theorem binds_none {K : PySem.W.Frag} {fd : FuncData} {ps : List Str} (h : ∀ us : List Value, us.length = ps.length → bindArgs fd ⟨us, []⟩ = pure (ps.zip us)) : Binds K fd ps [] := .all h
/-- every parameter is given, though defaults stand -/
theorem binds_full {K : PySem.W.Frag} {fd : FuncData} {ps : List Str} {T : Addr} {o : Obj} {its : Array Value} {n : Nat} (lT : K.lookup T = some o) (oT : o.data = .seq its n)
    (h : ∀ us : List Value, us.length = ps.length → ∃ k, bindArgs fd ⟨us, []⟩ = seqItems? (.ref T) >>= k ∧ k (some its) = pure (ps.zip us)) : Binds K fd ps [] := fun s us X hl => by
  rw [List.append_nil] at hl ⊢
  obtain ⟨k, e1, e2⟩ := h us hl
  refine BindsTo.of_looks fun M => ?_
  rw [e1]
  exact looks_items X lT oT (.of_pure e2)

section
variable {P : Program} {w : World} {K : PySem.W.Frag} {mg : Str → Option Value} {base : Heap} {j k : Nat} {f : Addr} {sp sp' : Sp}
theorem FnG.mono (F : FnG P w K mg base j f sp) (h : j ≤ k) : FnG P w K mg base k f sp := fun A o s H us vs Q E r => F A o s H us vs Q E (r.mono h)
theorem FnG.imp (F : FnG P w K mg base k f sp) (h : ∀ vs H Q E, sp' vs H Q E → sp vs H Q E) : FnG P w K mg base k f sp' := fun A o s H us vs Q E r g e v q => F A o s H us vs Q E r g e v (h _ _ _ _ q)
/-- a def by its body -/
theorem fnG_of {x qual : Str} {st : Stmt} {fd : FuncData} {N ps : List Str} (F : FunG K x qual st f fd) (S : FnScope N ps (defScope st)) (B : Binds K fd ps []) (len : ∀ vs H Q E, sp vs H Q E → vs.length = ps.length)
    (body : ∀ (cdv : Value) (A : Around) (o : List PySem.Env) (s : Shared) (H : Hp) (vs : List V) (Q : VK) (E : XK), Room k (A.deeper (envOfC qual (defScope st) s.heap.objs.size f cdv)) → A.guards = some [] → sp vs H Q E →
      ∃ t, PSs (cxOf (L2.CX P w) P w K mg base N qual (defScope st) f cdv A o s H E) (defBody st) t ∧ t { nx := fun _ H' => Q .non H', rt := Q } (L2.start N vs) H) : FnG P w K mg base (k + 1) f sp := by
  intro A o s H us vs Q E room hg ev rel hsp
  have nlen := len _ _ _ _ hsp
  have here : K.In s.heap := ev.mod.kin.keeps fun b u e => (ev.bs b u e).1
  have nolim : s.heap.NoLimit := ev.mod.nolimit.keeps fun b u e => (ev.bs b u e).1
  have bnd := B s us here (by rw [List.append_nil, ← rel.length]; exact nlen)
  rw [List.append_nil] at bnd
  obtain ⟨oc, od, dV, kV, doc, pm, an, cdv, ct, osl, rfl, lk, hcd⟩ := F.ex
  have kinds : ∀ y ∈ ps.zip us, (defScope st).names.lookup y.1 = some .local ∨ ((defScope st).names.lookup y.1 = some .cell ∧ ((cellsFrom (s.heap.objs.size + 1) (defScope st).names []).lookup y.1).isSome = true) := by
    rintro ⟨n, v⟩ hy
    refine (S.par n (List.of_mem_zip hy).1).imp id fun q => ⟨q, PySem.W.cellsFrom_some _ _ _ (.inl q)⟩
  refine codeAny_call_function room.depth (here _ _ lk) rfl S.co S.gen rfl (PySem.W.codeRec_of here hcd) (bnd _ _ _ _ ?_)
  refine wpAny_newFunctionEnv_cells S.kind kinds fun env same s1 laid => ?_
  subst same
  refine ⟨nolim.keeps laid.toInCall.keep, codeAny_func ?_⟩
  obtain ⟨t, pt, ht⟩ := body cdv A o s H vs Q E (room.deeper _) hg hsp
  refine wpAny_mono (pt.run [] s1 (L2.start N vs) H _ (inv_start S room.hd ev nlen rel laid) ht) (fun fl s2 q => ?_) fun _ _ q => q
  cases fl with
  | next =>
    obtain ⟨σ2, H2, J, q⟩ := q
    exact ⟨.non, H2, J.os, J.bare, J.base, J.hok, rfl, q⟩
  | ret u =>
    obtain ⟨v, σ2, H2, J, rv, q⟩ := q
    exact ⟨v, H2, J.os, J.bare, J.base, J.hok, rv, q⟩
  | brk =>
    obtain ⟨_, _, _, q⟩ := q
    exact (show False from q).elim
  | cont =>
    obtain ⟨_, _, _, q⟩ := q
    exact (show False from q).elim
end
section
variable {X : Cx} {k : Nat} {f : Addr} {sp : Sp} {E : St → XK} {x m : Str} {p pos apos : Pos} {e o : Expr} {es : List Expr} {ta : TE} {t : TA}
/-- the callee runs -/
theorem run_G {pins : List (Addr × Obj)} {σ : St} {H : Hp} {s : Shared} {Q : VK} {us : List Value} {vs : List V} (F : FnG X.prog X.w X.K X.mg X.base k f sp) (hr : Room k X.A) (hg : X.A.guards = some []) (hx : PassesAt (L2.CX X.prog X.w) X σ (E σ))
    (I : Inv X pins σ H s) (r : Vals vs us) (h : sp vs H Q (E σ)) : codeAny (model X.prog X.w) X.A (.call (.ref f) ⟨us, []⟩) (fun r s' => match r with | .ok (.ret v) => EP X pins σ Q v s' | .ok _ => False | .error e => X.xe e s') s := by
  refine codeAny_mono (F X.A X.stack s H us vs Q (E σ) hr hg I.env0 r h) fun res s2 q => ?_
  cases res with
  | error er => exact hx pins H s er s2 I q
  | ok fl =>
    cases fl with
    | ret u => exact I.after q
    | next => exact q.elim
    | brk => exact q.elim
    | cont => exact q.elim
theorem pe_callG (F : FnG X.prog X.w X.K X.mg X.base k f sp) (hr : Room k X.A) (hgu : X.A.guards = some []) (hg : Gl X x) (hm : X.mg x = some (.ref f)) (hk : PySem.W.keepIn X.K (.ref f) = true) (hx : ∀ σ, PassesAt (L2.CX X.prog X.w) X σ (E σ))
    (ha : PA X (e :: es) t) (hdb : (x == ("__debug__" : Str)) = false := by decide) (he : starEach (e :: es) X.env = (false, eval e X.env) :: starEach es X.env := by rfl) (hpl : (backTo pos (starEach es X.env)).any (·.1) = false := by rfl) :
    PE X (.Call (.Name x p) (e :: es) [] pos) (tCallS sp E t) := ⟨fun pins s σ H Q I h =>
  wpAny_Call_Name_kw (ld_glob I hg hm (PySem.W.callWith_K (h₀ := X.base) I.ok.mod.kin hk (thn (ha.run pos pins s σ H _ I h) fun us s1 ⟨vs, H1, I1, r, q⟩ => ⟨I1.kIn, wpAny_call (run_G F hr hgu (hx σ) I1 r q)⟩) he hpl) hdb)⟩
/-- o.m(e, ..) -/
def tMethG (C : Addr) (m : Str) (sp : Sp) (E : St → XK) (ta : TE) (t : TA) : TE := fun σ H Q => ta σ H fun x H1 => ∃ a dx fs, x = .ref a ∧ H1 a = some (.ins C dx fs) ∧ fs.lookup m = none ∧ t σ H1 fun vs H2 => sp (x :: vs) H2 Q (E σ)
theorem pe_methG {C : Addr} {pl : Sem Bool} (ho : PE X o ta) (c : Cls X.K C) (hm : Meth X.K C m f) (F : FnG X.prog X.w X.K X.mg X.base k f sp) (hr : Room k X.A) (hgu : X.A.guards = some []) (hx : ∀ σ, PassesAt (L2.CX X.prog X.w) X σ (E σ)) (ha : PA X (e :: es) t)
    (hst : starEach (e :: es) X.env = (false, eval e X.env) :: starEach es X.env := by rfl) (hpl : (backTo pos (starEach es X.env)).any (·.1) = false := by rfl)
    (ht : eval (.Call (.Attribute o m apos) (e :: es) [] pos) X.env = (do
      let ov ← eval o X.env
      standAt apos.atName
      let (f, first) ← holding [ov] (getMethod ov m pl)
      callWith pos f first (backTo pos (starEach (e :: es) X.env)) (backToKw pos (keywordEach [] X.env))) := by rfl) :
    PE X (.Call (.Attribute o m apos) (e :: es) [] pos) (tMethG C m sp E ta t) := ⟨fun pins s σ H Q I h => by
  refine PySem.W.methodCall_KW (pl := pl) (thn (ho.run pins s σ H _ I h) fun ov s1 ⟨x, H1, I1, rx, a, dx, fs, ex, ea, l, q⟩ => ?_) ht
  subst ex
  have er : ov = Value.ref a := rx
  subst er
  exact getmeth_ok I1 ea c hm l (PySem.W.callWith_K (first := [.ref a]) (h₀ := X.base) I.ok.mod.kin hm.kp (thn (ha.run pos pins s1 σ H1 _ I1 q) fun us s2 ⟨vs, H2, I2, r, q2⟩ =>
    ⟨I2.kIn, wpAny_call (run_G (us := .ref a :: us) (vs := .ref a :: vs) F hr hgu (hx σ) I2 (.cons rfl r) q2)⟩) hst hpl)⟩
end
/-! ### properties, making -/
section
variable {X : Cx} {k : Nat} {f : Addr} {sp : Sp} {E : St → XK} {x m : Str} {p pos apos : Pos} {e o : Expr} {es : List Expr} {ta : TE} {t : TA} {C : Addr}
def tMakeG (C : Addr) (sp : Sp) (E : St → XK) (t : TA) : TE := fun σ H Q => t σ H fun vs H1 => ∀ x dx, H1 x = none → H1 dx = none → dx ≠ x → sp (.ref x :: vs) (upd (upd H1 dx (.own x)) x (.ins C dx [])) (fun v H2 => v = .non ∧ Q (.ref x) H2) (E σ)
theorem run_makeG {pins : List (Addr × Obj)} {σ : St} {H : Hp} {s : Shared} {Q : VK} {us : List Value} {vs : List V} (M : Mk X.K C f) (F : FnG X.prog X.w X.K X.mg X.base k f sp) (hr : Room (k + 1) X.A) (hgu : X.A.guards = some []) (hx : ∀ σ, PassesAt (L2.CX X.prog X.w) X σ (E σ)) (I : Inv X pins σ H s) (r : Vals vs us)
    (h : ∀ x dx, H x = none → H dx = none → dx ≠ x → sp (.ref x :: vs) (upd (upd H dx (.own x)) x (.ins C dx [])) (fun v H2 => v = .non ∧ Q (.ref x) H2) (E σ)) :
    wpAny (model X.prog X.w) X.A (call (.ref C) us) (EP X pins σ Q) X.xe s := by
  let n := s.heap.objs.size
  have I2 := Inv.made (C := C) I
  have hq := h (n + 1) n (I.hok.fresh (Nat.le_succ _)) (I.hok.fresh (Nat.le_refl _)) (Nat.ne_of_lt (Nat.lt_succ_self _))
  have r2 : Vals (.ref (n + 1) :: vs) (Value.ref (n + 1) :: us) := .cons rfl r
  refine wpAny_call (make_map (f := f) I.kIn M.makes M.init (beq_iff_eq.mp M.fn) (codeAny_mono (F _ X.stack _ _ (Value.ref (n + 1) :: us) _ _ (E σ) (hr.make C us []) ?_ (I2.env0.make C us []) r2 hq) fun res s2 q => ?_))
  · show pushGuards (Code.builtin "type.__call__" ⟨.ref C :: us, []⟩).guards X.A.guards = some []
    rw [hgu]
    rfl
  cases res with
  | error er => exact hx σ pins _ _ er s2 I2 q
  | ok fl =>
    cases fl with
    | ret u =>
      obtain ⟨v, H3, I3, rv, ev, q3⟩ := I2.after q
      subst ev
      exact ⟨rv, ⟨.ref (n + 1), H3, I3, rfl, q3⟩⟩
    | next => exact q.elim
    | brk => exact q.elim
    | cont => exact q.elim
theorem pe_makeG (M : Mk X.K C f) (F : FnG X.prog X.w X.K X.mg X.base k f sp) (hr : Room (k + 1) X.A) (hgu : X.A.guards = some []) (hg : Gl X x) (hm : X.mg x = some (.ref C)) (hx : ∀ σ, PassesAt (L2.CX X.prog X.w) X σ (E σ)) (ha : PA X (e :: es) t)
    (hdb : (x == ("__debug__" : Str)) = false := by decide) (he : starEach (e :: es) X.env = (false, eval e X.env) :: starEach es X.env := by rfl) (hpl : (backTo pos (starEach es X.env)).any (·.1) = false := by rfl) :
    PE X (.Call (.Name x p) (e :: es) [] pos) (tMakeG C sp E t) := ⟨fun pins s σ H Q I h =>
  wpAny_Call_Name_kw (ld_glob I hg hm (PySem.W.callWith_K (h₀ := X.base) I.ok.mod.kin M.kp (thn (ha.run pos pins s σ H _ I h) fun us s1 ⟨vs, H1, I1, r, q⟩ => ⟨I1.kIn, run_makeG M F hr hgu hx I1 r q⟩) he hpl) hdb)⟩
end
section
variable {X : Cx} {k : Nat} {C p g a dx : Addr} {fs : List (Str × V)} {f : Str} {sp : Sp} {e : Expr} {pos : Pos} {ta : TE}
/-- e.f, f a property: nothing is raised in it -/
def tPropG (C : Addr) (sp : Sp) (ta : TE) : TE := fun σ H Q => ta σ H fun x H1 => ∃ a dx fs, x = .ref a ∧ H1 a = some (.ins C dx fs) ∧ sp [.ref a] H1 Q fun _ _ _ => False
theorem propG_ok {pins : List (Addr × Obj)} {σ : St} {H : Hp} {s : Shared} {Q : VK} {b : Bool} {E' : Value → Shared → Prop} (I : Inv X pins σ H s) (ea : H a = some (.ins C dx fs)) (c : Cls X.K C) (hp : PropOf X.K C f p g)
    (F : FnG X.prog X.w X.K X.mg X.base k g sp) (hr : Room (k + 1) X.A) (hgu : X.A.guards = some []) (h : sp [.ref a] H Q fun _ _ _ => False) : wpAny (model X.prog X.w) X.A (getAttr (.ref a) f b) (EP X pins σ Q) E' s := by
  obtain ⟨mA, O, _, _, _, _⟩ := ins_get I.hok ea
  obtain ⟨od, J, _⟩ := O.look
  obtain ⟨rest, rc⟩ := hp.rec_
  have known : (PySem.W.clsIn X.K C).isSome = true := by
    obtain ⟨cd, z, _⟩ := PySem.W.any_some c.hd
    rw [z]; rfl
  have I1 := I.tok (s.toks + 1)
  have gp := PySem.W.plainGet_of (c.get f)
  refine PySem.W.get_bind I.kIn J gp.1 (PySem.W.findObj_data known hp.at_ hp.get hp.tak) gp.2 (wpAny_call (PySem.W.prop_get (s := { s with toks := s.toks + 1 }) I.kIn rc (codeAny_mono (F X.A.in1 X.stack { s with toks := s.toks + 1 } H [.ref a] [.ref a] Q _ hr.in1 hgu I1.env0.in1 (.cons rfl .nil) h) fun res s2 q => ?_)))
  cases res with
  | error er => exact (cx_no q).elim
  | ok fl =>
    cases fl with
    | ret u =>
      obtain ⟨v, H3, I3, rv, q3⟩ := I1.after q
      show wpAny _ _ (handedOut u) _ _ _
      rw [PySem.W.handedOut_of (handed_of rv)]
      exact wpAny_pure ⟨v, H3, I3, rv, q3⟩
    | next => exact q.elim
    | brk => exact q.elim
    | cont => exact q.elim
theorem pe_propG (he : PE X e ta) (c : Cls X.K C) (hp : PropOf X.K C f p g) (F : FnG X.prog X.w X.K X.mg X.base k g sp) (hr : Room (k + 1) X.A) (hgu : X.A.guards = some [])
    (hab : attributeBase e f X.env (eval e X.env) = eval e X.env) : PE X (.Attribute e f pos) (tPropG C sp ta) := ⟨fun pins s σ H Q I h =>
  attr_of hab (thn (he.run pins s σ H _ I h) fun u s1 ⟨x, H1, I1, rx, a, dx, fs, ex, ea, q⟩ => by
    subst ex
    have er : u = Value.ref a := rx
    subst er
    exact propG_ok I1 ea c hp F hr hgu q)⟩
end

end DL

/-! DG1: defs and calls over data, with guards; repr; instances. -/
namespace DL
open PySem L2
open PyProof.Rows hiding St

section
variable {X : Cx} {Wx : WX} {P I J J1 : List Nat} {e a b c : Expr} {es : List Expr} {F : FE} {A : Env → (Env → Env → Prop) → XP → Prop} {sl : List (Option Nat)} {pos p : Pos} {k n : Nat} {f : Addr} {G : DFn} {x : Str} {io : List Nat} {tA : TA}
theorem de_callG (Fn : FnG X.prog X.w X.K X.mg X.base k f (spD X.K n io G)) (hr : Room k X.A) (hgu : X.A.guards = some []) (hm : X.mg x = some (.ref f)) (hk : PySem.W.keepIn X.K (.ref f) = true) (tk : Takes X Wx)
    (ha : DO X Wx P I (e :: es) tA A sl J) (hio : ioOf 0 sl = io := by decide) (hsl : ∀ j ∈ slots sl, j ∈ P ∨ j ∈ J := by decide) (nd : (slots sl).Nodup := by decide) (hPJ : ∀ j ∈ J, j ∉ P := by decide) (hn : sl.length = n := by decide)
    (hg : Gl X x := by rfl) (hdb : (x == ("__debug__" : Str)) = false := by decide) (he : starEach (e :: es) X.env = (false, eval e X.env) :: starEach es X.env := by rfl) (hpl : (backTo pos (starEach es X.env)).any (·.1) = false := by rfl) :
    DE X Wx P I (.Call (.Name x p) (e :: es) [] pos) (tCallS (spD X.K n io G) (WE Wx) tA) (fCall G sl A) J := by
  obtain ⟨pa, ka⟩ := ha
  exact de_of (pe_callG Fn hr hgu hg hm hk (fun σ => passAt tk σ) pa hdb he hpl) (call_core tk hio hsl nd hPJ hn ka)
theorem dn_callG (Fn : FnG X.prog X.w X.K X.mg X.base k f (spN X.K n io G)) (hr : Room k X.A) (hgu : X.A.guards = some []) (hm : X.mg x = some (.ref f)) (hk : PySem.W.keepIn X.K (.ref f) = true) (tk : Takes X Wx)
    (ha : DO X Wx P I (e :: es) tA A sl J) (hio : ioOf 0 sl = io := by decide) (hsl : ∀ j ∈ slots sl, j ∈ P ∨ j ∈ J := by decide) (nd : (slots sl).Nodup := by decide) (hPJ : ∀ j ∈ J, j ∉ P := by decide) (hn : sl.length = n := by decide)
    (hg : Gl X x := by rfl) (hdb : (x == ("__debug__" : Str)) = false := by decide) (he : starEach (e :: es) X.env = (false, eval e X.env) :: starEach es X.env := by rfl) (hpl : (backTo pos (starEach es X.env)).any (·.1) = false := by rfl) :
    DNw X Wx P I (.Call (.Name x p) (e :: es) [] pos) (tCallS (spN X.K n io G) (WE Wx) tA) (fCall G sl A) J := by
  obtain ⟨pa, ka⟩ := ha
  exact ⟨pe_callG Fn hr hgu hg hm hk (fun σ => passAt tk σ) pa hdb he hpl, calln_core tk hio hsl nd hPJ hn ka⟩
end

section
variable {P : Program} {w : World} {K : PySem.W.Frag} {mg : Str → Option Value} {base : Heap}
theorem okG_of {x qual : Str} {st : Stmt} {f : Addr} {fd : FuncData} {N ps : List Str} {k n : Nat} {io : List Nat} {J : List Nat} {G : DFn} {Fd : FS} (F : FunG K x qual st f fd) (B : Binds K fd ps []) (S : FnScope N ps (defScope st)) (hn : ps.length = n)
    (hb : ∀ (cdv : Value) (A : Around) (outer : List PySem.Env) (s : Shared) (H : Hp) (E : XK), Room k (A.deeper (envOfC qual (defScope st) s.heap.objs.size f cdv)) → A.guards = some [] →
      DSs (cxOf (L2.CX P w) P w K mg base N qual (defScope st) f cdv A outer s H E) (WofE E) io [] [] (defBody st) Fd J)
    (hg : ∀ (ρ : DL.Env) (post : Post) (xp : XP), ρ.length = n → G ρ post xp → Fd (ρ ++ List.replicate (N.length - n) none) (endS io n post xp)) : FnG P w K mg base (k + 1) f (spD K n io G) := by
  refine fnG_of F S B (fun vs H Q E h => h.1.trans hn.symm) fun cdv A outer s H vs Q E hr gu h => ?_
  obtain ⟨hl, ρ, Hb, post, xp, E0, g, q1, q2⟩ := h
  obtain ⟨t, pt, kt⟩ := (hb cdv A outer s H E hr gu).run
  refine ⟨t, pt, ?_⟩
  have hρ : ρ.length = n := by rw [← E0.len, List.length_map, hl]
  have e1 : L2.start N vs = vs.map some ++ List.replicate (N.length - n) none := by unfold L2.start; rw [hl]
  rw [e1]
  refine kt ⟨Hb, H, lentAt io vs ρ H, rootAt io vs⟩ _ _ Hb H _ _ E0.entry (hg ρ post xp hρ g) ⟨fun ρ' σ' Hb' H' a E' s' => ?_, fun d ρ' σ' v Hb' H' a E' is => ?_, fun _ _ _ _ a => a.elim, fun _ _ _ _ a => a.elim, fun c ρ' cls dx σ' Hb' H' a E' xi => ?_⟩
  · exact q1 _ _ _ _ _ a (E'.masked hl) .non
  · exact q1 _ _ _ _ _ a (E'.masked hl) is
  · exact q2 _ _ _ _ _ _ a (E'.masked hl) xi
theorem okNG_of {x qual : Str} {st : Stmt} {f : Addr} {fd : FuncData} {N ps : List Str} {k n : Nat} {e : Expr} {pos : Pos} {G : DFn} {Fd : FE} (F : FunG K x qual st f fd) (B : Binds K fd ps []) (S : FnScope N ps (defScope st)) (hn : ps.length = n)
    (hbody : defBody st = [.Return (some e) pos])
    (hb : ∀ (cdv : Value) (A : Around) (outer : List PySem.Env) (s : Shared) (H : Hp) (E : XK), Room k (A.deeper (envOfC qual (defScope st) s.heap.objs.size f cdv)) → A.guards = some [] →
      ∃ t, DNw (cxOf (L2.CX P w) P w K mg base N qual (defScope st) f cdv A outer s H E) (WofE E) [] [] e t Fd [])
    (hg : ∀ (ρ : DL.Env) (post : Post) (xp : XP), ρ.length = n → G ρ post xp → Fd (ρ ++ List.replicate (N.length - n) none) (fun d ρ' => post d (maskF [] 0 n ρ')) fun c ρ' => xp c (maskF [] 0 n ρ')) : FnG P w K mg base (k + 1) f (spN K n [] G) := by
  refine fnG_of F S B (fun vs H Q E h => h.1.trans hn.symm) fun cdv A outer s H vs Q E hr gu h => ?_
  obtain ⟨hl, ρ, Hb, post, xp, E0, g, q1, q2⟩ := h
  obtain ⟨te, ht⟩ := hb cdv A outer s H E hr gu
  rw [hbody]
  refine ⟨_, pss_one (ps_ret ht.pe), ?_⟩
  have hρ : ρ.length = n := by rw [← E0.len, List.length_map, hl]
  have e1 : L2.start N vs = vs.map some ++ List.replicate (N.length - n) none := by unfold L2.start; rw [hl]
  rw [e1]
  refine ht.ev ⟨Hb, H, lentAt [] vs ρ H, rootAt [] vs⟩ _ _ Hb H _ _ _ E0.entry (hg ρ post xp hρ g) (fun c ρ' cls dx Hb' H' a E' xi => q2 _ _ _ _ _ _ a (E'.masked hl) xi) fun d ρ' p Hb' H' a E' s' nw => ?_
  exact q1 _ _ _ _ _ a (E'.masked hl) ⟨nw.cell, nw.nbF, fun i di q a hi => by rcases hi with hi | hi <;> cases hi⟩
theorem okG_law {k : Nat} {f : Addr} {G : DFn} (F : FnG P w K mg base k f (spD K 1 [] G))
    (h : ∀ ns : List Int, ns.length ≤ 63 → G [some (.slst (ns.map D.int))] (fun d _ => d = .bl true) fun _ _ => False) : FnG P w K mg base k f (spLaw K) :=
  F.imp fun vs H Q E ⟨a, ns, e, hs, hl, ht, q⟩ => by
    subst e
    refine ⟨rfl, [some (.slst (ns.map D.int))], noTab H, _, _, ⟨noTab_sub _, Stp.refl _ _ _ _, rfl, fun i d g _ _ => ?_, fun i d hi _ => ?_, fun i j p q di dj a hi => ?_, ht.ok⟩, h ns hl, fun d ρ' v Hb' H' e _ is => ?_, fun _ _ _ _ _ _ z => z.elim⟩
    · match i, g with
      | 0, g =>
        cases g
        exact ⟨_, rfl, .slst (noTab_sqL hs) (isL_ints ns)⟩
      | i + 1, g => simp [get] at g
    · rcases hi with hi | hi <;> cases hi
    · rcases hi with hi | hi <;> cases hi
    · subst e
      rw [is_bl is]
      exact q _
end

/-! ### repr of plain data -/
section
variable {X : Cx} {K : PySem.W.Frag}
theorem call_reprD (hgu : X.A.guards = some []) (hu : X.A.units + 65 < cLine) : CallR X (.builtin "repr") (fun xs H Q => ∃ v d, xs = [v] ∧ Dp X.K H v d ∧ d.showable = true ∧ d.hasDict = false ∧ d.depth ≤ 60 ∧ d.shown.length ≤ sizeLine ∧ Q (.str d.shown) H) := by
  intro pins s σ H xs us Q I r h
  obtain ⟨v, d, rfl, hd, hs, nd, dp, hz, q⟩ := h
  obtain ⟨u, rfl, e⟩ := vals1 r
  have fin : ∀ (h' : Heap) (u : Tok) (tk : Nat), (∀ b o, s.heap.get? b = some o → h'.get? b = some o) → EP X pins σ Q (.str d.shown u) { s with heap := h', toks := tk } := fun h' u tk hk => ⟨.str d.shown, H, I.kept (t' := tk) hk, ⟨u, rfl⟩, q⟩
  obtain ⟨as, rd⟩ := Dp.reads I d v u hd e
  cases hd with
  | non =>
    cases (show u = Value.none from e)
    exact PySem.P.repr_of_none ⟨.str _, H, I.tok _, ⟨_, rfl⟩, q⟩
  | bl b =>
    cases (show u = Value.bool b from e)
    exact PySem.P.repr_of_bool ⟨.str _, H, I.tok _, ⟨_, rfl⟩, q⟩
  | int i =>
    obtain ⟨t, rfl⟩ := e
    exact PySem.P.repr_of_int (by simpa [PyData.showable] using hs) ⟨.str _, H, I.tok _, ⟨_, rfl⟩, q⟩
  | str x =>
    obtain ⟨t, rfl⟩ := e
    exact PySem.P.repr_of_str ⟨.str _, H, I.tok _, ⟨_, rfl⟩, q⟩ hz
  | lst hl l =>
    cases (show u = Value.ref _ from e)
    exact repr_of_reads' rd hs (PyData.noDict_hsm nd) hgu (by omega) (fun _ _ e => e) (fun h' u tk hk => fin h' u tk hk) hz
  | tup hl l =>
    cases (show u = Value.ref _ from e)
    exact repr_of_reads' rd hs (PyData.noDict_hsm nd) hgu (by omega) (fun _ _ e => e) (fun h' u tk hk => fin h' u tk hk) hz
def gRepr : GN
  | [d], k => ∃ z, pd d = some z ∧ z.showable = true ∧ z.hasDict = false ∧ z.depth ≤ 60 ∧ z.shown.length ≤ 1000000 ∧ k (.str z.shown)
  | _, _ => False
theorem rv_repr : RVN K (fun xs H Q => ∃ v d, xs = [v] ∧ Dp K H v d ∧ d.showable = true ∧ d.hasDict = false ∧ d.depth ≤ 60 ∧ d.shown.length ≤ sizeLine ∧ Q (.str d.shown) H) gRepr := fun Hb H xs ds k Q s l g q => by
  unfold gRepr at g
  split at g
  · obtain ⟨z, e, h1, h2, h3, h4, g⟩ := g
    obtain ⟨v, rfl, i⟩ := o_one l
    exact ⟨v, z, rfl, (i.is s).dp e, h1, h2, h3, Nat.le_trans h4 (by decide), q _ _ _ _ g .refl (.str _)⟩
  · exact g.elim
end
end DL

/-! DG2: instances over data. -/
namespace DL
open PySem L2
open PyProof.Rows hiding St

/-! ### fields -/
section
variable {K : PySem.W.Frag} {Hb H : Hp}
theorem o_obj (s : Sub Hb H) {v : V} {n : Str} {fs : List (Str × D)} (h : IsO K Hb H v (.obj n fs)) : ∃ (a C dx : Addr) (vs : List (Str × V)), v = .ref a ∧ IsCl K n C ∧ H a = some (.ins C dx vs) ∧ vs.map (·.1) = fs.map (·.1) ∧ IsL K Hb (vs.map (·.2)) (fs.map (·.2)) := by
  rcases h with h | ⟨p, rfl, C, dx, vs, c, h, e, l⟩
  · cases h with
    | obj c h e l => exact ⟨_, _, _, _, rfl, c, s.at h, e, l⟩
  · exact ⟨p, C, dx, vs, rfl, c, h, e, l⟩
theorem look_is {f : Str} {d : D} : ∀ {vs : List (Str × V)} {fs : List (Str × D)}, vs.map (·.1) = fs.map (·.1) → IsL K H (vs.map (·.2)) (fs.map (·.2)) → fs.lookup f = some d → ∃ v, vs.lookup f = some v ∧ Is K H v d
  | [], [], _, _, h => by cases h
  | v :: vs, x :: fs, e, l, h => by
    simp only [List.map_cons, List.cons.injEq] at e
    rw [List.map_cons, List.map_cons] at l
    cases l with
    | cons a l =>
      rw [show x = (x.1, x.2) from rfl, List.lookup_cons] at h
      rw [show v = (v.1, v.2) from rfl, List.lookup_cons, e.1]
      split at h
      · rename_i z
        cases h
        exact ⟨_, rfl, a⟩
      · rename_i z
        obtain ⟨w, hw, iw⟩ := look_is e.2 l h
        exact ⟨w, hw, iw⟩
  | [], _ :: _, e, _, _ => by simp at e
  | _ :: _, [], e, _, _ => by simp at e
theorem look_none {f : Str} : ∀ {vs : List (Str × V)} {fs : List (Str × D)}, vs.map (·.1) = fs.map (·.1) → fs.lookup f = none → vs.lookup f = none
  | [], [], _, _ => rfl
  | v :: vs, x :: fs, e, h => by
    simp only [List.map_cons, List.cons.injEq] at e
    rw [show x = (x.1, x.2) from rfl, List.lookup_cons] at h
    rw [show v = (v.1, v.2) from rfl, List.lookup_cons, e.1]
    split at h
    · cases h
    · rename_i z
      exact look_none e.2 h
  | [], _ :: _, e, _ => by simp at e
  | _ :: _, [], e, _ => by simp at e
@[simp] def putFd (f : Str) (d : D) : List (Str × D) → List (Str × D)
  | [] => [(f, d)]
  | (g, x) :: r => if g = f then (g, d) :: r else (g, x) :: putFd f d r
theorem putF_is {f : Str} {v : V} {d : D} (i : Is K H v d) : ∀ {vs : List (Str × V)} {fs : List (Str × D)}, vs.map (·.1) = fs.map (·.1) → IsL K H (vs.map (·.2)) (fs.map (·.2)) → (putF f v vs).map (·.1) = (putFd f d fs).map (·.1) ∧ IsL K H ((putF f v vs).map (·.2)) ((putFd f d fs).map (·.2))
  | [], [], _, _ => ⟨rfl, .cons i .nil⟩
  | (g, x) :: vs, (g', y) :: fs, e, l => by
    simp only [List.map_cons, List.cons.injEq] at e
    rw [List.map_cons, List.map_cons] at l
    obtain ⟨e1, e2⟩ := e
    subst e1
    cases l with
    | cons a l =>
      obtain ⟨r1, r2⟩ := putF_is i e2 l
      unfold putF putFd
      by_cases h : g = f
      · rw [if_pos h, if_pos h]
        exact ⟨by simp [e2], .cons i l⟩
      · rw [if_neg h, if_neg h]
        exact ⟨by simp [r1], .cons a r2⟩
  | [], _ :: _, e, _ => by simp at e
  | _ :: _, [], e, _ => by simp at e
end
def gFld (n f : Str) : G1
  | .obj m fs, k => m = n ∧ ∃ x, fs.lookup f = some x ∧ k x
  | _, _ => False
@[simp ↓] theorem gFld_obj (n f m : Str) (fs : List (Str × D)) (k) : gFld n f (.obj m fs) k = (m = n ∧ ∃ x, fs.lookup f = some x ∧ k x) := (rfl)
section
variable {X : Cx} {Wx : WX} {P L I J J1 J2 : List Nat} {e a b c o value : Expr} {es : List Expr} {F Fo : FE} {A : FA} {B : Env → (Env → Env → Prop) → XP → Prop} {sl : List (Option Nat)} {pos pos' p apos : Pos} {k : Nat} {f : Addr} {G : DFn} {x m : Str} {io : List Nat} {ta tv : TE} {tA : TA} {C : Addr}
theorem de_fld (n : Str) (hc : IsCl X.K n C) (cl : Cls X.K C) (na : NoAttr X.K C m) (ha : DEo X Wx P I e ta F J) (hb : attributeBase e m X.env (eval e X.env) = eval e X.env := by rfl) : DE X Wx P I (.Attribute e m pos) (tFld X.K ta m) (fUn (gFld n m) F) J := by
  obtain ⟨pa, ka⟩ := ha
  refine de_of (pe_fld pa hb) fun W ρ σ Hb H Q post xp E f x q => ka W ρ σ Hb H _ _ xp E f x fun d ρ1 v Hb1 H1 f1 E1 s1 i1 => ?_
  cases d <;> first | exact f1.elim | skip
  obtain ⟨e0, d, hd, f1⟩ := f1
  subst e0
  obtain ⟨a, C', dx, vs, rfl, hc', hh, e1, l1⟩ := o_obj E1.sub i1
  obtain rfl := hc.eq hc'
  obtain ⟨w, hw, iw⟩ := look_is e1 l1 hd
  exact ⟨a, C, dx, vs, w, rfl, hh, cl, na, hw, q _ _ _ _ _ f1 E1 s1 iw⟩
/-- self.m = value, self a slot's own instance -/
def fPutF (i : Nat) (n m : Str) (F : FE) : FS := fun ρ S => F ρ (fun d ρ1 => ∃ fs, get ρ1 i = some (.obj n fs) ∧ fs.length < 1000 ∧ S.nx (put ρ1 i (some (.obj n (putFd m d fs))))) S.ex
@[simp ↓] theorem fPutF_ap (i : Nat) (n m : Str) (F : FE) (ρ : Env) (S : SPo) : fPutF i n m F ρ S = (F ρ (fun d ρ1 => ∃ fs, get ρ1 i = some (.obj n fs) ∧ fs.length < 1000 ∧ S.nx (put ρ1 i (some (.obj n (putFd m d fs))))) S.ex) := (rfl)
theorem ds_fld (i : Nat) (n : Str) {y : Str} (hc : IsCl X.K n C) (cl : Cls X.K C) (na : NoAttr X.K C m) (hv : DE X Wx P I value tv F J) (hj : i ∈ P ∨ i ∈ J := by decide) (hN : X.N[i]? = some y := by rfl) (hvx : Vis X.env.scope y := by first | exact Or.inl rfl | exact Or.inr (Or.inl rfl) | exact Or.inr (Or.inr rfl)) (hd : (y == ("__debug__" : Str)) = false := by decide)
    (hcd : (y == ("__classdict__" : Str)) = false := by decide) (hs : swapsWith value (some (.Attribute (.Name y p) m pos')) pos.line X.env = pure false := by rfl) :
    DS X Wx P L I (.Assign [.Attribute (.Name y p) m pos'] value pos) (fPutF i n m F) J := by
  obtain ⟨p1, k1⟩ := hv
  refine ⟨_, ps_fld (pe_var hN hvx hd hcd) p1 hs, fun W ρ σ Hb H D S E f q => k1 W ρ σ Hb H _ _ _ E f (q.xok σ) fun z ρ1 v Hb1 H1 f1 E1 s1 i1 => ?_⟩
  obtain ⟨fs, g, hl, f1⟩ := f1
  obtain ⟨a, ea, nb, ⟨C', dx, vs, hc', hh, e1, l1⟩, _, _⟩ := E1.cel i _ hj g
  obtain rfl := hc.eq hc'
  obtain ⟨r1, r2⟩ := putF_is (f := m) i1 e1 l1
  have lz : vs.length = fs.length := by
    have := congrArg List.length e1
    simpa using this
  exact ⟨_, ea, a, C, dx, vs, rfl, hh, cl, na, by rw [lz]; exact hl, q.nx _ _ _ _ f1 (E1.write hj g ea ⟨C, dx, _, hc, upd_same, r1, r2⟩) s1⟩
/-! ### methods, properties -/
def tSelf (C : Addr) (m : Str) (ta : TE) (t : TA) : TA := fun σ H Q => ta σ H fun x H1 => ∃ a dx fs, x = .ref a ∧ H1 a = some (.ins C dx fs) ∧ fs.lookup m = none ∧ t σ H1 fun vs H2 => Q (x :: vs) H2
def isObj (n : Str) (d : D) : Prop := ∃ fs, d = .obj n fs
def isObjM (n m : Str) (d : D) : Prop := ∃ fs, d = .obj n fs ∧ fs.lookup m = none
@[simp] theorem isObj_obj (n m : Str) (fs : List (Str × D)) : isObj n (.obj m fs) = (m = n) := propext ⟨fun ⟨_, e⟩ => by cases e; rfl, fun e => ⟨fs, by rw [e]⟩⟩
@[simp] theorem isObjM_obj (n m k : Str) (fs : List (Str × D)) : isObjM n m (.obj k fs) = (k = n ∧ fs.lookup m = none) := propext ⟨fun ⟨_, e, l⟩ => by cases e; exact ⟨rfl, l⟩, fun ⟨e, l⟩ => ⟨fs, by rw [e], l⟩⟩
def oSelf (n m : Str) (Fo : FE) (B : Env → (Env → Env → Prop) → XP → Prop) : Env → (Env → Env → Prop) → XP → Prop := fun ρ post xp => Fo ρ (fun d ρ1 => isObjM n m d ∧ B ρ1 (fun ds ρ2 => post (some d :: ds) ρ2) xp) xp
@[simp ↓] theorem oSelf_ap (n m : Str) (Fo : FE) (B : Env → (Env → Env → Prop) → XP → Prop) (ρ : Env) (post : Env → Env → Prop) (xp : XP) : oSelf n m Fo B ρ post xp = (Fo ρ (fun d ρ1 => isObjM n m d ∧ B ρ1 (fun ds ρ2 => post (some d :: ds) ρ2) xp) xp) := (rfl)
theorem self_ev {n : Str} (hc : IsCl X.K n C) (ho : DE X Wx P I o ta Fo J1) (hb : DO X Wx P J1 es tA B sl J) : ∀ (W : Wd) (ρ : Env) (σ : St) (Hb H : Hp) (Q : List V → Hp → Prop) (post : Env → Env → Prop) (xp : XP), EnvOk X.K W P I ρ σ Hb H → oSelf n m Fo B ρ post xp → XOk X Wx W P σ xp →
    (∀ ds ρ' vs Hb' H', post ds ρ' → EnvOk X.K W P J ρ' σ Hb' H' → Sub Hb Hb' → Args X.K Hb' σ (none :: sl) vs ds → Q vs H') → tSelf C m ta tA σ H Q := by
  intro W ρ σ Hb H Q post xp E f x q
  refine ho.ev W ρ σ Hb H _ _ xp E f x fun d ρ1 v Hb1 H1 f1 E1 s1 i1 => ?_
  obtain ⟨⟨fs, e, hl⟩, f1⟩ := f1
  subst e
  obtain ⟨a, C', dx, vs, rfl, hc', hh, e1, l1⟩ := o_obj E1.sub (.inl i1)
  obtain rfl := hc.eq hc'
  exact ⟨a, dx, vs, rfl, hh, look_none e1 hl, hb.ev W ρ1 σ Hb1 H1 _ _ xp E1 f1 x fun ds ρ2 us Hb2 H2 f2 E2 s2 i2 => q _ _ _ _ _ f2 E2 (s1.trans s2) ⟨⟨_, rfl, i1.mono s2⟩, i2⟩⟩
theorem de_methG {nn : Nat} {n : Str} {pl : Sem Bool} (hc : IsCl X.K n C) (cl : Cls X.K C) (hm : Meth X.K C m f) (Fn : FnG X.prog X.w X.K X.mg X.base k f (spD X.K nn io G)) (hr : Room k X.A) (hgu : X.A.guards = some []) (tk : Takes X Wx)
    (ho : DE X Wx P I o ta Fo J1) (hb : DO X Wx P J1 (e :: es) tA B sl J) (hio : ioOf 0 (none :: sl) = io := by decide) (hsl : ∀ j ∈ slots (none :: sl), j ∈ P ∨ j ∈ J := by decide) (nd : (slots (none :: sl)).Nodup := by decide) (hPJ : ∀ j ∈ J, j ∉ P := by decide) (hn : (none :: sl).length = nn := by decide)
    (hst : starEach (e :: es) X.env = (false, eval e X.env) :: starEach es X.env := by rfl) (hpl : (backTo pos (starEach es X.env)).any (·.1) = false := by rfl)
    (ht : eval (.Call (.Attribute o m apos) (e :: es) [] pos) X.env = (do
      let ov ← eval o X.env
      standAt apos.atName
      let (f, first) ← holding [ov] (getMethod ov m pl)
      callWith pos f first (backTo pos (starEach (e :: es) X.env)) (backToKw pos (keywordEach [] X.env))) := by rfl) :
    DE X Wx P I (.Call (.Attribute o m apos) (e :: es) [] pos) (tMethG C m (spD X.K nn io G) (WE Wx) ta tA) (fCall G (none :: sl) (oSelf n m Fo B)) J :=
  de_of (pe_methG ho.pe cl hm Fn hr hgu (fun σ => passAt tk σ) hb.pe hst hpl ht) (call_core (t := tSelf C m ta tA) tk hio hsl nd hPJ hn (self_ev hc ho hb))
/-- a property: nothing is raised in it -/
def fProp (n : Str) (G : DFn) (F : FE) : FE := fun ρ post xp => F ρ (fun d ρ1 => isObj n d ∧ callD G [some d] (fun z _ => post z ρ1) noX .mk) xp
@[simp ↓] theorem fProp_ap (n : Str) (G : DFn) (F : FE) (ρ : Env) (post : Post) (xp : XP) : fProp n G F ρ post xp = (F ρ (fun d ρ1 => isObj n d ∧ callD G [some d] (fun z _ => post z ρ1) noX .mk) xp) := (rfl)
theorem de_propG {n : Str} {g q : Addr} (hc : IsCl X.K n C) (cl : Cls X.K C) (hp : PropOf X.K C m q g) (Fn : FnG X.prog X.w X.K X.mg X.base k g (spD X.K 1 [] G)) (hr : Room (k + 1) X.A) (hgu : X.A.guards = some [])
    (ho : DE X Wx P I o ta Fo J) (hab : attributeBase o m X.env (eval o X.env) = eval o X.env := by rfl) : DE X Wx P I (.Attribute o m pos) (tPropG C (spD X.K 1 [] G) ta) (fProp n G Fo) J := by
  refine de_of (pe_propG ho.pe cl hp Fn hr hgu hab) fun W ρ σ Hb H Q post xp E f x q => ho.ev W ρ σ Hb H _ _ xp E f x fun d ρ1 v Hb1 H1 f1 E1 s1 i1 => ?_
  obtain ⟨⟨fs, e⟩, f1⟩ := f1
  subst e
  obtain ⟨a, C', dx, vs, rfl, hc', hh, e1, l1⟩ := o_obj E1.sub (.inl i1)
  obtain rfl := hc.eq hc'
  have ar : Args X.K Hb1 σ [none] [V.ref a] [some (.obj n fs)] := ⟨⟨_, rfl, i1⟩, trivial⟩
  have hsl : ∀ j ∈ slots [none], j ∈ P ∨ j ∈ J := fun j h => by simp [slots] at h
  have hl : ∀ j ∈ slots [none], get ρ1 j ≠ none := fun j h => by simp [slots] at h
  refine ⟨a, dx, vs, rfl, hh, rfl, [some (.obj n fs)], Hb1, _, _, E1.lend ar hsl (by simp [slots]) hl, f1, fun d ρ' v Hb' H' p1 E2 is => ?_, fun c ρ' cls dx Hb' H' p1 => p1.elim⟩
  have E3 := E1.given ar hsl (by simp [slots]) hl E2 rfl
  have eu : unfill [none] ρ' ρ1 = ρ1 := by cases ρ' <;> rfl
  rw [eu] at E3
  exact q _ _ _ _ _ p1 E3 (s1.trans E2.stp.hb) is
end
section
variable {K : PySem.W.Frag} {W : Wd} {P J : List Nat} {ρ : Env} {σ : St} {Hb H : Hp} {n : Str} {C x dx : Addr} {vs : List V} {ds : List D}
theorem get_map_some : ∀ {ds : List D} {i : Nat} {d : D}, get (ds.map some) i = some d → ds[i]? = some d
  | [], _, _, h => by simp [get] at h
  | x :: r, 0, d, h => by simpa [get] using h
  | x :: r, i + 1, d, h => by
    have := get_map_some (ds := r) (i := i) (d := d) (by simpa [get] using h)
    simpa using this
theorem made_env (E : EnvOk K W P J ρ σ Hb H) (hc : IsCl K n C) (nx : H x = none) (nd : H dx = none) (ne : dx ≠ x) (l : IsL K Hb vs ds) :
    EnvOk K ⟨Hb, upd (upd H dx (.own x)) x (.ins C dx []), lentAt [0] (.ref x :: vs) (some (.obj n []) :: ds.map some) (upd (upd H dx (.own x)) x (.ins C dx [])), rootAt [0] (.ref x :: vs)⟩ [0] [] (some (.obj n []) :: ds.map some) ((V.ref x :: vs).map some) Hb (upd (upd H dx (.own x)) x (.ins C dx [])) where
  tab := ((E.more (o := .own x) nd).more (o := .ins C dx []) (by rw [upd_ne ne.symm]; exact nx)).tab
  sub := ((E.more (o := .own x) nd).more (o := .ins C dx []) (by rw [upd_ne ne.symm]; exact nx)).sub
  stp := Stp.refl _ _ _ _
  len := by simp [l.length]
  val := fun i d g nP _ => by
    cases i with
    | zero => exact absurd (List.mem_singleton.mpr rfl) nP
    | succ i =>
      obtain ⟨v, hv, iv⟩ := l.get (get_map_some (by simpa [get] using g))
      exact ⟨v, by simp [hv], iv⟩
  celF := fun i d hi g0 => by
    have e : i = 0 := by simpa using hi
    subst e
    have g := g0
    cases g
    refine ⟨x, rfl, ⟨C, dx, [], hc, upd_same, rfl, .nil⟩, fun _ => ⟨List.mem_singleton.mpr rfl, rfl⟩, fun a ha => ?_⟩
    have := flat_foot (d := .obj n []) rfl ha
    subst this
    exact ⟨E.sub.none nx, fun _ => .inl ⟨List.mem_singleton.mpr rfl, _, a, g0, rfl, ha⟩, fun q => by cases q⟩
  sepF := fun i j p q di dj a hi hj _ _ _ _ _ _ => by
    have e : i = 0 := by simpa using hi
    have e' : j = 0 := by simpa using hj
    rw [e, e']
theorem lent_only {p : Addr} {i : Nat} {H0 : Hp} (h : lentAt [0] (V.ref x :: vs) (some (.obj n []) :: ds.map some) H0 i p) : p = x := by
  obtain ⟨hi, d, q, g, e, ft⟩ := h
  have : i = 0 := by simpa using hi
  subst this
  cases g
  have e : (some (V.ref x) : Option V) = some (.ref q) := e
  cases e
  exact flat_foot (d := .obj n []) rfl ft
theorem made_back {ρ' : Env} {Hb' H' : Hp} (E : EnvOk K W P J ρ σ Hb H) (nx : H x = none) (nd : H dx = none) (ne : dx ≠ x)
    (E4 : EnvOk K ⟨Hb, upd (upd H dx (.own x)) x (.ins C dx []), lentAt [0] (.ref x :: vs) (some (.obj n []) :: ds.map some) (upd (upd H dx (.own x)) x (.ins C dx [])), rootAt [0] (.ref x :: vs)⟩ [0] [] ρ' ((V.ref x :: vs).map some) Hb' H') : EnvOk K W P J ρ σ Hb' H' := by
  have E3 := (E.more (o := .own x) nd).more (o := .ins C dx []) (p := x) (by rw [upd_ne ne.symm]; exact nx)
  obtain ⟨k1, k2⟩ := E.cells (H' := H') (W' := W) E4.stp.hb (fun i d q a u hi g e ha hu => by
    obtain ⟨q', e', c, _, f⟩ := E.celF i d hi g
    rw [e] at e'; cases e'
    obtain ⟨o, ho, nt⟩ := c.footS ha
    rw [hu] at ho; cases ho
    have ax : a ≠ x := ne_of_none hu nx
    have hq : upd (upd H dx (.own x)) x (.ins C dx []) a = some u := by rw [upd_ne ax, upd_ne (ne_of_none hu nd)]; exact hu
    exact ⟨E4.stp.own (f a ha).1 hq (c.nts ha hu) fun k hk => ax (lent_only hk), E4.stp.nb (f a ha).1 hq nt⟩) (fun _ _ _ _ _ _ _ _ => ⟨id, id⟩) (fun _ _ _ _ _ _ _ _ => id)
  refine ⟨E4.sub, E3.stp.trans E4.stp fun i p h => .inr (by rw [lent_only h]; exact E.stp.al x nx), E.len, fun i d g nP nJ => ?_, k1, k2, E4.tab⟩
  obtain ⟨v, e, is⟩ := E.val i d g nP nJ
  exact ⟨v, e, is.mono E4.stp.hb⟩
/-- the object that was made is new -/
theorem made_new {ρ' : Env} {Hb0 H0 Hb' H' : Hp} {d : D} (E0 : EnvOk K W P J ρ σ Hb0 H0) (E : EnvOk K W P J ρ σ Hb H) (s0 : Sub Hb0 Hb) (nx0 : H0 x = none) (nx : H x = none) (nd : H dx = none) (ne : dx ≠ x)
    (E4 : EnvOk K ⟨Hb, upd (upd H dx (.own x)) x (.ins C dx []), lentAt [0] (.ref x :: vs) (some (.obj n []) :: ds.map some) (upd (upd H dx (.own x)) x (.ins C dx [])), rootAt [0] (.ref x :: vs)⟩ [0] [] ρ' ((V.ref x :: vs).map some) Hb' H') (g : get ρ' 0 = some d) : NewAt K W P J ρ σ Hb' H' x d := by
  obtain ⟨p', ep, c, _, f⟩ := E4.celF 0 _ (.inl (List.mem_singleton.mpr rfl)) g
  have ep : (some (some (V.ref x)) : Option (Option V)) = some (some (.ref p')) := ep
  cases ep
  -- what it has was not there
  have nf : ∀ a, foot H' x d a → H a = none := fun a ha => by
    rcases (f a ha).2.1 (List.mem_singleton.mpr rfl) with h | h
    · rw [lent_only h]; exact nx
    · have h : upd (upd H dx (.own x)) x (.ins C dx []) a = none := h
      have ax : a ≠ x := fun z => by subst z; rw [upd_same] at h; cases h
      rw [upd_ne ax] at h
      have ad : a ≠ dx := fun z => by subst z; rw [upd_same] at h; cases h
      rw [upd_ne ad] at h
      exact h
  have E5 := made_back E nx nd ne E4
  refine ⟨c, fun a ha => ⟨(f a ha).1, E.stp.al a (nf a ha)⟩, fun i di q a hi g1 e1 ha fa => ?_⟩
  obtain ⟨q', e', c1, _, f1⟩ := E.celF i di hi g1
  rw [e1] at e'; cases e'
  have kp : ∀ b, foot H q di b → ∃ o, H b = some o ∧ H' b = some o := fun b hb => by
    obtain ⟨o, ho, nt⟩ := c1.footS hb
    have ax : b ≠ x := ne_of_none ho nx
    have hq : upd (upd H dx (.own x)) x (.ins C dx []) b = some o := by rw [upd_ne ax, upd_ne (ne_of_none ho nd)]; exact ho
    exact ⟨o, ho, E4.stp.own (f1 b hb).1 hq (c1.nts hb ho) fun k hk => ax (lent_only hk)⟩
  obtain ⟨o, e2, e3⟩ := kp q foot.root
  have fa := foot.cong (H := H) (by rw [e2, e3]) fa
  obtain ⟨o', e4, _⟩ := kp a fa
  rw [nf a ha] at e4; cases e4
end
section
variable {X : Cx} {Wx : WX} {P I J : List Nat} {e : Expr} {es : List Expr} {A : FA} {pos p : Pos} {k : Nat} {f : Addr} {G : DFn} {y : Str} {tA : TA} {C : Addr} {n : Str} {m : Nat}
end

/-! ### def f(a, .., *rest) -/
/-- the promise by the flat values: those behind the first j are one tuple -/
def spStar (j : Nat) (sp : Sp) : Sp := fun vs H Q E => ∃ ws rest, vs = ws ++ rest ∧ ws.length = j ∧ rest.length ≤ sizeLine ∧ ∀ p, H p = none → sp (ws ++ [V.ref p]) (upd H p (.tup rest)) Q E
section
variable {P : Program} {w : World} {K : PySem.W.Frag} {mg : Str → Option Value} {base : Heap} {k : Nat} {f : Addr} {sp : Sp}
theorem fnG_star {x qual : Str} {st : Stmt} {fd : FuncData} {N ps : List Str} {pv : Str} (F : FunG K x qual st f fd) (S : FnScope N (ps ++ [pv]) (defScope st))
    (B : ∀ us rest : List Value, us.length = ps.length → bindArgs fd ⟨us ++ rest, []⟩ = (newTuple rest >>= fun t => pure (ps.zip us ++ [(pv, t)])))
    (body : ∀ (cdv : Value) (A : Around) (o : List PySem.Env) (s : Shared) (H : Hp) (vs : List V) (Q : VK) (E : XK), Room k (A.deeper (envOfC qual (defScope st) s.heap.objs.size f cdv)) → A.guards = some [] → sp vs H Q E →
      ∃ t, PSs (cxOf (L2.CX P w) P w K mg base N qual (defScope st) f cdv A o s H E) (defBody st) t ∧ t { nx := fun _ H' => Q .non H', rt := Q } (L2.start N vs) H) : FnG P w K mg base (k + 1) f (spStar ps.length sp) := by
  intro A o s H us vs Q E room hg ev rel hsp
  obtain ⟨ws, rest, rfl, lw, lr, hq⟩ := hsp
  obtain ⟨u1, u2, rfl, r1, r2⟩ := StX.vals_split rel
  obtain ⟨oc, od, dV, kV, doc, pm, an, cdv, ct, osl, rfl, lk, hcd⟩ := F.ex
  have n1 : u1.length = ps.length := by rw [← r1.length]; exact lw
  have fresh : H s.heap.objs.size = none := ev.hok.fresh (Nat.le_refl _)
  refine StX.run_bnd (CX := L2.CX P w) lk hcd S room ev (G := fun xs H2 => ∃ p, H p = none ∧ xs = ws ++ [V.ref p] ∧ H2 = upd H p (.tup rest)) (fun A' Ex Q' h => ?_) fun s2 H2 xs ⟨p, hp, ex, eH⟩ room' => ?_
  · rw [B u1 u2 n1]
    refine wpAny_bind (wpAny_newTuple (wpAny_pure ?_) (by rw [← r2.length]; exact lr))
    let ob : Obj := { cls := .type "tuple", data := .seq u2.toArray }
    have new : ObjOk P w (upd H s.heap.objs.size (.tup rest)) (s.heap.push ob) s.heap.objs.size (.tup rest) := ⟨lr, u2, r2, ⟨_, Heap.get?_push_size _ rfl, rfl, _, rfl⟩⟩
    have un := StX.un_laid (fs := frs o) (s := s) (o := ob) (u := .tup rest) fresh
    have done := h _ _ (ws ++ [V.ref s.heap.objs.size]) (u1 ++ [Value.ref s.heap.objs.size]) (StX.env0_laid ev new) un rfl (fun e s' => StX.cxUp o s H _ _ E e s' un (fun b o q => Heap.get?_push_of_some _ q) rfl) (r1.append (.cons rfl .nil))
      (by simp [lw]) ⟨_, fresh, rfl, rfl⟩
    rw [List.zip_append n1.symm] at done
    exact done
  · subst ex eH
    exact body cdv A o s2 _ _ Q E room' hg (hq p hp)
end
end DL

/-! DG3: star defs over data, in by an own __contains__, isinstance of own classes. -/
namespace DL
open PySem L2
open PyProof.Rows hiding St

/-! ### star defs -/
section
variable {P : Program} {w : World} {K : PySem.W.Frag} {mg : Str → Option Value} {base : Heap}
theorem okGS_of {x qual : Str} {st : Stmt} {f : Addr} {fd : FuncData} {N ps : List Str} {pv : Str} {k n : Nat} {io : List Nat} {J : List Nat} {G : DFn} {Fd : FS} (F : FunG K x qual st f fd)
    (B : ∀ us rest : List Value, us.length = ps.length → bindArgs fd ⟨us ++ rest, []⟩ = (newTuple rest >>= fun t => pure (ps.zip us ++ [(pv, t)]))) (S : FnScope N (ps ++ [pv]) (defScope st))
    (hb : ∀ (cdv : Value) (A : Around) (outer : List PySem.Env) (s : Shared) (H : Hp) (E : XK), Room k (A.deeper (envOfC qual (defScope st) s.heap.objs.size f cdv)) → A.guards = some [] →
      DSs (cxOf (L2.CX P w) P w K mg base N qual (defScope st) f cdv A outer s H E) (WofE E) io [] [] (defBody st) Fd J)
    (hg : ∀ (ρ : DL.Env) (post : Post) (xp : XP), ρ.length = n → G ρ post xp → Fd (ρ ++ List.replicate (N.length - n) none) (endS io n post xp)) : FnG P w K mg base (k + 1) f (spStar ps.length (spD K n io G)) := by
  refine fnG_star F S B fun cdv A outer s H vs Q E hr gu h => ?_
  obtain ⟨hl, ρ, Hb, post, xp, E0, g, q1, q2⟩ := h
  obtain ⟨t, pt, kt⟩ := (hb cdv A outer s H E hr gu).run
  refine ⟨t, pt, ?_⟩
  have hρ : ρ.length = n := by rw [← E0.len, List.length_map, hl]
  have e1 : L2.start N vs = vs.map some ++ List.replicate (N.length - n) none := by unfold L2.start; rw [hl]
  rw [e1]
  refine kt ⟨Hb, H, lentAt io vs ρ H, rootAt io vs⟩ _ _ Hb H _ _ E0.entry (hg ρ post xp hρ g) ⟨fun ρ' σ' Hb' H' a E' s' => ?_, fun d ρ' σ' v Hb' H' a E' is => ?_, fun _ _ _ _ a => a.elim, fun _ _ _ _ a => a.elim, fun c ρ' cls dx σ' Hb' H' a E' xi => ?_⟩
  · exact q1 _ _ _ _ _ a (E'.masked hl) .non
  · exact q1 _ _ _ _ _ a (E'.masked hl) is
  · exact q2 _ _ _ _ _ _ a (E'.masked hl) xi
end
def fMakeS (n : Str) (G : DFn) (A : FA) : FE := fun ρ post xp => A ρ (fun ds ρ1 => ds.length ≤ 1000 ∧ callD G [some (.obj n []), some (.tup ds)] (fun d r => d = .non ∧ ∃ fs, get r 0 = some (.obj n fs) ∧ post (.obj n fs) ρ1) (fun c _ => xp c ρ1) .mk) xp
@[simp ↓] theorem fMakeS_ap (n : Str) (G : DFn) (A : FA) (ρ : Env) (post : Post) (xp : XP) : fMakeS n G A ρ post xp = (A ρ (fun ds ρ1 => ds.length ≤ 1000 ∧ callD G [some (.obj n []), some (.tup ds)] (fun d r => d = .non ∧ ∃ fs, get r 0 = some (.obj n fs) ∧ post (.obj n fs) ρ1) (fun c _ => xp c ρ1) .mk) xp) := (rfl)
section
variable {X : Cx} {Wx : WX} {P I J J1 : List Nat} {a b e : Expr} {es : List Expr} {A : FA} {pos p : Pos} {k : Nat} {f : Addr} {G : DFn} {y : Str} {tA : TA} {ta tb : TE} {C : Addr} {n : Str} {m : Nat} {Fa Fb : FE}
theorem makeS_core {t : TA} (hc : IsCl X.K n C) (hPJ : ∀ j ∈ J, j ∉ P)
    (ka : ∀ (W : Wd) (ρ : Env) (σ : St) (Hb H : Hp) (Q : List V → Hp → Prop) (post : List D → Env → Prop) (xp : XP), EnvOk X.K W P I ρ σ Hb H → A ρ post xp → XOk X Wx W P σ xp →
    (∀ ds ρ' vs Hb' H', post ds ρ' → EnvOk X.K W P J ρ' σ Hb' H' → Sub Hb Hb' → IsL X.K Hb' vs ds → Q vs H') → t σ H Q) :
    ∀ (W : Wd) (ρ : Env) (σ : St) (Hb H : Hp) (Q : VK) (post : Post) (xp : XP), EnvOk X.K W P I ρ σ Hb H → fMakeS n G A ρ post xp → XOk X Wx W P σ xp →
    (∀ d ρ' p Hb' H', post d ρ' → EnvOk X.K W P J ρ' σ Hb' H' → Sub Hb Hb' → NewAt X.K W P J ρ' σ Hb' H' p d → Q (.ref p) H') → tMakeG C (spStar 1 (spD X.K 2 [0] G)) (WE Wx) t σ H Q := by
  intro W ρ σ Hb H Q post xp E h x q
  refine ka W ρ σ Hb H _ _ xp E h x fun ds ρ1 vs Hb1 H1 f1 E1 s1 l1 a dx nx nd ne => ?_
  obtain ⟨hm, f1⟩ := f1
  refine ⟨[.ref a], vs, rfl, rfl, by rw [l1.length]; exact Nat.le_trans hm (by decide), fun pt ft => ?_⟩
  -- the tuple first, as plain data of the caller
  have fa : pt ≠ a := fun z => by subst z; rw [upd_same] at ft; cases ft
  have fd : pt ≠ dx := fun z => by subst z; rw [upd_ne ne, upd_same] at ft; cases ft
  have f1n : H1 pt = none := by rw [upd_ne fa, upd_ne fd] at ft; exact ft
  have Et := E1.alloc (o := .tup vs) f1n
  have nbt : Hb1 pt = none := E1.sub.none f1n
  have lt : IsL X.K (upd Hb1 pt (.tup vs)) [V.ref pt] [D.tup ds] := .cons (.tup upd_same (l1.mono (Sub.new nbt))) .nil
  have nx' : upd H1 pt (.tup vs) a = none := by rw [upd_ne fa.symm]; exact nx
  have nd' : upd H1 pt (.tup vs) dx = none := by rw [upd_ne fd.symm]; exact nd
  have comm : upd (upd (upd H1 dx (.own a)) a (.ins C dx [])) pt (.tup vs) = upd (upd (upd H1 pt (.tup vs)) dx (.own a)) a (.ins C dx []) := by
    funext z
    by_cases z1 : z = pt
    · subst z1; rw [upd_same, upd_ne fa, upd_ne fd, upd_same]
    · by_cases z2 : z = a
      · subst z2; rw [upd_ne z1, upd_same, upd_same]
      · by_cases z3 : z = dx
        · subst z3; rw [upd_ne z1, upd_ne z2, upd_same, upd_ne z2, upd_same]
        · rw [upd_ne z1, upd_ne z2, upd_ne z3, upd_ne z2, upd_ne z3, upd_ne z1]
  show spD X.K 2 [0] G [V.ref a, V.ref pt] _ _ _
  rw [comm]
  refine ⟨rfl, _, _, _, _, made_env Et hc nx' nd' ne lt, f1, fun d ρ' v Hb' H' p1 E4 is => ?_, fun c ρ' cls dx' Hb' H' p1 E4 xi => ?_⟩
  · obtain ⟨e, fs, g, p1⟩ := p1
    subst e
    refine ⟨is_non is, q _ _ _ _ _ p1 (made_back Et nx' nd' ne E4) ((s1.trans (Sub.new nbt)).trans E4.stp.hb) (made_new E1 Et (Sub.new nbt) nx nx' nd' ne E4 g)⟩
  · obtain ⟨Hb3, E5, s5⟩ := (made_back Et nx' nd' ne E4).drop (J := []) (fun j q => by cases q) hPJ
    refine x c _ cls dx' Hb3 H' p1 E5 ?_
    obtain ⟨e, r | ⟨d, us, e1, e2, e3, e4⟩⟩ := xi
    · exact ⟨e, .inl r⟩
    · exact ⟨e, .inr ⟨d, us, e1, s5.at e2, e3, e4.mono s5⟩⟩
theorem dn_makeS {fi : Addr} (M : Mk X.K C fi) (hc : IsCl X.K n C) (Fn : FnG X.prog X.w X.K X.mg X.base k fi (spStar 1 (spD X.K 2 [0] G))) (hr : Room (k + 1) X.A) (hgu : X.A.guards = some []) (hm : X.mg y = some (.ref C)) (tk : Takes X Wx) (ha : DA X Wx P I (e :: es) tA A J)
    (hPJ : ∀ j ∈ J, j ∉ P := by decide) (hg : Gl X y := by rfl) (hdb : (y == ("__debug__" : Str)) = false := by decide) (he : starEach (e :: es) X.env = (false, eval e X.env) :: starEach es X.env := by rfl) (hpl : (backTo pos (starEach es X.env)).any (·.1) = false := by rfl) :
    DNw X Wx P I (.Call (.Name y p) (e :: es) [] pos) (tMakeG C (spStar 1 (spD X.K 2 [0] G)) (WE Wx) tA) (fMakeS n G A) J :=
  ⟨pe_makeG M Fn hr hgu hg hm (fun σ => passAt tk σ) ha.pe hdb he hpl, makeS_core hc hPJ ha.ev⟩
/-! ### x in o, o with an own __contains__ in which nothing is raised -/
def rInOwn (C : Addr) (sp : Sp) (neg : Bool) : R2 := fun x y H Q => ∃ a dx fs, y = .ref a ∧ H a = some (.ins C dx fs) ∧ sp [.ref a, x] H (fun z H2 => ∃ b, z = .bl b ∧ Q (.bl (neg != b)) H2) fun _ _ _ => False
theorem op_inOwn {sp : Sp} (M : Meth X.K C "__contains__" f) (F : FnG X.prog X.w X.K X.mg X.base k f sp) (hr : Room k X.A) (hgu : X.A.guards = some []) : OpR X (compareOp .In) (rInOwn C sp false) := by
  intro pins s σ H x y v u Q I rx ry h
  obtain ⟨a, dx, fs, rfl, ha, hs⟩ := h
  have eu : u = Value.ref a := ry
  subst eu
  obtain ⟨mA, O, _⟩ := ins_get I.hok ha
  obtain ⟨od, J, _⟩ := O.look
  obtain ⟨m, fr⟩ := I.fr
  refine PySem.W.in_K fr I.ok.mod.kin J M.at_ M.fn (wpAny_call (codeAny_mono (F X.A X.stack s H [.ref a, v] [.ref a, x] _ _ hr hgu I.env0 (.cons rfl (.cons rx .nil)) hs) fun res s2 q => ?_))
  cases res with
  | error er => exact (cx_no q).elim
  | ok fl =>
    cases fl with
    | ret u =>
      obtain ⟨z, H3, I3, rz, b, ez, q3⟩ := I.after q
      subst ez
      have ez : u = Value.bool b := rz
      subst ez
      exact wpAny_truthy_bool ⟨.bl b, H3, I3, rfl, by simpa using q3⟩
    | next => exact q.elim
    | brk => exact q.elim
    | cont => exact q.elim
def fInOwn (n : Str) (neg : Bool) (G : DFn) (Fa Fb : FE) : FE := fun ρ post xp => Fa ρ (fun x ρ1 => Fb ρ1 (fun o ρ2 => isObj n o ∧ callD G [some o, some x] (fun z _ => gB z fun b => post (.bl (neg != b)) ρ2) noX .mk) xp) xp
@[simp ↓] theorem fInOwn_ap (n : Str) (neg : Bool) (G : DFn) (Fa Fb : FE) (ρ : Env) (post : Post) (xp : XP) : fInOwn n neg G Fa Fb ρ post xp = (Fa ρ (fun x ρ1 => Fb ρ1 (fun o ρ2 => isObj n o ∧ callD G [some o, some x] (fun z _ => gB z fun b => post (.bl (neg != b)) ρ2) noX .mk) xp) xp) := (rfl)
theorem inOwn_core (hc : IsCl X.K n C) (neg : Bool) (ha : DE X Wx P I a ta Fa J1) (hb : DE X Wx P J1 b tb Fb J) : ∀ (W : Wd) (ρ : Env) (σ : St) (Hb H : Hp) (Q : VK) (post : Post) (xp : XP), EnvOk X.K W P I ρ σ Hb H → fInOwn n neg G Fa Fb ρ post xp → XOk X Wx W P σ xp →
    (∀ d ρ' v Hb' H', post d ρ' → EnvOk X.K W P J ρ' σ Hb' H' → Sub Hb Hb' → Is X.K Hb' v d → Q v H') → tOp (rInOwn C (spD X.K 2 [] G) neg) ta tb σ H Q := by
  intro W ρ σ Hb H Q post xp E f x q
  refine ha.ev W ρ σ Hb H _ _ xp E f x fun d ρ1 v Hb1 H1 f1 E1 s1 i1 => ?_
  refine hb.ev W ρ1 σ Hb1 H1 _ _ xp E1 f1 x fun d2 ρ2 v2 Hb2 H2 f2 E2 s2 i2 => ?_
  obtain ⟨⟨fs, e⟩, f2⟩ := f2
  subst e
  obtain ⟨a, C', dx, vs, rfl, hc', hh, e1, l1⟩ := o_obj E2.sub (.inl i2)
  obtain rfl := hc.eq hc'
  have ar : Args X.K Hb2 σ [none, none] [V.ref a, v] [some (.obj n fs), some d] := ⟨⟨_, rfl, i2⟩, ⟨_, rfl, i1.mono s2⟩, trivial⟩
  have hsl : ∀ j ∈ slots [none, none], j ∈ P ∨ j ∈ J := fun j h => by simp [slots] at h
  have hl : ∀ j ∈ slots [none, none], get ρ2 j ≠ none := fun j h => by simp [slots] at h
  refine ⟨a, dx, vs, rfl, hh, rfl, [some (.obj n fs), some d], Hb2, _, _, E2.lend ar hsl (by simp [slots]) hl, f2, fun z ρ' v Hb' H' p1 E4 is => ?_, fun c ρ' cls dx Hb' H' p1 => p1.elim⟩
  have E3 := E2.given ar hsl (by simp [slots]) hl E4 rfl
  have eu : unfill [none, none] ρ' ρ2 = ρ2 := by
    cases ρ' with
    | nil => rfl
    | cons a r => cases r <;> rfl
  rw [eu] at E3
  cases z <;> first | exact p1.elim | skip
  exact ⟨_, is_bl is, q _ _ _ _ _ p1 E3 ((s1.trans s2).trans E4.stp.hb) (.bl _)⟩
theorem de_inOwn (hc : IsCl X.K n C) (M : Meth X.K C "__contains__" f) (F : FnG X.prog X.w X.K X.mg X.base k f (spD X.K 2 [] G)) (hr : Room k X.A) (hgu : X.A.guards = some []) (ha : DE X Wx P I a ta Fa J1) (hb : DE X Wx P J1 b tb Fb J) (hm : behindInMarks .In b = false := by first | exact nomark _ | rfl) :
    DE X Wx P I (.Compare a [.In] [b] pos) (tOp (rInOwn C (spD X.K 2 [] G) false) ta tb) (fInOwn n false G Fa Fb) J := de_of (pe_cmpR (op_inOwn M F hr hgu) ha.pe hb.pe hm) (inOwn_core hc false ha hb)
end
end DL

/-! DG4: while by a measure; numbers. -/
namespace DL
open PySem L2
end DL

/-! DG5: code that is never reached, constants of classes, C(*xs), tuple > tuple. -/
namespace DL
open PySem L2 ClX
open PyProof.Rows hiding St
def fDeadS : FS := fun _ _ => False
section
variable {X : Cx} {Wx : WX} {P L I J J1 J2 : List Nat} {e a b : Expr} {es : List Expr} {F Fa Fb : FE} {A : FA} {pos p apos : Pos} {k : Nat} {f : Addr} {G : DFn} {x m y n : Str} {ta tb : TE} {tA : TA} {C : Addr} {st : Stmt}
theorem ds_dead : DS X Wx P L I st fDeadS J := ⟨_, ⟨fun _ _ _ _ _ _ h => (show False from h).elim⟩, fun _ _ _ _ _ _ _ _ f => (show False from f).elim⟩
/-- the constant of a class -/
theorem de_ccon {i : Int} {mc u : Value} (hm : X.mg x = some (.ref C)) (cr : CRead X.K C mc) (cv : CVal X.K C mc m (.int i) u) (hg : Gl X x := by rfl) (hdb : (x == ("__debug__" : Str)) = false := by decide) (hab : attributeBase (.Name x p) m X.env (eval (.Name x p) X.env) = eval (.Name x p) X.env := by rfl) :
    DE X Wx P I (.Attribute (.Name x p) m pos) (tCVal X.K (tC (.ref C)) m) (fC (.int i)) I :=
  de_of (pe_cval (pe_glob hg hm rfl hdb) hab) fun W ρ σ Hb H Q post xp E f _ q => ⟨C, mc, .int i, u, rfl, cr, cv, q _ _ _ _ _ f E (Sub.refl _) (.int i)⟩
end
section
variable {X : Cx} {k : Nat} {C f : Addr} {sp : Sp} {E : St → XK} {x : Str} {e : Expr} {p pos sp_ : Pos} {te : TE}
end
def fStar (F : FE) : FA := fun ρ post xp => F ρ (fun d ρ1 => ∃ es, (tupD d = some es ∨ lstD d = some es) ∧ post es ρ1) xp
section
variable {X : Cx} {Wx : WX} {P L I J J1 J2 : List Nat} {e a b : Expr} {es : List Expr} {F Fa Fb : FE} {A : FA} {pos p apos sp_ : Pos} {k : Nat} {f : Addr} {G : DFn} {x m y n : Str} {ta tb te : TE} {tA : TA} {C : Addr} {st : Stmt}
end
/-! ### tuple > tuple -/
def rGtT (K : PySem.W.Frag) : R2 := fun x y H Q => ∃ (a b : Addr) (ns ms : List Int), x = .ref a ∧ y = .ref b ∧ SqT K H a (ns.map V.int) ∧ SqT K H b (ms.map V.int) ∧
  Q (.bl (Ob.lexAt (fun j => decide (ns.getD j 0 = ms.getD j 0)) (fun j => decide (ms.getD j 0 < ns.getD j 0)) (decide (ns.length > ms.length)) 0 (min ns.length ms.length))) H
theorem op_gtT {X : Cx} (hu : X.A.units < cLine) : OpR X (compareOp .Gt) (rGtT X.K) := by
  intro pins s σ H x y v u Q I rx ry h
  obtain ⟨a, b, ns, ms, rfl, rfl, ha, hb, q⟩ := h
  cases rx
  cases ry
  obtain ⟨its, r1, p1, _⟩ := I.tuple ha
  obtain ⟨its2, r2, p2, _⟩ := I.tuple hb
  have i1 : IntsAre its ns := Vals.ints r1
  have i2 : IntsAre its2 ms := Vals.ints r2
  have e1 : its.toArray.size = ns.length := by rw [List.size_toArray]; exact i1.length
  have e2 : its2.toArray.size = ms.length := by rw [List.size_toArray]; exact i2.length
  have at1 : ∀ j (h1 : j < its.toArray.size), ∃ t, its.toArray[j] = .int (ns.getD j 0) t := fun j h1 => PyProof.Rows.IntsAre.int_at i1 _ _ (by simp at h1; simp [h1])
  have at2 : ∀ j (h1 : j < its2.toArray.size), ∃ t, its2.toArray[j] = .int (ms.getD j 0) t := fun j h1 => PyProof.Rows.IntsAre.int_at i2 _ _ (by simp at h1; simp [h1])
  have R := Ob.RcOp.tuples_gt (A := X.A) (s := s) (e := fun j => decide (ns.getD j 0 = ms.getD j 0)) (r := fun j => decide (ms.getD j 0 < ns.getD j 0)) p1 p2 hu (fun j h1 h2 => by
    obtain ⟨t, et⟩ := at1 j h1
    obtain ⟨t', et'⟩ := at2 j h2
    rw [et, et']
    have z : (ns.getD j 0 == ms.getD j 0) = decide (ns.getD j 0 = ms.getD j 0) := by
      by_cases q : ns.getD j 0 = ms.getD j 0
      · rw [decide_eq_true q]; exact beq_iff_eq.mpr q
      · rw [decide_eq_false q]; exact beq_eq_false_iff_ne.mpr q
    rw [← z]
    exact SeqAt.EqAt.int_int _ _ _ _) (fun j h1 h2 _ => by
    obtain ⟨t, et⟩ := at1 j h1
    obtain ⟨t', et'⟩ := at2 j h2
    rw [et, et']
    exact Ob.RcOp.gt_int _ _ _ _)
  rw [e1, e2] at R
  have z : wpAny (model X.prog X.w) X.A (compareOp .Gt (.ref a) (.ref b)) (EP X pins σ Q) X.xe s := R X.prog X.w X.xe (EP X pins σ Q) ⟨.bl _, H, I, rfl, q⟩
  exact z
abbrev rGtU (K : PySem.W.Frag) : R2 := fun x y H Q => (rI0 fun i j => .bl (decide (j < i))) x y H Q ∨ rGtT K x y H Q
theorem op_gtU {X : Cx} (hu : X.A.units < cLine) : OpR X (compareOp .Gt) (rGtU X.K) := op_gt.or (op_gtT hu)
def gGtU : G2
  | .int i, .int j, k => k (.bl (decide (j < i)))
  | x, y, k => ∃ a b ns ms, tupD x = some a ∧ tupD y = some b ∧ dInts a = some ns ∧ dInts b = some ms ∧ k (.bl (Ob.lexAt (fun j => decide (ns.getD j 0 = ms.getD j 0)) (fun j => decide (ms.getD j 0 < ns.getD j 0)) (decide (ns.length > ms.length)) 0 (min ns.length ms.length)))
@[simp ↓] theorem gGtU_int (i j : Int) (k) : gGtU (.int i) (.int j) k = k (.bl (decide (j < i))) := (rfl)
theorem rv_gtU {K : PySem.W.Frag} : RV2 K (rGtU K) gGtU := fun Hb H x y dx dy k Q s ix iy g q => by
  unfold gGtU at g
  split at g
  · exact .inl ⟨_, _, o_int ix, o_int iy, q _ _ _ _ g .refl (.bl _)⟩
  · obtain ⟨a, b, ns, ms, e1, e2, e3, e4, g⟩ := g
    obtain ⟨p, h1, h2⟩ := tups_ints s ix e1 e3
    obtain ⟨p', h3, h4⟩ := tups_ints s iy e2 e4
    exact .inr ⟨p, p', ns, ms, h1, h3, h2, h4, q _ _ _ _ g .refl (.bl _)⟩
@[simp ↓] theorem gEqU_tup0 (a : List D) (k) : gEqU (.tup a) (.tup []) k = k (.bl (decide (a = []))) := by
  have e : empty2 (.tup a) (.tup []) = some (decide (a = [])) := by simp [empty2, List.length_eq_zero_iff]
  show (match empty2 (.tup a) (.tup []) with | some b => k (.bl b) | none => _) = _
  rw [e]
@[simp ↓] theorem gNeU_tup0 (a : List D) (k) : gNeU (.tup a) (.tup []) k = k (.bl (!decide (a = []))) := by
  have e : empty2 (.tup a) (.tup []) = some (decide (a = [])) := by simp [empty2, List.length_eq_zero_iff]
  show (match empty2 (.tup a) (.tup []) with | some b => k (.bl (!b)) | none => _) = _
  rw [e]
theorem gList_tup (a : List D) (k : D → Prop) (h : k (.lst a)) : gList [.tup a] k := ⟨_, _, rfl, .inl rfl, h⟩
theorem gList_lst (a : List D) (k : D → Prop) (h : k (.lst a)) : gList [.lst a] k := ⟨_, _, rfl, .inr rfl, h⟩
end DL

/-! DG6: == and != by an own __eq__, either side. -/
namespace DE6
open PySem PySem.Spec PyProof.Rows PySem.SeqAt
section
variable {prog : Program} {w : World} {A : Around} {E : Value → Shared → Prop} {s : Shared} {K : PySem.W.Frag} {x C f : Addr} {ox : Obj} {od : Option Obj} {b tb : Value}
/-- v declines to compare with the instance x -/
def Declines (s : Shared) (x : Addr) (v : Value) (nm : Str) : Prop := ∀ (prog : Program) (w : World) (A : Around) (E : Value → Shared → Prop) (Q : Option Value → Shared → Prop), Q none s → wpAny (model prog w) A (tryCompare v nm (.ref x)) Q E s
theorem dec_none_eq : Declines s x .none "__eq__" := fun prog w A E Q q =>
  wpAny_tryCompare_declines (show s.TypeIs .none "NoneType" from rfl) F.slot_NoneType_eq (call_gives F.slot_NoneType_eq rfl F.entry_NoneType_eq (F.args_NoneType_eq_2 _ _) (NoneType___eq___none_ref_0 x) ⟨rfl, q⟩)
theorem dec_none_ne : Declines s x .none "__ne__" := fun prog w A E Q q =>
  wpAny_tryCompare_declines (show s.TypeIs .none "NoneType" from rfl) F.slot_NoneType_ne (call_gives F.slot_NoneType_ne rfl F.entry_NoneType_ne (F.args_NoneType_ne_2 _ _) (NoneType___ne___none_ref_0 x) ⟨rfl, q⟩)
theorem isInst_no {M : Model} {T : String} {Q : Bool → Shared → Prop} (X : K.In s.heap) (I : PySem.W.InstAt s.heap x ox C od) (hm : PySem.W.mroIn K C (.type T) = some false) (q : Q false s) : wpAny M A (isInstance (.ref x) (.type T)) Q E s :=
  by
  show wpAny M A (typeOf (.ref x) >>= fun t => isSubtype t (.type T)) Q E s
  exact (PySem.W.Looks.andThen (f := fun t => isSubtype t (.type T)) I.type (PySem.W.looks_mroIn X hm)).here q
theorem tup_eq_no {M : Model} {l : Value} {Q : Fin → Shared → Prop} (X : K.In s.heap) (I : PySem.W.InstAt s.heap x ox C od) (hm : PySem.W.mroIn K C (.type "tuple") = some false) (q : Q (.done (.ret .notImplemented)) s) : wpAny M A (Builtin.«tuple.__eq__» ⟨[l, .ref x], []⟩) Q E s := by
  unfold Builtin.«tuple.__eq__»
  repeat (first | with_reducible refine isInst_no X I hm ?_ | wp_step)
  exact q
theorem tup_ne_no {M : Model} {l : Value} {Q : Fin → Shared → Prop} (X : K.In s.heap) (I : PySem.W.InstAt s.heap x ox C od) (hm : PySem.W.mroIn K C (.type "tuple") = some false) (q : Q (.done (.ret .notImplemented)) s) : wpAny M A (Builtin.«tuple.__ne__» ⟨[l, .ref x], []⟩) Q E s := by
  unfold Builtin.«tuple.__ne__»
  repeat (first | with_reducible refine isInst_no X I hm ?_ | wp_step)
  exact q
theorem int_eq_no {M : Model} {i : Int} {t : Tok} {dx : Addr} {Q : Fin → Shared → Prop} (hx : s.heap.get? x = some (PySem.W.instObj C dx)) (q : Q (.done (.ret .notImplemented)) s) : wpAny M A (Builtin.«int.__eq__» ⟨[.int i t, .ref x], []⟩) Q E s := by
  unfold Builtin.«int.__eq__»
  repeat (first | with_reducible refine wpAny_load hx ?_ | wp_step)
  exact q
theorem int_ne_no {M : Model} {i : Int} {t : Tok} {dx : Addr} {Q : Fin → Shared → Prop} (hx : s.heap.get? x = some (PySem.W.instObj C dx)) (q : Q (.done (.ret .notImplemented)) s) : wpAny M A (Builtin.«int.__ne__» ⟨[.int i t, .ref x], []⟩) Q E s := by
  unfold Builtin.«int.__ne__»
  repeat (first | with_reducible refine wpAny_load hx ?_ | wp_step)
  exact q
theorem dec_tup_eq {l : Addr} (X : K.In s.heap) (I : PySem.W.InstAt s.heap x ox C od) (hm : PySem.W.mroIn K C (.type "tuple") = some false) (ht : s.TypeIs (.ref l) "tuple") : Declines s x (.ref l) "__eq__" := fun prog w A E Q q =>
  wpAny_tryCompare_declines ht F.slot_tuple_eq (GQ.call_here F.slot_tuple_eq ht F.entry_tuple_eq (F.args_tuple_eq_2 _ _) (tup_eq_no X I hm ⟨rfl, q⟩))
theorem dec_tup_ne {l : Addr} (X : K.In s.heap) (I : PySem.W.InstAt s.heap x ox C od) (hm : PySem.W.mroIn K C (.type "tuple") = some false) (ht : s.TypeIs (.ref l) "tuple") : Declines s x (.ref l) "__ne__" := fun prog w A E Q q =>
  wpAny_tryCompare_declines ht F.slot_tuple_ne (GQ.call_here F.slot_tuple_ne ht F.entry_tuple_ne (F.args_tuple_ne_2 _ _) (tup_ne_no X I hm ⟨rfl, q⟩))
theorem dec_int_eq {i : Int} {t : Tok} {dx : Addr} (hx : s.heap.get? x = some (PySem.W.instObj C dx)) : Declines s x (.int i t) "__eq__" := fun prog w A E Q q =>
  wpAny_tryCompare_declines (show s.TypeIs (.int i t) "int" from rfl) F.slot_int_eq (GQ.call_here F.slot_int_eq rfl F.entry_int_eq (F.args_int_eq_2 _ _) (int_eq_no hx ⟨rfl, q⟩))
theorem dec_int_ne {i : Int} {t : Tok} {dx : Addr} (hx : s.heap.get? x = some (PySem.W.instObj C dx)) : Declines s x (.int i t) "__ne__" := fun prog w A E Q q =>
  wpAny_tryCompare_declines (show s.TypeIs (.int i t) "int" from rfl) F.slot_int_ne (GQ.call_here F.slot_int_ne rfl F.entry_int_ne (F.args_int_ne_2 _ _) (int_ne_no hx ⟨rfl, q⟩))
/-- v == x, v declines -/
theorem cmp_reflEq {v : Value} {T : String} {Q : Value → Shared → Prop} (hu : A.units < cLine) (X : K.In s.heap) (I : PySem.W.InstAt s.heap x ox C od) (ho : oneThing? .Eq v (.ref x) = none) (hT : s.TypeIs v T) (hm : PySem.W.mroIn K C (.type T) = some false)
    (hd : Declines s x v "__eq__") (hs : PySem.W.findIn K (.ref C) "__eq__" = some (some (.ref f))) (hf : PySem.W.isFn K (.ref f) = true)
    (h : wpAny (model prog w) A (call (.ref f) [.ref x, v]) (PySem.W.CmpBack Q) E s) : wpAny (model prog w) A (richCompare .Eq v (.ref x)) Q E s := by
  have one : wpAny (model prog w) A (tryCompare (.ref x) "__eq__" v) (fun r s' => ∃ v, r = some v ∧ Q v s') E s := by
    unfold tryCompare
    refine wpAny_bind (PySem.W.ifBound_K X I hs hf (wpAny_mono h (fun v s' hv => ?_) fun _ _ e => e))
    cases v <;> first | exact hv.elim | exact wpAny_pure ⟨_, rfl, hv⟩
  unfold richCompare
  simp only [ho]
  refine wpAny_holding (wpAny_bind (wpAny_cRoomFor hu ?_))
  refine wpAny_bind (wpAny_typeOf hT (wpAny_bind (I.type.here ?_)))
  split
  · refine wpAny_bind ((PySem.W.looks_mroIn X hm).here ?_)
    simp only [Bool.false_eq_true, if_false, Bool.not_false, if_true]
    refine wpAny_bind (hd prog w A E _ ?_)
    refine wpAny_bind (wpAny_mono one (fun r s' z => ?_) fun _ _ e => e)
    obtain ⟨v, rfl, hq⟩ := z
    exact wpAny_pure hq
  · rename_i q
    exact absurd (by simp) q
end
end DE6
namespace DL
open PySem L2
open PyProof.Rows hiding St
structure EqFacts (K : PySem.W.Frag) (C f : Addr) : Prop where
  eq : PySem.W.findIn K (.ref C) "__eq__" = some (some (.ref f))
  fn : PySem.W.isFn K (.ref f) = true
  ne : PySem.W.findIn K (.ref C) "__ne__" = some (some (.builtin "object.__ne__"))
  mo : PySem.W.mroIn K C (.type "object") = some true
  mN : PySem.W.mroIn K C (.type "NoneType") = some false
  mI : PySem.W.mroIn K C (.type "int") = some false
  mT : PySem.W.mroIn K C (.type "tuple") = some false
theorem nf_none {K : PySem.W.Frag} {C : Addr} : PySem.W.notFirst K C (.type "NoneType") = true := by
  have e : PySem.W.subIn K (.type "NoneType") (.ref C) = some false := HN.sub_none
  unfold PySem.W.notFirst
  rw [e]; simp
theorem nf_int {K : PySem.W.Frag} {C : Addr} : PySem.W.notFirst K C (.type "int") = true := by
  have e0 : fastBuiltinMro "int" = some [.type "int", .type "object"] := by decide +kernel
  have e : PySem.W.subIn K (.type "int") (.ref C) = some false := by
    show (fastBuiltinMro "int").map (·.contains (.ref C)) = some false
    rw [e0]
    first | rfl | simp
  unfold PySem.W.notFirst
  rw [e]; simp
theorem nf_tup {K : PySem.W.Frag} {C : Addr} : PySem.W.notFirst K C (.type "tuple") = true := by
  have e0 : fastBuiltinMro "tuple" = some [.type "tuple", .type "object"] := by decide +kernel
  have e : PySem.W.subIn K (.type "tuple") (.ref C) = some false := by
    show (fastBuiltinMro "tuple").map (·.contains (.ref C)) = some false
    rw [e0]
    first | rfl | simp
  unfold PySem.W.notFirst
  rw [e]; simp
theorem looks_ty {M : Model} {s : Shared} {v : Value} {T : String} (h : ∀ s' : Shared, (∀ b o, s.heap.get? b = some o → s'.heap.get? b = some o) → s'.TypeIs v T) : PySem.W.Looks M s.heap (typeOf v) (.type T) := fun A Q E s' k q => wpAny_typeOf (h s' k) q
/-- beside an own ==: None, an int, a tuple -/
def Plain3 (H : Hp) (y : V) : Prop := y = .non ∨ (∃ i, y = .int i) ∨ ∃ b vs, y = .ref b ∧ H b = some (.tup vs)
def rEqOwn (C : Addr) (sp : Sp) (neg : Bool) : R2 := fun x y H Q =>
  (∃ a dx fs, x = .ref a ∧ H a = some (.ins C dx fs) ∧ (Plain3 H y ∨ ∃ b dy gs, y = .ref b ∧ H b = some (.ins C dy gs)) ∧ sp [x, y] H (fun z H2 => ∃ b, z = .bl b ∧ Q (.bl (neg != b)) H2) fun _ _ _ => False) ∨
  (∃ a dx fs, y = .ref a ∧ H a = some (.ins C dx fs) ∧ Plain3 H x ∧ sp [y, x] H (fun z H2 => ∃ b, z = .bl b ∧ Q (.bl (neg != b)) H2) fun _ _ _ => False)
section
variable {X : Cx} {k : Nat} {C f : Addr} {sp : Sp}
theorem typeis_keep {s s' : Shared} {a : Addr} {T : String} (k : ∀ b o, s.heap.get? b = some o → s'.heap.get? b = some o) (h : s.TypeIs (.ref a) T) : s'.TypeIs (.ref a) T := by
  obtain ⟨o, h1, h2⟩ := h
  exact ⟨o, k _ _ h1, h2⟩
theorem own_call (F : FnG X.prog X.w X.K X.mg X.base k f sp) (hr : Room k X.A) (hgu : X.A.guards = some []) {pins : List (Addr × Obj)} {s : Shared} {σ : St} {H : Hp} {x y : V} {u v : Value} {Q : VK} {neg : Bool} (I : Inv X pins σ H s) (rx : RelV x u) (ry : RelV y v)
    (hs : sp [x, y] H (fun z H2 => ∃ b, z = .bl b ∧ Q (.bl (neg != b)) H2) fun _ _ _ => False) :
    wpAny (model X.prog X.w) X.A (call (.ref f) [u, v]) (fun r s' => ∃ c : Bool, r = .bool c ∧ EP X pins σ Q (.bool (neg != c)) s') X.xe s := by
  refine wpAny_call (codeAny_mono (F X.A X.stack s H [u, v] [x, y] _ _ hr hgu I.env0 (.cons rx (.cons ry .nil)) hs) fun res s2 q => ?_)
  cases res with
  | error er => exact (cx_no q).elim
  | ok fl =>
    cases fl with
    | ret u =>
      obtain ⟨z, H3, I3, rz, b, ez, q3⟩ := I.after q
      subst ez
      have ez : u = Value.bool b := rz
      subst ez
      exact ⟨b, rfl, .bl _, H3, I3, rfl, q3⟩
    | next => exact q.elim
    | brk => exact q.elim
    | cont => exact q.elim
theorem tup_ty {pins : List (Addr × Obj)} {s : Shared} {σ : St} {H : Hp} {b : Addr} {vs : List V} (I : Inv X pins σ H s) (h : H b = some (.tup vs)) : s.TypeIs (.ref b) "tuple" := by
  obtain ⟨its, r1, p1, _⟩ := I.tuple (a := b) (xs := vs) (.inl (.inl h))
  obtain ⟨o, h1, h2, _⟩ := p1
  exact ⟨o, h1, h2⟩
/-- what stands right of an own == -/
theorem right_ty {pins : List (Addr × Obj)} {s : Shared} {σ : St} {H : Hp} {y : V} {v : Value} (I : Inv X pins σ H s) (ry : RelV y v) (h : Plain3 H y ∨ ∃ b dy gs, y = .ref b ∧ H b = some (.ins C dy gs)) :
    ∃ tb, PySem.W.Looks (model X.prog X.w) s.heap (typeOf v) tb ∧ PySem.W.notFirst X.K C tb = true := by
  rcases h with (rfl | ⟨i, rfl⟩ | ⟨b, vs, rfl, hb⟩) | ⟨b, dy, gs, rfl, hb⟩
  · obtain rfl : v = Value.none := ry
    exact ⟨_, looks_ty (T := "NoneType") fun _ _ => rfl, nf_none⟩
  · obtain ⟨t, rfl⟩ : ∃ t, v = Value.int i t := ry
    exact ⟨_, looks_ty (T := "int") fun _ _ => rfl, nf_int⟩
  · obtain rfl : v = Value.ref b := ry
    exact ⟨_, looks_ty (T := "tuple") fun s' k => typeis_keep k (tup_ty I hb), nf_tup⟩
  · obtain rfl : v = Value.ref b := ry
    obtain ⟨mA, O, _⟩ := ins_get I.hok hb
    obtain ⟨od, J, _⟩ := O.look
    exact ⟨_, J.type, by simp [PySem.W.notFirst]⟩
/-- what stands left of it -/
theorem left_ty {pins : List (Addr × Obj)} {s : Shared} {σ : St} {H : Hp} {y : V} {v : Value} {x : Addr} {ox : Obj} {od : Option Obj} {dx : Addr} (I : Inv X pins σ H s) (e : EqFacts X.K C f) (J : PySem.W.InstAt s.heap x ox C od) (hx : s.heap.get? x = some (PySem.W.instObj C dx)) (ry : RelV y v) (h : Plain3 H y) :
    ∃ T : String, s.TypeIs v T ∧ PySem.W.mroIn X.K C (.type T) = some false ∧ DE6.Declines s x v "__eq__" ∧ DE6.Declines s x v "__ne__" ∧ oneThing? .Eq v (.ref x) = none ∧ oneThing? .NotEq v (.ref x) = none := by
  rcases h with rfl | ⟨i, rfl⟩ | ⟨b, vs, rfl, hb⟩
  · obtain rfl : v = Value.none := ry
    exact ⟨"NoneType", rfl, e.mN, DE6.dec_none_eq, DE6.dec_none_ne, rfl, rfl⟩
  · obtain ⟨t, rfl⟩ : ∃ t, v = Value.int i t := ry
    exact ⟨"int", rfl, e.mI, DE6.dec_int_eq hx, DE6.dec_int_ne hx, rfl, rfl⟩
  · obtain rfl : v = Value.ref b := ry
    exact ⟨"tuple", tup_ty I hb, e.mT, DE6.dec_tup_eq I.kIn J e.mT (tup_ty I hb), DE6.dec_tup_ne I.kIn J e.mT (tup_ty I hb), rfl, rfl⟩
theorem op_eqOwn (e : EqFacts X.K C f) (F : FnG X.prog X.w X.K X.mg X.base k f sp) (hr : Room (k + 1) X.A) (hgu : X.A.guards = some []) : OpR X (compareOp .Eq) (rEqOwn C sp false) := by
  intro pins s σ H x y v u Q I rx ry h
  have hu1 := hu_of hr
  rcases h with ⟨a, dx, fs, rfl, ha, hy, hs⟩ | ⟨a, dx, fs, rfl, ha, hy, hs⟩
  · obtain rfl : v = Value.ref a := rx
    obtain ⟨mA, O, _⟩ := ins_get I.hok ha
    obtain ⟨od, J, _⟩ := O.look
    obtain ⟨m, fr⟩ := I.fr
    obtain ⟨tb, lk, nf⟩ := right_ty I ry hy
    refine (PySem.W.cmp_K (op := .Eq) (tb := tb) (by omega) fr I.ok.mod.kin J lk nf e.eq e.fn ?_ : wpAny (model X.prog X.w) X.A (richCompare .Eq (.ref a) u) (EP X pins σ Q) X.xe s)
    refine thn (own_call F (hr.mono (Nat.le_succ k)) hgu I (show RelV (V.ref a) (Value.ref a) from rfl) ry hs) fun r s' ⟨c, er, q⟩ => ?_
    subst er
    simpa [PySem.W.CmpBack] using q
  · obtain rfl : u = Value.ref a := ry
    obtain ⟨mA, O, _⟩ := ins_get I.hok ha
    obtain ⟨od, J, _⟩ := O.look
    obtain ⟨T, t1, t2, d1, d2, o1, o2⟩ := left_ty I e J J.at_ rx hy
    refine (DE6.cmp_reflEq (by omega) I.kIn J o1 t1 t2 d1 e.eq e.fn ?_ : wpAny (model X.prog X.w) X.A (richCompare .Eq v (.ref a)) (EP X pins σ Q) X.xe s)
    refine thn (own_call F (hr.mono (Nat.le_succ k)) hgu I (show RelV (V.ref a) (Value.ref a) from rfl) rx hs) fun r s' ⟨c, er, q⟩ => ?_
    subst er
    simpa [PySem.W.CmpBack] using q
end
end DL

/-! DG7: == and != by an own __eq__ over data, isinstance of an own class, list + list as a new cell. -/
namespace DL
open PySem L2
open PyProof.Rows hiding St
def rightD (n : Str) : D → Prop
  | .non => True
  | .int _ => True
  | .tup _ => True
  | .obj m _ => m = n
  | _ => False
def leftD : D → Prop
  | .non => True
  | .int _ => True
  | .tup _ => True
  | _ => False
def eqOwn (n : Str) (G : DFn) (x y : D) (k : Bool → Prop) : Prop :=
  isObj n x ∧ rightD n y ∧ callD G [some x, some y] (fun z _ => gB z k) noX .mk ∨
  leftD x ∧ isObj n y ∧ callD G [some y, some x] (fun z _ => gB z k) noX .mk
def fEqOwn (n : Str) (neg : Bool) (G : DFn) (Fa Fb : FE) : FE := fun ρ post xp => Fa ρ (fun x ρ1 => Fb ρ1 (fun y ρ2 => eqOwn n G x y fun b => post (.bl (neg != b)) ρ2) xp) xp
@[simp ↓] theorem fEqOwn_ap (n : Str) (neg : Bool) (G : DFn) (Fa Fb : FE) (ρ : Env) (post : Post) (xp : XP) : fEqOwn n neg G Fa Fb ρ post xp = (Fa ρ (fun x ρ1 => Fb ρ1 (fun y ρ2 => eqOwn n G x y fun b => post (.bl (neg != b)) ρ2) xp) xp) := (rfl)
section
variable {X : Cx} {Wx : WX} {P L I J J1 J2 : List Nat} {e a b : Expr} {es : List Expr} {F Fa Fb : FE} {A : FA} {pos p p1 p2 apos : Pos} {k : Nat} {f : Addr} {G : DFn} {x m y n : Str} {ta tb : TE} {tA : TA} {C : Addr} {st : Stmt}
theorem plain3 {K : PySem.W.Frag} {Hb H : Hp} (s : Sub Hb H) {v : V} {d : D} (i : Is K Hb v d) (h : leftD d) : Plain3 H v := by
  cases i with
  | non => exact .inl rfl
  | int i => exact .inr (.inl ⟨_, rfl⟩)
  | tup h1 l => exact .inr (.inr ⟨_, _, rfl, s.at h1⟩)
  | _ => exact h.elim
theorem eqOwn_core (hc : IsCl X.K n C) (neg : Bool) (ha : DE X Wx P I a ta Fa J1) (hb : DE X Wx P J1 b tb Fb J) : ∀ (W : Wd) (ρ : Env) (σ : St) (Hb H : Hp) (Q : VK) (post : Post) (xp : XP), EnvOk X.K W P I ρ σ Hb H → fEqOwn n neg G Fa Fb ρ post xp → XOk X Wx W P σ xp →
    (∀ d ρ' v Hb' H', post d ρ' → EnvOk X.K W P J ρ' σ Hb' H' → Sub Hb Hb' → Is X.K Hb' v d → Q v H') → tOp (rEqOwn C (spD X.K 2 [] G) neg) ta tb σ H Q := by
  intro W ρ σ Hb H Q post xp E f x q
  refine ha.ev W ρ σ Hb H _ _ xp E f x fun d ρ1 v Hb1 H1 f1 E1 s1 i1 => ?_
  refine hb.ev W ρ1 σ Hb1 H1 _ _ xp E1 f1 x fun d2 ρ2 v2 Hb2 H2 f2 E2 s2 i2 => ?_
  have i1' := i1.mono s2
  have hsl : ∀ j ∈ slots [none, none], j ∈ P ∨ j ∈ J := fun j h => by simp [slots] at h
  have hl : ∀ j ∈ slots [none, none], get ρ2 j ≠ none := fun j h => by simp [slots] at h
  have go : ∀ (u w : V) (du dw : D), Is X.K Hb2 u du → Is X.K Hb2 w dw → callD G [some du, some dw] (fun z _ => gB z fun b => post (.bl (neg != b)) ρ2) noX .mk →
      spD X.K 2 [] G [u, w] H2 (fun z H2 => ∃ b, z = .bl b ∧ Q (.bl (neg != b)) H2) fun _ _ _ => False := fun u w du dw iu iw f2 => by
    have ar : Args X.K Hb2 σ [none, none] [u, w] [some du, some dw] := ⟨⟨_, rfl, iu⟩, ⟨_, rfl, iw⟩, trivial⟩
    refine ⟨rfl, [some du, some dw], Hb2, _, _, E2.lend ar hsl (by simp [slots]) hl, f2, fun z ρ' v Hb' H' p1 E4 is => ?_, fun c ρ' cls dx Hb' H' p1 => p1.elim⟩
    have E3 := E2.given ar hsl (by simp [slots]) hl E4 rfl
    have eu : unfill [none, none] ρ' ρ2 = ρ2 := by
      cases ρ' with
      | nil => rfl
      | cons a r => cases r <;> rfl
    rw [eu] at E3
    cases z <;> first | exact p1.elim | skip
    exact ⟨_, is_bl is, q _ _ _ _ _ p1 E3 ((s1.trans s2).trans E4.stp.hb) (.bl _)⟩
  rcases f2 with ⟨⟨fs, e⟩, hy, f2⟩ | ⟨hx, ⟨fs, e⟩, f2⟩
  · subst e
    obtain ⟨a, C', dx, vs, rfl, hc', hh, e1, l1⟩ := o_obj E2.sub (.inl i1')
    obtain rfl := hc.eq hc'
    refine .inl ⟨a, dx, vs, rfl, hh, ?_, go _ _ _ _ i1' i2 f2⟩
    cases d2 with
    | obj m gs =>
      obtain rfl : m = n := hy
      obtain ⟨b, C'', dy, ws, rfl, hc'', hh', _, _⟩ := o_obj E2.sub (.inl i2)
      obtain rfl := hc.eq hc''
      exact .inr ⟨b, dy, ws, rfl, hh'⟩
    | non => exact .inl (plain3 E2.sub i2 trivial)
    | int i => exact .inl (plain3 E2.sub i2 trivial)
    | tup l => exact .inl (plain3 E2.sub i2 trivial)
    | _ => exact hy.elim
  · subst e
    obtain ⟨a, C', dx, vs, rfl, hc', hh, e1, l1⟩ := o_obj E2.sub (.inl i2)
    obtain rfl := hc.eq hc'
    exact .inr ⟨a, dx, vs, rfl, hh, plain3 E2.sub i1' hx, go _ _ _ _ i2 i1' f2⟩
theorem de_eqOwn (hc : IsCl X.K n C) (ef : EqFacts X.K C f) (Fn : FnG X.prog X.w X.K X.mg X.base k f (spD X.K 2 [] G)) (hr : Room (k + 1) X.A) (hgu : X.A.guards = some []) (ha : DE X Wx P I a ta Fa J1) (hb : DE X Wx P J1 b tb Fb J) (hm : behindInMarks .Eq b = false := by first | exact nomark _ | rfl) :
    DE X Wx P I (.Compare a [.Eq] [b] pos) (tOp (rEqOwn C (spD X.K 2 [] G) false) ta tb) (fEqOwn n false G Fa Fb) J := de_of (pe_cmpR (op_eqOwn ef Fn hr hgu) ha.pe hb.pe hm) (eqOwn_core hc false ha hb)
theorem dt_eqOwn (neg : Bool) {op : CmpOp} (hop : OpR X (compareOp op) (rEqOwn C (spD X.K 2 [] G) neg)) (hc : IsCl X.K n C) (ha : DE X Wx P I a ta Fa J1) (hb : DE X Wx P J1 b tb Fb J) (hm : behindInMarks op b = false := by first | exact nomark _ | rfl) :
    DT X Wx P I (.Compare a [op] [b] pos) (tTest (tOp (rEqOwn C (spD X.K 2 [] G) neg) ta tb)) (fTest (fEqOwn n neg G Fa Fb)) J := by
  refine dt_of (pt_cmpR hop ha.pe hb.pe hm) fun W ρ σ Hb H Q post xp E f x q => eqOwn_core hc neg ha hb W ρ σ Hb H _ _ xp E f x fun d ρ1 v Hb1 H1 f1 E1 s1 i1 => ?_
  cases d <;> first | exact f1.elim | skip
  exact ⟨_, is_bl i1, q _ _ _ _ f1 E1 s1⟩
/-! ### isinstance(x, C) -/
structure IsiF (K : PySem.W.Frag) (C : Addr) : Prop where
  ty : ∀ (H : Hp) (a dx : Addr) (fs : List (Str × V)), H a = some (.ins C dx fs) → TyX K H (.ref a) (.ref C)
  kN : PySem.W.kitOne K (.type "NoneType") (.ref C) = some false
  kI : PySem.W.kitOne K (.type "int") (.ref C) = some false
  kT : PySem.W.kitOne K (.type "tuple") (.ref C) = some false
def isOwn (n : Str) : D → Option Bool
  | .obj m _ => if m = n then some true else none
  | .non => some false
  | .int _ => some false
  | .tup _ => some false
  | _ => none
def fIsiOwn (n : Str) (F : FE) : FE := fun ρ post xp => F ρ (fun d ρ1 => ∃ b, isOwn n d = some b ∧ post (.bl b) ρ1) xp
@[simp ↓] theorem fIsiOwn_ap (n : Str) (F : FE) (ρ : Env) (post : Post) (xp : XP) : fIsiOwn n F ρ post xp = (F ρ (fun d ρ1 => ∃ b, isOwn n d = some b ∧ post (.bl b) ρ1) xp) := (rfl)
theorem isiOwn_ok {K : PySem.W.Frag} (hc : IsCl K n C) (iF : IsiF K C) {Hb H : Hp} (s : Sub Hb H) {v : V} {d : D} {b : Bool} (i : Is K Hb v d) (h : isOwn n d = some b) : ∃ t, TyX K H v t ∧ PySem.W.kitOne K t (.ref C) = some b := by
  cases d with
  | obj m fs =>
    have h : (if m = n then some true else none) = some b := h
    by_cases e : m = n
    · subst e
      rw [if_pos rfl] at h
      cases h
      obtain ⟨a, C', dx, vs, rfl, hc', hh, e1, l1⟩ := o_obj s (.inl i)
      obtain rfl := hc.eq hc'
      exact ⟨_, iF.ty _ _ _ _ hh, by simp [PySem.W.kitOne]⟩
    · rw [if_neg e] at h; cases h
  | non => cases h; exact ⟨_, o_tyx s (.inl i) rfl, iF.kN⟩
  | int j => cases h; exact ⟨_, o_tyx s (.inl i) rfl, iF.kI⟩
  | tup j => cases h; exact ⟨_, o_tyx s (.inl i) rfl, iF.kT⟩
  | _ => cases h
theorem de_isiOwn (hc : IsCl X.K n C) (hm : X.mg y = some (.ref C)) (iF : IsiF X.K C) (hmi : X.mg "isinstance" = none) (ha : DE X Wx P I e ta F J) (hg : Gl X "isinstance" := by rfl) (hgc : Gl X y := by rfl) (hdc : (y == ("__debug__" : Str)) = false := by decide)
    (he : starEach [e, .Name y p2] X.env = (false, eval e X.env) :: starEach [.Name y p2] X.env := by rfl) (hpl : (backTo pos (starEach [.Name y p2] X.env)).any (·.1) = false := by rfl) :
    DE X Wx P I (.Call (.Name "isinstance" p1) [e, .Name y p2] [] pos) (tCB (rIsi X.K) (tCons ta (tCons (tC (.ref C)) tNil))) (fIsiOwn n F) J := by
  refine de_of (pe_callB (id := "isinstance") call_isi hg hmi rfl (pa_cons ha.pe (hs := he) (pa_cons (pe_glob hgc hm rfl hdc) pa_nil)) (he := he) (hpl := hpl)) fun W ρ σ Hb H Q post xp E f x q => ha.ev W ρ σ Hb H _ _ xp E f x fun d ρ1 v Hb1 H1 f1 E1 s1 i1 => ?_
  obtain ⟨b, hb, f1⟩ := f1
  obtain ⟨t, h1, h2⟩ := isiOwn_ok hc iF E1.sub i1 hb
  exact ⟨v, .ref C, t, .ref C, b, rfl, .own C, h1, h2, q _ _ _ _ _ f1 E1 s1 (.bl b)⟩
end
end DL

/-! DG8: zip, a released cell as a value. -/
namespace DL
open PySem L2 RZ
open PyProof.Rows hiding St
def zipD (ds es : List D) : List D := List.zipWith (fun x y => D.tup [x, y]) ds es
theorem zipD_get {ds es : List D} {i : Nat} {d : D} (h : (zipD ds es)[i]? = some d) : ∃ x y, ds[i]? = some x ∧ es[i]? = some y ∧ d = .tup [x, y] := by
  unfold zipD at h
  rw [List.getElem?_zipWith] at h
  cases e1 : ds[i]? with
  | none => rw [e1] at h; simp at h
  | some x =>
    cases e2 : es[i]? with
    | none => rw [e1, e2] at h; simp at h
    | some y => rw [e1, e2] at h; simp at h; exact ⟨x, y, rfl, rfl, h.symm⟩
theorem itd_zipL {K : PySem.W.Frag} {Hb : Hp} {a b : Addr} {vs ws : List V} {ds es : List D} (h : SqL K Hb a vs) (h' : SqL K Hb b ws) (l : IsL K Hb vs ds) (l' : IsL K Hb ws es) : ItD K (Itz K a b) Hb (zipD ds es) := fun i H1 Hb1 s1 s2 => by
  have h1 := (s1.trans s2).sqL h
  have h2 := (s1.trans s2).sqL h'
  refine ⟨fun d hd => ?_, fun e => ⟨vs, ws, h1, h2, ?_⟩⟩
  · obtain ⟨x, y, e1, e2, rfl⟩ := zipD_get hd
    obtain ⟨v, hv, iv⟩ := l.get e1
    obtain ⟨w, hw, iw⟩ := l'.get e2
    refine ⟨⟨vs, ws, v, w, h1, h2, hv, hw⟩, fun z H2 ⟨T, u1, u2, ez, hT, eH, q1, q2⟩ => ?_⟩
    subst ez eH
    have ex := q1 vs h1
    have ey := q2 ws h2
    rw [hv] at ex; cases ex
    rw [hw] at ey; cases ey
    have nb : Hb1 T = none := s2.none hT
    exact ⟨_, .one hT, .tup upd_same (.cons ((iv.mono s1).mono (Sub.new nb)) (.cons ((iw.mono s1).mono (Sub.new nb)) .nil))⟩
  · have := l.length
    have := l'.length
    unfold zipD at e
    rw [List.length_zipWith] at e
    omega
theorem itd_zipT {K : PySem.W.Frag} {Hb : Hp} {a b : Addr} {vs ws : List V} {ds es : List D} (h : SqT K Hb a vs) (h' : SqT K Hb b ws) (l : IsL K Hb vs ds) (l' : IsL K Hb ws es) : ItD K (ItzT K a b) Hb (zipD ds es) := fun i H1 Hb1 s1 s2 => by
  have h1 := (s1.trans s2).sqT h
  have h2 := (s1.trans s2).sqT h'
  refine ⟨fun d hd => ?_, fun e => ⟨vs, ws, h1, h2, ?_⟩⟩
  · obtain ⟨x, y, e1, e2, rfl⟩ := zipD_get hd
    obtain ⟨v, hv, iv⟩ := l.get e1
    obtain ⟨w, hw, iw⟩ := l'.get e2
    refine ⟨⟨vs, ws, v, w, h1, h2, hv, hw⟩, fun z H2 ⟨T, u1, u2, ez, hT, eH, q1, q2⟩ => ?_⟩
    subst ez eH
    have ex := q1 vs h1
    have ey := q2 ws h2
    rw [hv] at ex; cases ex
    rw [hw] at ey; cases ey
    have nb : Hb1 T = none := s2.none hT
    exact ⟨_, .one hT, .tup upd_same (.cons ((iv.mono s1).mono (Sub.new nb)) (.cons ((iw.mono s1).mono (Sub.new nb)) .nil))⟩
  · have := l.length
    have := l'.length
    unfold zipD at e
    rw [List.length_zipWith] at e
    omega
/-- zip of two lists, or of two tuples -/
def fZip (A : FA) : FA := fun ρ post xp => A ρ (fun ds ρ1 => match ds with
  | [.lst a, .lst b] => post (zipD a b) ρ1
  | [.tup a, .tup b] => post (zipD a b) ρ1
  | _ => False) xp
@[simp ↓] theorem fZip_ap (A : FA) (ρ : Env) (post : List D → Env → Prop) (xp : XP) : fZip A ρ post xp = (A ρ (fun ds ρ1 => match ds with
  | [.lst a, .lst b] => post (zipD a b) ρ1
  | [.tup a, .tup b] => post (zipD a b) ρ1
  | _ => False) xp) := (rfl)
section
variable {X : Cx} {Wx : WX} {P L I J J1 J2 : List Nat} {e e2 tg : Expr} {es elts : List Expr} {F : FE} {A : FA} {pos p tpos : Pos} {kk : Nat} {te : TE} {tA : TA} {x : Str}
theorem di_zip (hm : X.mg "zip" = none) (ha : DA X Wx P I [e, e2] tA A J) (hg : Gl X "zip" := by rfl)
    (hs : starEach [e, e2] X.env = (false, eval e X.env) :: starEach [e2] X.env := by rfl) (hpl : (backTo pos (starEach [e2] X.env)).any (·.1) = false := by rfl) :
    DI X Wx P I (.Tuple elts kk tpos) (.Call (.Name "zip" p) [e, e2] [] pos) (iZipA X.K tA) (fZip A) J := by
  obtain ⟨pa, k⟩ := ha
  refine ⟨pi_zipA hg hm pa hs hpl, fun W ρ σ Hb H R post xp E f x q => k W ρ σ Hb H _ _ xp E f x fun ds ρ1 vs Hb1 H1 f1 E1 s1 i1 => ?_⟩
  match ds, i1, f1 with
  | [.lst a, .lst b], .cons i (.cons j .nil), f1 =>
    obtain ⟨a', us, rfl, h, l⟩ := is_lstD i rfl
    obtain ⟨b', ws, rfl, h', l'⟩ := is_lstD j rfl
    exact ⟨a', b', us, ws, rfl, .inl ⟨E1.sub.sqL h, E1.sub.sqL h', q _ _ _ _ _ f1 E1 s1 (itd_zipL h h' l l')⟩⟩
  | [.tup a, .tup b], .cons i (.cons j .nil), f1 =>
    obtain ⟨a', us, rfl, h, l⟩ := is_tupD i rfl
    obtain ⟨b', ws, rfl, h', l'⟩ := is_tupD j rfl
    exact ⟨a', b', us, ws, rfl, .inr ⟨E1.sub.sqT h, E1.sub.sqT h', q _ _ _ _ _ f1 E1 s1 (itd_zipT h h' l l')⟩⟩
/-- an owned slot read as a value: it is owned no more -/
theorem de_rel (i : Nat) (hP : i ∉ P := by decide) (hJ : ∀ j ∈ J, j ∈ I := by decide) (hiJ : i ∉ J := by decide) (hPI : ∀ j ∈ I, j ∉ P := by decide) (hN : X.N[i]? = some x := by rfl) (hv : Vis X.env.scope x := by first | exact Or.inl rfl | exact Or.inr (Or.inl rfl) | exact Or.inr (Or.inr rfl)) (hd : (x == ("__debug__" : Str)) = false := by decide)
    (hcd : (x == ("__classdict__" : Str)) = false := by decide) : DE X Wx P I (.Name x pos) (tVar i) (fVar i) J :=
  de_of (pe_var hN hv hd hcd) fun W ρ σ Hb H Q post xp E f _ q => by
    unfold fVar at f
    split at f
    · rename_i d g
      obtain ⟨Hb', E', s'⟩ := E.drop hJ hPI
      obtain ⟨v, e, is⟩ := E'.val i d g hP hiJ
      exact ⟨v, e, q _ _ _ _ _ f E' s' is⟩
    · exact f.elim
end
end DL

/-! DG9: any(list of ints). -/
namespace L2
open PySem PySem.Spec PyProof.Rows
section
variable {X : Cx}
theorem truth_intsD {prog : Program} {w : World} {A : Around} {ns : List Int} {its : List Value} (e : IntsAre its ns) :
    TruthOf prog w A (fun i v => its.toArray[i]? = some v) (fun i => (ns.map fun n => n != 0).getD i false) := fun i v s Q E hv hq => by
  have hv' : its[i]? = some v := by simpa using hv
  obtain ⟨hl, hv2⟩ := List.getElem?_eq_some_iff.mp hv'
  obtain ⟨t, ev⟩ := PyProof.Rows.IntsAre.int_at e i v hv'
  subst ev
  have hi : i < ns.length := by rw [← e.length]; exact hl
  have hg : (ns.map fun n => n != 0).getD i false = (ns.getD i 0 != 0) := by
    rw [List.getD_eq_getElem?_getD, List.getElem?_map, List.getD_eq_getElem?_getD, List.getElem?_eq_getElem hi]; rfl
  have hq' : Q ((ns.map fun n => n != 0).getD i false) s := hq
  rw [hg] at hq'
  exact truthy_int hq'
def rAnyI (K : PySem.W.Frag) : List V → Hp → VK → Prop := fun vs H Q => ∃ (a : Addr) (ns : List Int), vs = [V.ref a] ∧ SqL K H a (ns.map V.int) ∧ Q (.bl (ns.any fun n => n != 0)) H
theorem cr_anyI (hc : X.calm = true) : CallR X (.builtin "any") (rAnyI X.K) := by
  intro pins s σ H vs us Q I r h
  obtain ⟨a, ns, rfl, hs, q⟩ := h
  obtain ⟨its, rv, hl, _⟩ := I.list hs
  rw [Vals.ref1 r]
  have hb : IntsAre its ns := Vals.ints rv
  refine call_any_walk (iter_any hl.isList fun s₂ e2 st hne => ?_)
  subst e2
  refine ⟨_, _, _, _, _, _, _, rfl, Walks.list (A := X.A.in1) (I.ok.hd hc) _ a hne its.toArray, st, truth_intsD hb, fun h' tk hk => ?_⟩
  refine ⟨.bl _, H, I.kept fun b o eo => hk b o (fun hmem => ?_) (Heap.get?_push_of_some _ eo), ?_, q⟩
  · rcases List.mem_cons.mp hmem with e1 | hmem
    · exact absurd (e1 ▸ Heap.lt_size eo) (Nat.lt_irrefl _)
    · cases hmem
  · show Value.bool _ = Value.bool _
    have e : (ns.any fun n => n != 0) = (ns.map fun n => n != 0).any id := by simp [List.any_map]
    rw [e, ← any_range, List.size_toArray, List.length_map, hb.length]
end
end L2
namespace DL
open PySem L2
def gAnyI : GN := fun xs k => ∃ d es ns, xs = [d] ∧ lstD d = some es ∧ dInts es = some ns ∧ k (.bl (ns.any fun n => n != 0))
theorem rv_anyI {K : PySem.W.Frag} : RVN K (rAnyI K) gAnyI := fun Hb H xs ds k Q s l g q => by
  obtain ⟨d, es, bs, rfl, e1, e2, g⟩ := g
  obtain ⟨v, rfl, i⟩ := o_one l
  obtain ⟨a, vs, rfl, h, m⟩ := o_lstD s i e1
  obtain rfl := is_ints m e2
  exact ⟨a, bs, rfl, h, q _ _ _ _ g .refl (.bl _)⟩
end DL

/-! DG10: C(a, .., *xs) where __init__ takes some arguments and the rest; C.m(..), m a classmethod. -/
namespace DL
open PySem L2 ClX
open PyProof.Rows hiding St
theorem isL_take {K : PySem.W.Frag} {H : Hp} : ∀ {vs : List V} {ds : List D} (n : Nat), IsL K H vs ds → IsL K H (vs.take n) (ds.take n)
  | _, _, 0, _ => by simp; exact .nil
  | _, _, n + 1, .nil => by simp; exact .nil
  | _, _, n + 1, .cons a r => by simp only [List.take_succ_cons]; exact .cons a (isL_take n r)
theorem isL_drop {K : PySem.W.Frag} {H : Hp} : ∀ {vs : List V} {ds : List D} (n : Nat), IsL K H vs ds → IsL K H (vs.drop n) (ds.drop n)
  | _, _, 0, h => by simpa using h
  | _, _, n + 1, .nil => by simp; exact .nil
  | _, _, n + 1, .cons a r => by simp only [List.drop_succ_cons]; exact isL_drop n r
def fMakeSn (n : Str) (m : Nat) (G : DFn) (A : FA) : FE := fun ρ post xp => A ρ (fun ds ρ1 => (m ≤ ds.length ∧ ds.length ≤ 1000) ∧ callD G (some (.obj n []) :: (ds.take m ++ [D.tup (ds.drop m)]).map some) (fun d r => d = .non ∧ ∃ fs, get r 0 = some (.obj n fs) ∧ post (.obj n fs) ρ1) (fun c _ => xp c ρ1) .mk) xp
@[simp ↓] theorem fMakeSn_ap (n : Str) (m : Nat) (G : DFn) (A : FA) (ρ : Env) (post : Post) (xp : XP) : fMakeSn n m G A ρ post xp = (A ρ (fun ds ρ1 => (m ≤ ds.length ∧ ds.length ≤ 1000) ∧ callD G (some (.obj n []) :: (ds.take m ++ [D.tup (ds.drop m)]).map some) (fun d r => d = .non ∧ ∃ fs, get r 0 = some (.obj n fs) ∧ post (.obj n fs) ρ1) (fun c _ => xp c ρ1) .mk) xp) := (rfl)
section
variable {X : Cx} {Wx : WX} {P I J J1 : List Nat} {a b e : Expr} {es : List Expr} {A : FA} {pos p : Pos} {k : Nat} {f : Addr} {G : DFn} {y : Str} {tA : TA} {ta tb : TE} {C : Addr} {n : Str} {m : Nat} {Fa Fb : FE}
theorem makeSn_core {t : TA} (hc : IsCl X.K n C) (hPJ : ∀ j ∈ J, j ∉ P)
    (ka : ∀ (W : Wd) (ρ : Env) (σ : St) (Hb H : Hp) (Q : List V → Hp → Prop) (post : List D → Env → Prop) (xp : XP), EnvOk X.K W P I ρ σ Hb H → A ρ post xp → XOk X Wx W P σ xp →
    (∀ ds ρ' vs Hb' H', post ds ρ' → EnvOk X.K W P J ρ' σ Hb' H' → Sub Hb Hb' → IsL X.K Hb' vs ds → Q vs H') → t σ H Q) :
    ∀ (W : Wd) (ρ : Env) (σ : St) (Hb H : Hp) (Q : VK) (post : Post) (xp : XP), EnvOk X.K W P I ρ σ Hb H → fMakeSn n m G A ρ post xp → XOk X Wx W P σ xp →
    (∀ d ρ' p Hb' H', post d ρ' → EnvOk X.K W P J ρ' σ Hb' H' → Sub Hb Hb' → NewAt X.K W P J ρ' σ Hb' H' p d → Q (.ref p) H') → tMakeG C (spStar (m + 1) (spD X.K (m + 2) [0] G)) (WE Wx) t σ H Q := by
  intro W ρ σ Hb H Q post xp E h x q
  refine ka W ρ σ Hb H _ _ xp E h x fun ds ρ1 vs Hb1 H1 f1 E1 s1 l1 a dx nx nd ne => ?_
  obtain ⟨⟨hm0, hm⟩, f1⟩ := f1
  have hlv : m ≤ vs.length := by rw [l1.length]; exact hm0
  refine ⟨.ref a :: vs.take m, vs.drop m, by simp, by simp [Nat.min_eq_left hlv], by rw [List.length_drop, l1.length]; exact Nat.le_trans (Nat.sub_le _ _) (Nat.le_trans hm (by decide)), fun pt ft => ?_⟩
  have fa : pt ≠ a := fun z => by subst z; rw [upd_same] at ft; cases ft
  have fd : pt ≠ dx := fun z => by subst z; rw [upd_ne ne, upd_same] at ft; cases ft
  have f1n : H1 pt = none := by rw [upd_ne fa, upd_ne fd] at ft; exact ft
  have Et := E1.alloc (o := .tup (vs.drop m)) f1n
  have nbt : Hb1 pt = none := E1.sub.none f1n
  have lt : IsL X.K (upd Hb1 pt (.tup (vs.drop m))) (vs.take m ++ [V.ref pt]) (ds.take m ++ [D.tup (ds.drop m)]) := ((isL_take m l1).mono (Sub.new nbt)).append (.cons (.tup upd_same ((isL_drop m l1).mono (Sub.new nbt))) .nil)
  have nx' : upd H1 pt (.tup (vs.drop m)) a = none := by rw [upd_ne fa.symm]; exact nx
  have nd' : upd H1 pt (.tup (vs.drop m)) dx = none := by rw [upd_ne fd.symm]; exact nd
  have comm : upd (upd (upd H1 dx (.own a)) a (.ins C dx [])) pt (.tup (vs.drop m)) = upd (upd (upd H1 pt (.tup (vs.drop m))) dx (.own a)) a (.ins C dx []) := by
    funext z
    by_cases z1 : z = pt
    · subst z1; rw [upd_same, upd_ne fa, upd_ne fd, upd_same]
    · by_cases z2 : z = a
      · subst z2; rw [upd_ne z1, upd_same, upd_same]
      · by_cases z3 : z = dx
        · subst z3; rw [upd_ne z1, upd_ne z2, upd_same, upd_ne z2, upd_same]
        · rw [upd_ne z1, upd_ne z2, upd_ne z3, upd_ne z2, upd_ne z3, upd_ne z1]
  show spD X.K (m + 2) [0] G (V.ref a :: (vs.take m ++ [V.ref pt])) _ _ _
  rw [comm]
  refine ⟨by simp [Nat.min_eq_left hlv], _, _, _, _, made_env Et hc nx' nd' ne lt, f1, fun d ρ' v Hb' H' p1 E4 is => ?_, fun c ρ' cls dx' Hb' H' p1 E4 xi => ?_⟩
  · obtain ⟨e, fs, g, p1⟩ := p1
    subst e
    refine ⟨is_non is, q _ _ _ _ _ p1 (made_back Et nx' nd' ne E4) ((s1.trans (Sub.new nbt)).trans E4.stp.hb) (made_new E1 Et (Sub.new nbt) nx nx' nd' ne E4 g)⟩
  · obtain ⟨Hb3, E5, s5⟩ := (made_back Et nx' nd' ne E4).drop (J := []) (fun j q => by cases q) hPJ
    refine x c _ cls dx' Hb3 H' p1 E5 ?_
    obtain ⟨e, r | ⟨d, us, e1, e2, e3, e4⟩⟩ := xi
    · exact ⟨e, .inl r⟩
    · exact ⟨e, .inr ⟨d, us, e1, s5.at e2, e3, e4.mono s5⟩⟩
end
end DL

/-! DG11: starred arguments, C(a, .., *xs) by name and by a local variable, classmethods. -/
namespace DL
open PySem L2 ClX
open PyProof.Rows hiding St
section
variable {X : Cx} {k i : Nat} {C f : Addr} {sp : Sp} {E : St → XK} {x : Str} {e : Expr} {es : List Expr} {p pos : Pos} {t : TA}
theorem pe_makeGS2 (M : Mk X.K C f) (F : FnG X.prog X.w X.K X.mg X.base k f sp) (hr : Room (k + 1) X.A) (hgu : X.A.guards = some []) (hg : Gl X x) (hm : X.mg x = some (.ref C)) (hx : ∀ σ, PassesAt (L2.CX X.prog X.w) X σ (E σ)) (ha : PA X (e :: es) t)
    (hdb : (x == ("__debug__" : Str)) = false := by decide) (he : starEach (e :: es) X.env = (false, eval e X.env) :: starEach es X.env := by rfl) (hst : (backTo pos (starEach es X.env)).any (·.1) = true := by rfl) :
    PE X (.Call (.Name x p) (e :: es) [] pos) (tMakeG C sp E t) := ⟨fun pins s σ H Q I h =>
  wpAny_Call_Name_kw (ld_glob I hg hm (PySem.W.callWith_S2 (h₀ := X.base) I.ok.mod.kin M.kp (thn (ha.run pos pins s σ H _ I h) fun us s1 ⟨vs, H1, I1, r, q⟩ => ⟨I1.kIn, run_makeG M F hr hgu hx I1 r q⟩) he hst) hdb)⟩
/-- a local variable that holds the class -/
def tMakeL (i : Nat) (C : Addr) (sp : Sp) (E : St → XK) (t : TA) : TE := fun σ H Q => σ[i]? = some (some (.ref C)) ∧ tMakeG C sp E t σ H Q
theorem pe_makeL (M : Mk X.K C f) (F : FnG X.prog X.w X.K X.mg X.base k f sp) (hr : Room (k + 1) X.A) (hgu : X.A.guards = some []) (hN : X.N[i]? = some x) (hv : Vis X.env.scope x) (hx : ∀ σ, PassesAt (L2.CX X.prog X.w) X σ (E σ)) (ha : PA X (e :: es) t)
    (hdb : (x == ("__debug__" : Str)) = false := by decide) (hcd : (x == ("__classdict__" : Str)) = false := by decide) (he : starEach (e :: es) X.env = (false, eval e X.env) :: starEach es X.env := by rfl) (hpl : (backTo pos (starEach es X.env)).any (·.1) = false := by rfl) :
    PE X (.Call (.Name x p) (e :: es) [] pos) (tMakeL i C sp E t) := by
  refine ⟨fun pins s σ H Q I h => ?_⟩
  obtain ⟨hs, ht⟩ := h
  refine wpAny_Call_Name_kw (thn ((pe_var (pos := p) hN hv hdb hcd).run pins s σ H (fun v H1 => v = .ref C ∧ H1 = H) I ⟨.ref C, hs, rfl, rfl⟩) fun u s1 ⟨v, H1, I1, r1, q1⟩ => ?_)
  obtain ⟨rfl, rfl⟩ := q1
  cases r1
  exact PySem.W.callWith_K (h₀ := X.base) I.ok.mod.kin M.kp (thn (ha.run pos pins s1 σ _ _ I1 ht) fun us s2 ⟨vs, H2, I2, r, q⟩ => ⟨I2.kIn, run_makeG M F hr hgu hx I2 r q⟩) he hpl
end
section
variable {X : Cx} {Wx : WX} {P I J J1 : List Nat} {a b e o : Expr} {es : List Expr} {F : FE} {A : FA} {pos p apos : Pos} {k : Nat} {f : Addr} {G : DFn} {x y : Str} {tA : TA} {te : TE} {C : Addr} {n : Str} {m : Nat}
/-- a starred last argument -/
theorem da_star (ha : DE X Wx P I e te F J) (hs : starEach [.Starred e p] X.env = (true, eval e X.env) :: starEach [] X.env := by rfl) : DA X Wx P I [.Starred e p] (StX.tStar X.K te tNil) (fStar F) J :=
  ⟨StX.pa_star ha.pe pa_nil hs, fun W ρ σ Hb H Q post xp E f x q => ha.ev W ρ σ Hb H _ _ xp E f x fun d ρ1 v Hb1 H1 f1 E1 s1 i1 => by
    obtain ⟨xs, hxs, f1⟩ := f1
    obtain ⟨a, vs, e1, h1, l1⟩ := o_seqD E1.sub (.inl i1) hxs
    refine ⟨a, vs, e1, h1.symm, ?_⟩
    show Q (vs ++ []) H1
    rw [List.append_nil]
    exact q _ _ _ _ _ f1 E1 s1 l1⟩
theorem da_consS (ha : DE X Wx P I e te F J1) (hb : DA X Wx P J1 es tA A J) (hs : starEach (e :: es) X.env = (false, eval e X.env) :: starEach es X.env := by rfl) : DA X Wx P I (e :: es) (tCons te tA) (fCons F A) J := da_cons ha hb hs
/-- C(a, .., *xs) -/
theorem dn_makeSn {fi : Addr} (M : Mk X.K C fi) (hc : IsCl X.K n C) (Fn : FnG X.prog X.w X.K X.mg X.base k fi (spStar (m + 1) (spD X.K (m + 2) [0] G))) (hr : Room (k + 1) X.A) (hgu : X.A.guards = some []) (hm : X.mg y = some (.ref C)) (tk : Takes X Wx) (ha : DA X Wx P I (e :: es) tA A J)
    (hPJ : ∀ j ∈ J, j ∉ P := by decide) (hg : Gl X y := by rfl) (hdb : (y == ("__debug__" : Str)) = false := by decide) (he : starEach (e :: es) X.env = (false, eval e X.env) :: starEach es X.env := by rfl) (hst : (backTo pos (starEach es X.env)).any (·.1) = true := by rfl) :
    DNw X Wx P I (.Call (.Name y p) (e :: es) [] pos) (tMakeG C (spStar (m + 1) (spD X.K (m + 2) [0] G)) (WE Wx) tA) (fMakeSn n m G A) J :=
  ⟨pe_makeGS2 M Fn hr hgu hg hm (fun σ => passAt tk σ) ha.pe hdb he hst, makeSn_core hc hPJ ha.ev⟩
/-- C(a, .., z): without a rest -/
theorem dn_makeSn0 {fi : Addr} (M : Mk X.K C fi) (hc : IsCl X.K n C) (Fn : FnG X.prog X.w X.K X.mg X.base k fi (spStar (m + 1) (spD X.K (m + 2) [0] G))) (hr : Room (k + 1) X.A) (hgu : X.A.guards = some []) (hm : X.mg y = some (.ref C)) (tk : Takes X Wx) (ha : DA X Wx P I (e :: es) tA A J)
    (hPJ : ∀ j ∈ J, j ∉ P := by decide) (hg : Gl X y := by rfl) (hdb : (y == ("__debug__" : Str)) = false := by decide) (he : starEach (e :: es) X.env = (false, eval e X.env) :: starEach es X.env := by rfl) (hpl : (backTo pos (starEach es X.env)).any (·.1) = false := by rfl) :
    DNw X Wx P I (.Call (.Name y p) (e :: es) [] pos) (tMakeG C (spStar (m + 1) (spD X.K (m + 2) [0] G)) (WE Wx) tA) (fMakeSn n m G A) J :=
  ⟨pe_makeG M Fn hr hgu hg hm (fun σ => passAt tk σ) ha.pe hdb he hpl, makeSn_core hc hPJ ha.ev⟩
def fMakeL (i : Nat) (n : Str) (m : Nat) (G : DFn) (A : FA) : FE := fun ρ post xp => get ρ i = some (.cl n) ∧ fMakeSn n m G A ρ post xp
@[simp ↓] theorem fMakeL_ap (i : Nat) (n : Str) (m : Nat) (G : DFn) (A : FA) (ρ : Env) (post : Post) (xp : XP) : fMakeL i n m G A ρ post xp = (get ρ i = some (.cl n) ∧ fMakeSn n m G A ρ post xp) := (rfl)
theorem makeL_core {t : TA} (i : Nat) (hc : IsCl X.K n C) (hiP : i ∉ P) (hiI : i ∉ I)
    (kk : ∀ (W : Wd) (ρ : Env) (σ : St) (Hb H : Hp) (Q : VK) (post : Post) (xp : XP), EnvOk X.K W P I ρ σ Hb H → fMakeSn n m G A ρ post xp → XOk X Wx W P σ xp →
    (∀ d ρ' p Hb' H', post d ρ' → EnvOk X.K W P J ρ' σ Hb' H' → Sub Hb Hb' → NewAt X.K W P J ρ' σ Hb' H' p d → Q (.ref p) H') → tMakeG C (spStar (m + 1) (spD X.K (m + 2) [0] G)) (WE Wx) t σ H Q) :
    ∀ (W : Wd) (ρ : Env) (σ : St) (Hb H : Hp) (Q : VK) (post : Post) (xp : XP), EnvOk X.K W P I ρ σ Hb H → fMakeL i n m G A ρ post xp → XOk X Wx W P σ xp →
    (∀ d ρ' p Hb' H', post d ρ' → EnvOk X.K W P J ρ' σ Hb' H' → Sub Hb Hb' → NewAt X.K W P J ρ' σ Hb' H' p d → Q (.ref p) H') → tMakeL i C (spStar (m + 1) (spD X.K (m + 2) [0] G)) (WE Wx) t σ H Q := by
  intro W ρ σ Hb H Q post xp E h x q
  obtain ⟨g, h⟩ := h
  obtain ⟨v, e, is⟩ := E.val i _ g hiP hiI
  have ev : v = .ref C := by cases is with | cl c => rw [c.eq hc]
  rw [ev] at e
  exact ⟨e, kk W ρ σ Hb H Q post xp E h x q⟩
theorem dn_makeL {fi : Addr} (i : Nat) (M : Mk X.K C fi) (hc : IsCl X.K n C) (Fn : FnG X.prog X.w X.K X.mg X.base k fi (spStar (m + 1) (spD X.K (m + 2) [0] G))) (hr : Room (k + 1) X.A) (hgu : X.A.guards = some []) (tk : Takes X Wx) (ha : DA X Wx P I (e :: es) tA A J)
    (hPJ : ∀ j ∈ J, j ∉ P := by decide) (hiP : i ∉ P := by decide) (hiI : i ∉ I := by decide) (hN : X.N[i]? = some x := by rfl) (hv : Vis X.env.scope x := by first | exact Or.inl rfl | exact Or.inr (Or.inl rfl) | exact Or.inr (Or.inr rfl)) (hdb : (x == ("__debug__" : Str)) = false := by decide) (hcd : (x == ("__classdict__" : Str)) = false := by decide)
    (he : starEach (e :: es) X.env = (false, eval e X.env) :: starEach es X.env := by rfl) (hpl : (backTo pos (starEach es X.env)).any (·.1) = false := by rfl) :
    DNw X Wx P I (.Call (.Name x p) (e :: es) [] pos) (tMakeL i C (spStar (m + 1) (spD X.K (m + 2) [0] G)) (WE Wx) tA) (fMakeL i n m G A) J :=
  ⟨pe_makeL M Fn hr hgu hN hv (fun σ => passAt tk σ) ha.pe hdb hcd he hpl, makeL_core i hc hiP hiI (makeSn_core hc hPJ ha.ev)⟩
end
end DL

/-! DG12: classmethods. -/
namespace DL
open PySem L2 ClX
open PyProof.Rows hiding St
def tCls (C : Addr) (t : TA) : TA := fun σ H Q => t σ H fun vs H1 => Q (.ref C :: vs) H1
section
variable {X : Cx} {k : Nat} {C p g : Addr} {mc : Value} {sp : Sp} {E : St → XK} {o e : Expr} {es : List Expr} {m : Str} {pos apos : Pos} {t : TA} {pl : Sem Bool}
theorem run_cmG {pins : List (Addr × Obj)} {σ : St} {H : Hp} {s : Shared} {q : Addr} {Q : VK} {us : List Value} {vs : List V} (F : FnG X.prog X.w X.K X.mg X.base k g sp) (hr : Room k X.A) (hgu : X.A.guards = some []) (hx : PassesAt (L2.CX X.prog X.w) X σ (E σ)) (I : Inv X ((q, PySem.W.methodObj (.ref g) (.ref C)) :: pins) σ H s)
    (r : Vals vs us) (h : sp (.ref C :: vs) H Q (E σ)) : wpAny (model X.prog X.w) X.A (call (.ref q) us) (EP X pins σ Q) X.xe s := by
  have z : wpAny (model X.prog X.w) X.A (call (.ref q) us) (EP X ((q, PySem.W.methodObj (.ref g) (.ref C)) :: pins) σ Q) X.xe s :=
    wpAny_call (PySem.W.method_call (pin_at I) (run_G (us := .ref C :: us) (vs := .ref C :: vs) F hr hgu hx I (.cons rfl r) h))
  exact thn z fun _ _ y => unpinE y
theorem pe_cmethG (ho : PE X o (tC (.ref C))) (r : CRead X.K C mc) (c : CMet X.K C mc m p g) (F : FnG X.prog X.w X.K X.mg X.base k g sp) (hr : Room k X.A) (hgu : X.A.guards = some []) (hx : ∀ σ, PassesAt (L2.CX X.prog X.w) X σ (E σ)) (ha : PA X (e :: es) t)
    (hst : starEach (e :: es) X.env = (false, eval e X.env) :: starEach es X.env := by rfl) (hpl : (backTo pos (starEach es X.env)).any (·.1) = false := by rfl)
    (ht : eval (.Call (.Attribute o m apos) (e :: es) [] pos) X.env = (do
      let ov ← eval o X.env
      standAt apos.atName
      let (f, first) ← holding [ov] (getMethod ov m pl)
      callWith pos f first (backTo pos (starEach (e :: es) X.env)) (backToKw pos (keywordEach [] X.env))) := by rfl) :
    PE X (.Call (.Attribute o m apos) (e :: es) [] pos) (tCallS sp E (tCls C t)) := by
  refine ⟨fun pins s σ H Q I h => ?_⟩
  refine PySem.W.methodCall_KW (pl := pl) (thn (ho.run pins s σ H (fun x H1 => x = .ref C ∧ H1 = H) I ⟨rfl, rfl⟩) fun u s1 ⟨x, H1, I1, rx, ex, eH⟩ => ?_) ht
  subst ex eH
  obtain rfl : u = Value.ref C := rx
  refine getmethcm_ok I1 r c fun s2 I2 => ?_
  refine callwith_cm I2 (base_none I1 (Nat.le_refl _)) c.fi (thn (ha.run pos _ s2 σ _ _ I2 h) fun us s3 ⟨vs, H2, I3, rv, q2⟩ => ⟨⟨pin_at I3, I3.kIn⟩, ?_⟩) hst hpl
  exact run_cmG F hr hgu (hx σ) I3 rv q2
end
section
variable {X : Cx} {Wx : WX} {P I J J1 : List Nat} {e o : Expr} {es : List Expr} {B : Env → (Env → Env → Prop) → XP → Prop} {sl : List (Option Nat)} {pos p' apos : Pos} {k nn : Nat} {p g : Addr} {G : DFn} {x m : Str} {io : List Nat} {tA : TA} {C : Addr} {mc : Value}
theorem de_cmeth {n : Str} {pl : Sem Bool} (hc : IsCl X.K n C) (hm : X.mg x = some (.ref C)) (r : CRead X.K C mc) (c : CMet X.K C mc m p g) (Fn : FnG X.prog X.w X.K X.mg X.base k g (spD X.K nn io G)) (hr : Room k X.A) (hgu : X.A.guards = some []) (tk : Takes X Wx)
    (hb : DO X Wx P I (e :: es) tA B sl J) (hio : ioOf 0 (none :: sl) = io := by decide) (hsl : ∀ j ∈ slots (none :: sl), j ∈ P ∨ j ∈ J := by decide) (nd : (slots (none :: sl)).Nodup := by decide) (hPJ : ∀ j ∈ J, j ∉ P := by decide) (hn : (none :: sl).length = nn := by decide)
    (hg : Gl X x := by rfl) (hdb : (x == ("__debug__" : Str)) = false := by decide)
    (hst : starEach (e :: es) X.env = (false, eval e X.env) :: starEach es X.env := by rfl) (hpl : (backTo pos (starEach es X.env)).any (·.1) = false := by rfl)
    (ht : eval (.Call (.Attribute (.Name x p') m apos) (e :: es) [] pos) X.env = (do
      let ov ← eval (.Name x p') X.env
      standAt apos.atName
      let (f, first) ← holding [ov] (getMethod ov m pl)
      callWith pos f first (backTo pos (starEach (e :: es) X.env)) (backToKw pos (keywordEach [] X.env))) := by rfl) :
    DE X Wx P I (.Call (.Attribute (.Name x p') m apos) (e :: es) [] pos) (tCallS (spD X.K nn io G) (WE Wx) (tCls C tA)) (fCall G (none :: sl) (oVal (fC (.cl n)) B)) J :=
  de_of (pe_cmethG (pe_glob hg hm rfl hdb) r c Fn hr hgu (fun σ => passAt tk σ) hb.pe hst hpl ht) (call_core (t := tCls C tA) tk hio hsl nd hPJ hn fun W ρ σ Hb H Q post xp E f x q =>
    hb.ev W ρ σ Hb H _ _ xp E f x fun ds ρ2 vs Hb2 H2 f2 E2 s2 i2 => q _ _ _ _ _ f2 E2 s2 ⟨⟨_, rfl, .cl hc⟩, i2⟩)
end
end DL

/-! DG13: sorted of a list of (pair, anything) with different pairs. -/
namespace SrtI
open PySem PyProof.Rows Srt PySem.SeqAt SrtO
section
variable {prog : Program} {w : World} {A : Around} {E : Value → Shared → Prop} {s : Shared}
theorem pair_eq {v u : Value} {x y x' y' : Int} (h1 : Srt.IsPair s.heap v x y) (h2 : Srt.IsPair s.heap u x' y') (hu : A.units < cLine) : EqAt A s v u (decide (x = x' ∧ y = y')) := by
  obtain ⟨a, o, t, u, n, e, ho, hc, hd⟩ := h1
  obtain ⟨a', o', t', u', n', e', ho', hc', hd'⟩ := h2
  subst e e'
  by_cases ea : a = a'
  · subst ea
    rw [ho] at ho'; cases ho'
    rw [hd] at hd'
    have e1 : x = x' ∧ y = y' := by
      simp only [Data.seq.injEq] at hd'
      have := congrArg Array.toList hd'.1
      simp at this
      exact ⟨this.1.1, this.2.1⟩
    rw [decide_eq_true e1]
    exact EqAt.same (.ref a)
  · refine EqAt.of_refs ea ?_
    have R := RcAt.tuples (A := A) (s := s) (e := fun j => if j = 0 then (x == x') else (y == y')) ⟨o, ho, hc, n, hd⟩ ⟨o', ho', hc', n', hd'⟩ hu (fun j h1 h2 => by
      match j, h1, h2 with
      | 0, _, _ => exact EqAt.int_int x t x' t'
      | 1, _, _ => exact EqAt.int_int y u y' u')
    have e2 : ((List.range (min (#[Value.int x t, Value.int y u] : Array Value).size (#[Value.int x' t', Value.int y' u'] : Array Value).size)).all (fun j => if j = 0 then (x == x') else (y == y')) && (#[Value.int x t, Value.int y u] : Array Value).size == (#[Value.int x' t', Value.int y' u'] : Array Value).size) = decide (x = x' ∧ y = y') := by
      have e3 : List.range 2 = [0, 1] := rfl
      by_cases p : x = x' <;> by_cases q : y = y' <;> simp [e3, p, q]
    rw [← e2]
    exact R
theorem pair_lt {v u : Value} {x y x' y' : Int} (h1 : Srt.IsPair s.heap v x y) (h2 : Srt.IsPair s.heap u x' y') (hu : A.units < cLine) : Ob.RcOp .Lt A s v u (lexB (x, y) (x', y')) := by
  obtain ⟨a, o, t, u, n, e, ho, hc, hd⟩ := h1
  obtain ⟨a', o', t', u', n', e', ho', hc', hd'⟩ := h2
  subst e e'
  have R := Ob.RcOp.tuples_lt (A := A) (s := s) (e := fun j => if j = 0 then (x == x') else (y == y')) (r := fun j => if j = 0 then decide (x < x') else decide (y < y')) ⟨o, ho, hc, n, hd⟩ ⟨o', ho', hc', n', hd'⟩ hu (fun j h1 h2 => by
      match j, h1, h2 with
      | 0, _, _ => exact EqAt.int_int x t x' t'
      | 1, _, _ => exact EqAt.int_int y u y' u') (fun j h1 h2 _ => by
      match j, h1, h2 with
      | 0, _, _ => exact Ob.RcOp.lt_int x x' t t'
      | 1, _, _ => exact Ob.RcOp.lt_int y y' u u')
  have e2 : Ob.lexAt (fun j => if j = 0 then (x == x') else (y == y')) (fun j => if j = 0 then decide (x < x') else decide (y < y')) (decide ((#[Value.int x t, Value.int y u] : Array Value).size < (#[Value.int x' t', Value.int y' u'] : Array Value).size)) 0 (min (#[Value.int x t, Value.int y u] : Array Value).size (#[Value.int x' t', Value.int y' u'] : Array Value).size) = lexB (x, y) (x', y') := by
    unfold lexB
    by_cases p : x = x' <;> by_cases q : y = y' <;> simp [Ob.lexAt, p, q]
  rw [← e2]
  exact R
/-- a tuple of a pair of ints and one thing more -/
def IsItem (h : Heap) (v : Value) (x y : Int) : Prop := ∃ a o n p c, v = .ref a ∧ h.get? a = some o ∧ o.cls = .type "tuple" ∧ o.data = .seq #[.ref p, c] n ∧ Srt.IsPair h (.ref p) x y
theorem IsItem.keeps {h h' : Heap} {v : Value} {x y : Int} (i : IsItem h v x y) (k : ∀ b o, h.get? b = some o → o.cls = .type "tuple" → h'.get? b = some o) : IsItem h' v x y := by
  obtain ⟨a, o, n, p, c, e, ho, hc, hd, hp⟩ := i
  exact ⟨a, o, n, p, c, e, k _ _ ho hc, hc, hd, hp.keeps k⟩
theorem item_cmp {vs : List Value} {k : Value → Int × Int} (hu : A.units < cLine) (hp : ∀ v ∈ vs, IsItem s.heap v (k v).1 (k v).2) (inj : ∀ v ∈ vs, ∀ u ∈ vs, k v = k u → v = u) : Cmp prog w A s (tuples' false) (fun p => p.1 ∈ vs) (lt2 fun v u => lexB (k v) (k u)) := by
  intro p q hm hm'
  have h1 := hp _ hm
  have h2 := hp _ hm'
  have hi := inj _ hm _ hm'
  show wpAny (model prog w) A (keyLt' (tuples' false) p.1 q.1) (fun r s' => s' = s ∧ r = lexB (k p.1) (k q.1)) (fun _ _ => False) s
  obtain ⟨a, o, n, p1, c, e, ho, hc, hd, hpp⟩ := h1
  obtain ⟨a', o', n', p1', c', e', ho', hc', hd', hpp'⟩ := h2
  rw [e, e']
  rw [e, e'] at hi
  rw [e] at hpp
  rw [e'] at hpp'
  refine PySem.W.kat_lt ho hd ho' hd' ?_
  show PySem.W.KatLex prog w A false (decide (2 < 2)) _ [(.ref p1, .ref p1'), (c, c')] 0 s
  refine PySem.W.kat_cons (pair_eq hpp hpp' hu prog w _ _ ?_)
  refine PySem.W.kat_go (fun e1 => ?_) (fun e1 => ?_)
  · have ek : k (.ref a) = k (.ref a') := by
      have := of_decide_eq_true e1
      exact Prod.ext this.1 this.2
    have ev := hi ek
    cases ev
    rw [ho] at ho'; cases ho'
    rw [hd] at hd'
    have ec : c = c' := by
      simp only [Data.seq.injEq] at hd'
      have := congrArg Array.toList hd'.1
      simp at this
      exact this.2
    subst ec
    refine PySem.W.kat_yes (PySem.W.kat_cons (EqAt.same c prog w _ _ ?_))
    refine PySem.W.kat_yes (PySem.W.kat_nil ⟨rfl, ?_⟩)
    have := (swo_lex k).asym (.ref a) (.ref a)
    cases z : lexB (k (.ref a)) (k (.ref a)) with
    | false => rfl
    | true => rw [this z] at z; cases z
  · exact PySem.W.kat_no (PySem.W.kat_one _ _ (pair_lt hpp hpp' hu prog w _ _ ⟨rfl, rfl⟩))
theorem firsts_item {h : Heap} : ∀ {vs : List Value}, (∀ v ∈ vs, ∃ x y, IsItem h v x y) → ∃ fs : List Value, PySem.W.KatTups h vs fs ∧ fs.length = vs.length ∧ ∀ f ∈ fs, ∃ x y, Srt.IsPair h f x y
  | [], _ => ⟨[], PySem.W.KatTups.nil, rfl, fun _ hm => by simp at hm⟩
  | v :: vs, hp => by
    obtain ⟨fs, h1, h2, h3⟩ := firsts_item (vs := vs) fun v' hm => hp v' (List.mem_cons_of_mem _ hm)
    obtain ⟨x, y, a, o, n, p, c, e, ho, hc, hd, hpp⟩ := hp v (List.mem_cons_self ..)
    subst e
    refine ⟨.ref p :: fs, PySem.W.KatTups.cons ho hc hd rfl h1, by rw [List.length_cons, List.length_cons, h2], fun f hm => ?_⟩
    rcases List.mem_cons.mp hm with rfl | hm
    · exact ⟨x, y, hpp⟩
    · exact h3 f hm
theorem items_sortable {a : Addr} {vs : List Value} {k : Value → Int × Int} (h0 : 0 < vs.length) (hu : A.units < cLine) (hp : ∀ v ∈ vs, IsItem s.heap v (k v).1 (k v).2) (inj : ∀ v ∈ vs, ∀ u ∈ vs, k v = k u → v = u) (ha : ∀ o, s.heap.get? a = some o → o.cls ≠ .type "tuple") : SortableO prog w A s a vs fun v u => lexB (k v) (k u) := by
  intro h' keep
  have hp' : ∀ v ∈ vs, IsItem h' v (k v).1 (k v).2 := fun v hm => (hp v hm).keeps fun b o e c => keep b o (fun z => by subst z; exact ha o e c) e
  obtain ⟨fs, h1, h2, h3⟩ := firsts_item fun v hm => ⟨_, _, hp' v hm⟩
  refine ⟨tuples' false, fun Q E hq => ?_, item_cmp hu hp' inj⟩
  refine PySem.W.kat_kind (T := .type "tuple") h1 (by omega) (fun f hm => ?_) (by rfl) ?_
  · obtain ⟨x, y, a, o, t, u, n, rfl, ho, hc, hd⟩ := h3 f hm
    exact fun A Q E s' k q => wpAny_typeOf (show s'.TypeIs (.ref a) "tuple" from ⟨o, k _ _ ho, hc⟩) q
  · have e : (Value.type "tuple" != Value.type "tuple") = false := by first | decide +kernel | rfl | decide
    rw [e]
    exact hq
theorem sorted_items {l : Addr} {vs : List Value} {k : Value → Int × Int} {Q : Value → Shared → Prop} (hu : A.units + 2 < cLine) (hl : s.heap.IsList l vs.toArray) (hz : vs.length ≤ sizeLine) (hp : ∀ v ∈ vs, IsItem s.heap v (k v).1 (k v).2) (inj : ∀ v ∈ vs, ∀ u ∈ vs, k v = k u → v = u)
    (h : ∀ (h' : Heap) (d : Addr) (out : List Value), Srtd (fun v u => lexB (k v) (k u)) out → Stb (fun v u => lexB (k v) (k u)) out vs → (∀ b o, s.heap.get? b = some o → h'.get? b = some o) → s.heap.objs.size ≤ d → (∃ n, h'.get? d = some (seqObj "list" out.toArray n)) → Q (.ref d) { s with heap := h' }) :
    wpAny (model prog w) A (call (.builtin "sorted") [.ref l]) Q E s := by
  refine sorted_ord (swo_lex k) hl hz (fun h2 h₁ a ha kk => ?_) fun out hs hb => ?_
  · refine items_sortable (s := { s with heap := h₁ }) (by omega) (by show A.units + 1 + 1 < cLine; omega) (fun v hm => (hp v hm).keeps fun b o e _ => (kk b o e).2) inj fun o e => ?_
    have e' : some o = some (seqObj "list" vs.toArray 0) := e.symm.trans ha
    cases e'
    intro c
    exact absurd (Value.type.inj c) (by decide)
  · exact h _ _ out hs hb (fun b o e => sortedAll_old e) (Nat.le_succ _) (sortedAll_at s.heap vs out.toArray)
end
end SrtI

/-! DG14: sorted of a list of (pair, anything) with different pairs, as a rule. -/
namespace L2
open PySem PySem.Spec PyProof.Rows
def rSortIL (K : PySem.W.Frag) : List V → Hp → VK → Prop := fun vs H Q => ∃ (a : Addr) (xs : List V) (k : V → Int × Int), vs = [V.ref a] ∧ SqL K H a xs ∧
  (∀ x ∈ xs, ∃ t p c, x = V.ref t ∧ H t = some (.tup [.ref p, c]) ∧ H p = some (.tup [.int (k x).1, .int (k x).2])) ∧ (∀ x ∈ xs, ∀ y ∈ xs, k x = k y → x = y) ∧
  ∀ ys p, SrtO.Srtd (ltP k) ys → SrtO.Stb (ltP k) ys xs → H p = none → Q (.ref p) (upd H p (.lst ys))
section
variable {X : Cx}
theorem cr_sortIL (hu : X.A.units + 2 < cLine) : CallR X (.builtin "sorted") (rSortIL X.K) := by
  intro pins s σ H vs us Q I r h
  obtain ⟨a, xs, k, rfl, hs, hx, inj, q⟩ := h
  obtain ⟨its, rv, hl, hz⟩ := I.list hs
  obtain ⟨u, rfl, ru⟩ := vals1 r
  obtain rfl : u = Value.ref a := ru
  obtain ⟨e1, e2⟩ := refs_back rv fun x m => by
    obtain ⟨t, _, _, e, _⟩ := hx x m
    exact ⟨t, e⟩
  have mem : ∀ v ∈ its, ∃ t, v = Value.ref t ∧ V.ref t ∈ xs := fun v hv => by
    obtain ⟨t, rfl⟩ := e2 v hv
    exact ⟨t, rfl, by rw [e1]; exact List.mem_map.mpr ⟨_, hv, rfl⟩⟩
  refine SrtI.sorted_items (k := fun u => k (backV u)) hu hl.isList (by rw [← rv.length]; exact hz) (fun v hv => ?_) (fun v hv u hu e => ?_) fun h' d out h1 h2 kp hd hn => ?_
  · obtain ⟨t, rfl, hm⟩ := mem v hv
    obtain ⟨t', p, c, e, ht, hp⟩ := hx _ hm
    cases e
    obtain ⟨_, its2, r2, o, ho, hc, n, hd⟩ := I.hok _ _ ht
    obtain ⟨u1, u2, rfl, ri, rj⟩ := vals2 r2
    obtain rfl : u1 = Value.ref p := ri
    obtain ⟨_, its3, r3, o3, ho3, hc3, n3, hd3⟩ := I.hok _ _ hp
    obtain ⟨u3, u4, rfl, r5, r6⟩ := vals2 r3
    obtain ⟨t1, rfl⟩ := r5
    obtain ⟨t2, rfl⟩ := r6
    exact ⟨t, o, n, p, u2, rfl, ho, hc, hd, p, o3, t1, t2, n3, rfl, ho3, hc3, hd3⟩
  · obtain ⟨t, rfl, hm⟩ := mem v hv
    obtain ⟨t', rfl, hm'⟩ := mem u hu
    have := inj _ hm _ hm' e
    cases this
    rfl
  · have h3 : ∀ u ∈ out, ∃ a, u = Value.ref a := fun u hu => e2 u (h2.perm.mem_iff.mp hu)
    obtain ⟨n, hn⟩ := hn
    have hb : SrtO.Stb (ltP k) (out.map backV) xs := by
      rw [e1]
      exact SrtO.Stb.map (ltP_swo k) backV h2
    refine ⟨.ref d, upd H d (.lst (out.map backV)), I.laid (t' := s.toks) kp hd ⟨?_, out, n, vals_back h3, hn⟩, rfl, q _ d (SrtO.srtd_map h1) hb (I.hok.fresh hd)⟩
    rw [hb.len]
    exact hz
end
end L2
namespace DL
open PySem L2
theorem isL_perm {K : PySem.W.Frag} {H : Hp} {ys vs : List V} (p : ys.Perm vs) : ∀ {ds : List D}, IsL K H vs ds → ∃ es : List D, es.Perm ds ∧ IsL K H ys es := by
  induction p with
  | nil => intro ds h; exact ⟨ds, .refl _, h⟩
  | cons x p ih =>
    intro ds h
    cases h with
    | cons a r =>
      obtain ⟨es, q, l⟩ := ih r
      exact ⟨_ :: es, q.cons _, .cons a l⟩
  | swap x y l =>
    intro ds h
    cases h with
    | cons a r =>
      cases r with
      | cons b r => exact ⟨_ :: _ :: _, .swap _ _ _, .cons b (.cons a r)⟩
  | trans p q ih1 ih2 =>
    intro ds h
    obtain ⟨es, q1, l1⟩ := ih2 h
    obtain ⟨es2, q2, l2⟩ := ih1 l1
    exact ⟨es2, q2.trans q1, l2⟩
def keyD : D → Option (Int × Int)
  | .tup [.tup [.int x, .int y], _] => some (x, y)
  | _ => none
def keyV (H : Hp) : V → Int × Int
  | .ref t => match H t with
    | some (.tup [.ref p, _]) => (match H p with
      | some (.tup [.int x, .int y]) => (x, y)
      | _ => (0, 0))
    | _ => (0, 0)
  | _ => (0, 0)
theorem key_of {K : PySem.W.Frag} {Hb H : Hp} (s : Sub Hb H) {v : V} {d : D} {q : Int × Int} (i : Is K Hb v d) (e : keyD d = some q) : ∃ t p c, v = V.ref t ∧ H t = some (.tup [.ref p, c]) ∧ H p = some (.tup [.int q.1, .int q.2]) ∧ keyV H v = q := by
  unfold keyD at e
  split at e
  · rename_i x y c
    cases e
    cases i with
    | tup h l =>
      cases l with
      | cons a l =>
        cases l with
        | cons b l =>
          cases l
          cases a with
          | tup h2 l2 =>
            cases l2 with
            | cons a2 l2 =>
              cases l2 with
              | cons b2 l2 =>
                cases l2
                cases a2
                cases b2
                refine ⟨_, _, _, rfl, s.at h, s.at h2, ?_⟩
                simp only [keyV, s.at h, s.at h2]
  · cases e
def ltK (a b : D) : Prop := ∃ p q, keyD a = some p ∧ keyD b = some q ∧ SrtO.lexB p q = true
def gSortI : GN := fun xs k => ∃ d ds, xs = [d] ∧ lstD d = some ds ∧ (∀ e ∈ ds, (keyD e).isSome) ∧ (ds.map keyD).Nodup ∧ ∀ es : List D, es.Perm ds → es.Pairwise ltK → k (.lst es)
theorem lex_tri {p q : Int × Int} (h : SrtO.lexB p q = false) (n : p ≠ q) : SrtO.lexB q p = true := by
  have := SrtO.lexB_no.mp h
  refine SrtO.lexB_iff.mpr ?_
  have n' : ¬ (p.1 = q.1 ∧ p.2 = q.2) := fun z => n (Prod.ext z.1 z.2)
  omega
theorem rv_sortI {K : PySem.W.Frag} : RVN K (rSortIL K) gSortI := fun Hb H xs ds k Q s l g q => by
  obtain ⟨d, ds, rfl, e1, hk, nd, g⟩ := g
  obtain ⟨v, rfl, i⟩ := o_one l
  obtain ⟨a, vs, rfl, h, m⟩ := o_lstD s i e1
  have at1 : ∀ (j : Nat) (x : V), vs[j]? = some x → ∃ e p, ds[j]? = some e ∧ keyD e = some p ∧ keyV H x = p ∧ Is K Hb x e := fun j x hj => by
    have hl : j < ds.length := by rw [← m.length]; exact (List.getElem?_eq_some_iff.mp hj).1
    obtain ⟨x', hx', ix⟩ := m.get (List.getElem?_eq_getElem hl)
    rw [hj] at hx'; cases hx'
    have hs := hk ds[j] (List.getElem_mem hl)
    obtain ⟨p, hp⟩ := Option.isSome_iff_exists.mp hs
    obtain ⟨_, _, _, _, _, _, kv⟩ := key_of s ix hp
    exact ⟨ds[j], p, List.getElem?_eq_getElem hl, hp, kv, ix⟩
  refine ⟨a, vs, keyV H, rfl, h, fun x hx => ?_, fun x hx y hy e => ?_, fun ys p hs hb hp => ?_⟩
  · obtain ⟨j, hj⟩ := List.getElem?_of_mem hx
    obtain ⟨e, p, _, hp, kv, ix⟩ := at1 j x hj
    obtain ⟨t, p', c, e2, h1, h2, kv'⟩ := key_of s ix hp
    rw [kv']
    exact ⟨t, p', c, e2, h1, h2⟩
  · obtain ⟨j, hj⟩ := List.getElem?_of_mem hx
    obtain ⟨i', hi⟩ := List.getElem?_of_mem hy
    obtain ⟨e1', p1, d1, k1, kv1, _⟩ := at1 j x hj
    obtain ⟨e2', p2, d2, k2, kv2, _⟩ := at1 i' y hi
    have ep : p1 = p2 := by rw [← kv1, ← kv2, e]
    have hji : j = i' := by
      have a1 : (ds.map keyD)[j]? = some (some p1) := by rw [List.getElem?_map, d1]; exact congrArg some k1
      have a2 : (ds.map keyD)[i']? = some (some p1) := by rw [List.getElem?_map, d2, ep]; exact congrArg some k2
      exact (List.getElem?_inj (List.getElem?_eq_some_iff.1 a1).1 nd).1 (a1.trans a2.symm)
    subst hji
    rw [hj] at hi
    exact Option.some.inj hi
  · obtain ⟨es, pe, le⟩ := isL_perm hb.perm m
    have ndE : (es.map keyD).Nodup := (pe.map keyD).nodup_iff.2 nd
    have hkE : ∀ e ∈ es, (keyD e).isSome := fun e he => hk e (pe.mem_iff.1 he)
    refine q _ _ _ _ (g es pe ?_) (.one hp) (.lst upd_same (le.mono (Sub.new (s.none hp))))
    rw [List.pairwise_iff_getElem]
    intro i j hi hj hij
    obtain ⟨p1, k1⟩ := Option.isSome_iff_exists.mp (hkE es[i] (List.getElem_mem hi))
    obtain ⟨p2, k2⟩ := Option.isSome_iff_exists.mp (hkE es[j] (List.getElem_mem hj))
    obtain ⟨x, hx, ix⟩ := le.get (List.getElem?_eq_getElem hi)
    obtain ⟨y, hy, iy⟩ := le.get (List.getElem?_eq_getElem hj)
    obtain ⟨_, _, _, _, _, _, kx⟩ := key_of s ix k1
    obtain ⟨_, _, _, _, _, _, ky⟩ := key_of s iy k2
    refine ⟨p1, p2, k1, k2, ?_⟩
    have hlt : (ltP (keyV H)) y x = false := by
      obtain ⟨hi', ex⟩ := List.getElem?_eq_some_iff.1 hx
      obtain ⟨hj', ey⟩ := List.getElem?_eq_some_iff.1 hy
      have := (List.pairwise_iff_getElem.1 hs) i j hi' hj' hij
      rw [ex, ey] at this
      exact this
    refine lex_tri (p := p2) (q := p1) ?_ ?_
    · have h2 : SrtO.lexB (keyV H y) (keyV H x) = false := hlt
      rw [kx, ky] at h2
      exact h2
    · intro e
      subst e
      have a1 : (es.map keyD)[i]? = some (some p2) := by rw [List.getElem?_map, List.getElem?_eq_getElem hi]; exact congrArg some k1
      have a2 : (es.map keyD)[j]? = some (some p2) := by rw [List.getElem?_map, List.getElem?_eq_getElem hj]; exact congrArg some k2
      have := (List.getElem?_inj (List.getElem?_eq_some_iff.1 a1).1 ndE).1 (a1.trans a2.symm)
      omega
end DL

/-! DG15: d.get(k, z), {} with tuple keys, starred items in a display. -/
namespace DL
open PySem L2
open PyProof.Rows hiding St
def fGet2 (F Fk Fz : FE) : FE := fun ρ post xp => F ρ (fun d ρ1 => isDict d ∧ Fk ρ1 (fun k ρ2 => Fz ρ2 (fun z ρ3 => ∃ r, getK d k = some r ∧ post (r.getD z) ρ3) xp) xp) xp
@[simp ↓] theorem fGet2_ap (F Fk Fz : FE) (ρ : Env) (post : Post) (xp : XP) : fGet2 F Fk Fz ρ post xp = (F ρ (fun d ρ1 => isDict d ∧ Fk ρ1 (fun k ρ2 => Fz ρ2 (fun z ρ3 => ∃ r, getK d k = some r ∧ post (r.getD z) ρ3) xp) xp) xp) := (rfl)
def fGetO (i : Nat) (Fk Fz : FE) : FE := fun ρ post xp => (∃ d0, get ρ i = some d0 ∧ isDict d0) ∧ Fk ρ (fun k ρ2 => Fz ρ2 (fun z ρ3 => ∃ d r, get ρ3 i = some d ∧ getK d k = some r ∧ post (r.getD z) ρ3) xp) xp
@[simp ↓] theorem fGetO_ap (i : Nat) (Fk Fz : FE) (ρ : Env) (post : Post) (xp : XP) : fGetO i Fk Fz ρ post xp = ((∃ d0, get ρ i = some d0 ∧ isDict d0) ∧ Fk ρ (fun k ρ2 => Fz ρ2 (fun z ρ3 => ∃ d r, get ρ3 i = some d ∧ getK d k = some r ∧ post (r.getD z) ρ3) xp) xp) := (rfl)
theorem isD_cell {K : PySem.W.Frag} {Hb H : Hp} {p : Addr} {d : D} (c : RCell K Hb H p d) (h : isDict d) : IsD H p := by
  cases d <;> first | exact h.elim | skip
  · obtain ⟨vs, h1, _⟩ := c; exact .inl ⟨vs, h1⟩
  · obtain ⟨vs, h1, _⟩ := c; exact .inr ⟨vs, h1⟩
  · obtain ⟨vs, h1, _⟩ := c; exact .inl ⟨vs, h1⟩
  · obtain ⟨vs, h1, _⟩ := c; exact .inl ⟨vs, h1⟩
theorem is_dictref {K : PySem.W.Frag} {Hb : Hp} {v : V} {d : D} (i : Is K Hb v d) (h : isDict d) : ∃ p, v = .ref p := by
  cases i <;> first | exact h.elim | exact ⟨_, rfl⟩
theorem cell_dict {K : PySem.W.Frag} {Hb H : Hp} {a : Addr} {d : D} (i : Is K Hb (.ref a) d) (s : Sub Hb H) (h : isDict d) : RCell K Hb H a d :=
  cell_of_is i s (by cases d <;> first | exact h.elim | trivial)
section
variable {X : Cx} {Wx : WX} {P L I J J1 J2 : List Nat} {o e f : Expr} {es : List Expr} {F Fk Fz : FE} {A : FA} {pos p apos cpos : Pos} {td ty tx te : TE} {tA : TA} {x : Str}
theorem de_get2 (hu : X.A.units + 1 < cLine) (ho : DE X Wx P I o td F J1) (hk : DE X Wx P J1 e ty Fk J2) (hz : DE X Wx P J2 f tx Fz J) (m : M2 X o "get" apos e f cpos := by exact ⟨rfl, rfl, rfl, rfl⟩) : DE X Wx P I (.Call (.Attribute o "get" apos) [e, f] [] cpos) (tDGet2 td ty tx) (fGet2 F Fk Fz) J :=
  de_of (pe_dget2 hu ho.pe hk.pe hz.pe m) fun W ρ σ Hb H Q post xp E g x q => ho.ev W ρ σ Hb H _ _ xp E g x fun d ρ1 v Hb1 H1 f1 E1 s1 i1 => by
    obtain ⟨dd, f1⟩ := f1
    obtain ⟨a, rfl⟩ := is_dictref i1 dd
    refine ⟨a, rfl, isD_cell (cell_dict i1 E1.sub dd) dd, hk.ev W ρ1 σ Hb1 H1 _ _ xp E1 f1 x fun kd ρ2 y Hb2 H2 f2 E2 s2 i2 => hz.ev W ρ2 σ Hb2 H2 _ _ xp E2 f2 x fun zd ρ3 z Hb3 H3 f3 E3 s3 i3 => ?_⟩
    obtain ⟨r, gr, f3⟩ := f3
    have i1' := i1.mono (s2.trans s3)
    obtain ⟨ov, dg, h1, h2⟩ := cell_get (cell_dict i1' E3.sub dd) (i2.mono s3) E3.sub gr
    refine ⟨ov, dg, ?_⟩
    cases r with
    | none => rw [h1 rfl]; exact q _ _ _ _ _ f3 E3 ((s1.trans s2).trans s3) i3
    | some w =>
      obtain ⟨v', e', i'⟩ := h2 w rfl
      rw [e']
      exact q _ _ _ _ _ f3 E3 ((s1.trans s2).trans s3) i'
theorem de_getO (hu : X.A.units + 1 < cLine) (i : Nat) (hi : i ∈ P ∨ i ∈ I := by decide) (hj : i ∈ P ∨ i ∈ J := by decide) (hk : DE X Wx P I e ty Fk J2) (hz : DE X Wx P J2 f tx Fz J) (hN : X.N[i]? = some x := by rfl) (hv : Vis X.env.scope x := by first | exact Or.inl rfl | exact Or.inr (Or.inl rfl) | exact Or.inr (Or.inr rfl)) (hd : (x == ("__debug__" : Str)) = false := by decide)
    (hcd : (x == ("__classdict__" : Str)) = false := by decide) (m : M2 X (.Name x p) "get" apos e f cpos := by exact ⟨rfl, rfl, rfl, rfl⟩) : DE X Wx P I (.Call (.Attribute (.Name x p) "get" apos) [e, f] [] cpos) (tDGet2 (tVar i) ty tx) (fGetO i Fk Fz) J :=
  de_of (pe_dget2 hu (pe_var hN hv hd hcd) hk.pe hz.pe m) fun W ρ σ Hb H Q post xp E g x q => by
    obtain ⟨⟨d0, g0, dd⟩, f1⟩ := g
    obtain ⟨a, ea, _, c0, _⟩ := E.cel i d0 hi g0
    refine ⟨_, ea, a, rfl, isD_cell c0.r dd, hk.ev W ρ σ Hb H _ _ xp E f1 x fun kd ρ2 y Hb2 H2 f2 E2 s2 i2 => hz.ev W ρ2 σ Hb2 H2 _ _ xp E2 f2 x fun zd ρ3 z Hb3 H3 f3 E3 s3 i3 => ?_⟩
    obtain ⟨d, r, g3, gr, f3⟩ := f3
    obtain ⟨a', ea', _, c3, _⟩ := E3.cel i d hj g3
    rw [ea] at ea'
    cases ea'
    obtain ⟨ov, dg, h1, h2⟩ := cell_get c3.r (i2.mono s3) E3.sub gr
    refine ⟨ov, dg, ?_⟩
    cases r with
    | none => rw [h1 rfl]; exact q _ _ _ _ _ f3 E3 (s2.trans s3) i3
    | some w =>
      obtain ⟨v', e', i'⟩ := h2 w rfl
      rw [e']
      exact q _ _ _ _ _ f3 E3 (s2.trans s3) i'
/-- {} whose keys will be tuples -/
theorem dn_dict0T : DNw X Wx P I (.Dict [] [] pos) tDNewT (fC (.dt [])) I :=
  ⟨pe_dnewT, fun W ρ σ Hb H Q post xp E f x q p hp => q _ _ _ _ _ f (E.more hp) (Sub.refl _) (NewAt.mk' E hp ⟨[], upd_same, rfl, .nil⟩)⟩
end
end DL

/-! DG16: walks over dicts: keys, items. -/
namespace L2
open PySem PySem.Spec PyProof.Rows
/-- the dict that t gives is locked from here on -/
def tLk (t : TE) : TE := fun σ H Q => t σ H fun x H1 => ∃ d u, x = .ref d ∧ ((∃ o, H1 d = some (.frz o u) ∧ Q x H1) ∨ (H1 d = some u ∧ Mut (some u) ∧ ∀ o, Q x (upd H1 d (.frz o u))))
theorem pe_lk {X : Cx} {e : Expr} {t : TE} (h : PE X e t) : PE X e (tLk t) := by
  refine ⟨fun pins s σ H Q I hw => thn (h.run pins s σ H _ I hw) fun v s1 ⟨x, H1, I1, r, d, u, ex, q⟩ => ?_⟩
  rcases q with ⟨o, hd, q⟩ | ⟨hd, mu, q⟩
  · exact ⟨x, H1, I1, r, q⟩
  · obtain ⟨od, I2⟩ := I1.lock hd mu
    exact ⟨x, _, I2, r, q od⟩
section
variable {X : Cx} {pins : List (Addr × Obj)} {σ : St} {H : Hp} {s : Shared} {d : Addr} {o : Obj}
/-- what stands at a locked dict of tuple keys: key and value of each entry -/
theorem Inv.frzTv {kvs : List (List Key × V)} (I : Inv X pins σ H s) (h : H d = some (.frz o (.dT kvs))) :
    (d == sysModules) = false ∧ s.heap.get? d = some o ∧ o.ExactDict ∧ ∃ (es : Array DictEntry) (ep : Nat), o.data = .dict es ep ∧ es.size = kvs.length ∧
      ∀ (i : Nat) (k : List Key) (v : V), kvs[i]? = some (k, v) → ∃ (en : DictEntry) (q : Addr), es[i]? = some en ∧ en.key = .ref q ∧ H q = some (.tup (k.map kV)) ∧ RelV v en.val := by
  obtain ⟨hd, _, hs, xs, pr, o1, es, ep, ho, hx, hdt, he, _⟩ := I.hok d _ h
  have e1 : o1 = o := Option.some.inj (ho.symm.trans hd)
  subst e1
  refine ⟨hs, ho, hx, es, ep, hdt, (size_of_entries he).trans (Paired.length pr).symm, fun i k v e => ?_⟩
  obtain ⟨b, hb, e1, e2, e3⟩ := paired_get pr e
  have q := entry_at he i
  rw [hb] at q
  exact ⟨_, b.2.1, q, rfl, e2, e3⟩
end
/-- the pairs of a locked dict of tuple keys: a new tuple of the key's own tuple and the value -/
def ItiT (d : Addr) (o : Obj) (kvs : List (List Key × V)) : It where
  go i H := H d = some (.frz o (.dT kvs)) ∧ i < kvs.length
  yld i H x H' := ∃ (T q : Addr) (k : List Key) (v : V), kvs[i]? = some (k, v) ∧ x = .ref T ∧ H T = none ∧ H q = some (.tup (k.map kV)) ∧ H' = upd H T (.tup [.ref q, v])
  stop i H := H d = some (.frz o (.dT kvs)) ∧ kvs.length ≤ i
theorem turn_itT {P : Program} {w : World} {K : PySem.W.Frag} {d : Addr} {o : Obj} {es : Array DictEntry} {ep : Nat} {kvs : List (List Key × V)} {elts : List Expr} {kk : Nat} {tpos : Pos} (it : Addr) (hod : o.data = .dict es ep) :
    Turn P w K (.Tuple elts kk tpos) (ItiT d o kvs) [it] it (fun i h => ∃ a b, IsItemIter h it d i kvs.length ep a b) where
  mem := List.mem_singleton.mpr rfl
  obj := fun i h ⟨a, b, q⟩ c hc => by
    cases List.mem_singleton.mp hc
    exact ⟨_, q, fun v z => nomatch z⟩
  keep := fun i h h' ⟨a, b, q⟩ k => ⟨a, b, k it (List.mem_singleton.mpr rfl) _ q⟩
  item := by
    intro X eP ew eK hc i pins s σ H E I hf st hg
    subst eP ew eK
    obtain ⟨hd, hi⟩ := hg
    obtain ⟨_, hgd, hx, es1, ep1, hdt, hsz, ent⟩ := I.frzTv hd
    obtain ⟨e1, e2⟩ := dict_ep hod hdt
    subst e1 e2
    obtain ⟨⟨k, v⟩, hkv⟩ : ∃ p, kvs[i]? = some p := ⟨_, List.getElem?_eq_getElem hi⟩
    obtain ⟨en, q, hen, hkey, hHq, rv⟩ := ent i k v hkv
    obtain ⟨a, b, hit⟩ := st
    rw [← hsz] at hit
    have hie : i < es1.size := by rw [hsz]; exact hi
    have een : es1[i] = en := by
      have := Array.getElem?_eq_getElem hie
      rw [hen] at this
      exact (Option.some.inj this).symm
    have hlt : it < s.heap.objs.size := Heap.lt_size hit
    refine DT.nextI hit ⟨o, hgd, hx, hdt⟩ hie fun h1 hout hT hz hk => ⟨_, rfl, wpAny_letOwnedTupleGo_items (s := { s with heap := h1 }) hout fun h2 hit2 sb => ?_⟩
    rw [een] at hT
    have hT2 : h2.get? s.heap.objs.size = some { cls := .type "tuple", data := .seq #[en.key, en.val] } := (sb.2 _ (Nat.ne_of_gt hlt)).trans hT
    have new : ObjOk X.prog X.w (upd H s.heap.objs.size (.tup [.ref q, v])) h2 s.heap.objs.size (.tup [.ref q, v]) :=
      ⟨by show 2 ≤ sizeLine; decide, [en.key, en.val], .cons hkey (.cons rv .nil), ⟨_, hT2, rfl, _, rfl⟩⟩
    have I1 : Inv X pins σ (upd H s.heap.objs.size (.tup [.ref q, v])) { s with heap := h2 } :=
      I.turnedNew (t' := s.toks) (ch := [it]) (fun c oc hb e => by
        have hb : c ≠ it := fun z => hb (List.mem_singleton.mpr z)
        exact (sb.2 c hb).trans (hk c oc hb e)) hf (Nat.le_refl _) new
    refine ⟨.ref s.heap.objs.size, _, I1, rfl, ⟨_, q, k, v, hkv, rfl, I.hok.fresh (Nat.le_refl _), hHq, rfl⟩, ⟨en.key, en.val, ?_⟩, fun c hb => ?_⟩
    · rw [← hsz]
      rw [een] at hit2
      exact hit2
    · cases List.mem_singleton.mp hb
      rw [upd_ne (Nat.ne_of_lt hlt)]
      exact (hf it (List.mem_singleton.mpr rfl)).1
  done := by
    intro X eP ew eK hc i pins s σ H E I hf st hg
    subst eP ew eK
    obtain ⟨hd, hi⟩ := hg
    obtain ⟨f0, f1, f2, f3, f4, f5⟩ := hf it (List.mem_singleton.mpr rfl)
    obtain ⟨_, hgd, hx, es1, ep1, hdt, hsz, _⟩ := I.frzTv hd
    obtain ⟨e1, e2⟩ := dict_ep hod hdt
    subst e1 e2
    obtain ⟨a, b, hit⟩ := st
    rw [← hsz] at hit
    exact DT.endI (I.ok.hd hc) hit ⟨o, hgd, hx, hdt⟩ (by rw [hsz]; exact hi) fun h1 eb => ⟨rfl, I.turned (t' := s.toks) (fun c oc hb e => eb c oc hb e) f0 f1 f3 f4 f5⟩
  self := fun A i s Q E ⟨_, _, q⟩ h => PySem.W.kcp_self q h
/-- d.items(), the keys tuples; d is locked -/
def iItT (td : TE) : TI := fun σ H R => td σ H fun x H1 => ∃ d o kvs, x = .ref d ∧ H1 d = some (.frz o (.dT kvs)) ∧ R (ItiT d o kvs) H1
theorem pi_itT {X : Cx} {e : Expr} {td : TE} {apos cpos tpos : Pos} {elts : List Expr} {kk : Nat} (he : PE X e td) (hb : attributeBase e "items" X.env (eval e X.env) = eval e X.env := by rfl) (hl : (apos.endLine == cpos.line) = true := by rfl) :
    PI X (.Tuple elts kk tpos) (.Call (.Attribute e "items" apos) [] [] cpos) (iItT td) := by
  refine ⟨fun pins s σ H R I h => wpAny_Call_method (T := "dict") (id := "dict.items") hb rfl hl PySem.F.plainAttrs_dict PySem.F.slot_dict_items PySem.F.type_dict_items
    (thn (he.run pins s σ H _ I h) fun u s1 ⟨x, H1, I1, rx, d, o, kvs, ex, hd, q⟩ => ?_)⟩
  subst ex
  obtain rfl : u = Value.ref d := rx
  obtain ⟨hs, hgd, hx, es, ep, hdt, hsz, _⟩ := I1.frzTv hd
  have rw0 : DT.Raw s1.heap d es ep := ⟨o, hgd, hx, hdt⟩
  refine ⟨rw0.typeIs, fun b eb => ?_, ?_⟩
  · cases eb
    exact ⟨o, hgd, hx.2.1⟩
  · have I2 : Inv X pins σ H1 { s1 with heap := s1.heap.push { cls := .type "dict_items", data := .fields #[.ref d] } } := I1.kept (t' := s1.toks) fun b ob q => Heap.get?_push_of_some _ q
    have fin : wpAny (model X.prog X.w) X.A (pyIter (.ref s1.heap.objs.size)) (PIE X pins σ (.Tuple elts kk tpos) R) X.xe { s1 with heap := s1.heap.push { cls := .type "dict_items", data := .fields #[.ref d] } } := by
      refine DT.iterI (es := es) (ep := ep) ⟨_, Heap.get?_push_size _ rfl, rfl, rfl⟩ (rw0.push _) (pi_one (tk := s1.toks) I2 _ (turn_itT _ hdt) ⟨.none, .none, ?_⟩ q)
      rw [← hsz]
      exact Heap.get?_push_size _ rfl
    exact method_meetsIn PySem.F.slot_dict_items PySem.F.entry_dict_items rfl (PySem.evalArgs_none ⟨rfl, rw0.typeIs, PySem.F.args_dict_items_1 _, _, DT.meetsItems (es := es) (ep := ep) hs, rw0, fin⟩)
end L2

/-! DG17: walks over dicts, over data. -/
namespace DL
open PySem L2
open PyProof.Rows hiding St
@[simp] def kD : Key → D
  | .inl i => .int i
  | .inr s => .str s
theorem kD_is {K : PySem.W.Frag} {H : Hp} : ∀ k : Key, Is K H (kV k) (kD k)
  | .inl i => .int i
  | .inr s => .str s
theorem kDs_is {K : PySem.W.Frag} {H : Hp} : ∀ ks : List Key, IsL K H (ks.map kV) (ks.map kD)
  | [] => .nil
  | k :: r => .cons (kD_is k) (kDs_is r)
def Lkd (K : PySem.W.Frag) (Hb : Hp) (u : HO) : D → Prop
  | .dk kvs => ∃ vs : List (Key × V), u = .dK vs ∧ vs.map (·.1) = kvs.map (·.1) ∧ IsL K Hb (vs.map (·.2)) (kvs.map (·.2))
  | .dt kvs => ∃ vs : List (List Key × V), u = .dT vs ∧ vs.map (·.1) = kvs.map (·.1) ∧ IsL K Hb (vs.map (·.2)) (kvs.map (·.2))
  | .nest _ _ kvs => ∃ vs : List (Key × V), u = .dK vs ∧ vs.map (·.1) = kvs.map (·.1) ∧ IsL K Hb (vs.map (·.2)) (kvs.map (·.2))
  | .nestL _ _ _ kvs => ∃ vs : List (Key × V), u = .dK vs ∧ vs.map (·.1) = kvs.map (·.1) ∧ IsL K Hb (vs.map (·.2)) (kvs.map (·.2))
  | _ => False
theorem Lkd.mono {K : PySem.W.Frag} {Hb Hb' : Hp} {u : HO} (s : Sub Hb Hb') : ∀ {d : D}, Lkd K Hb u d → Lkd K Hb' u d
  | .dk _, ⟨vs, a, b, c⟩ => ⟨vs, a, b, c.mono s⟩
  | .dt _, ⟨vs, a, b, c⟩ => ⟨vs, a, b, c.mono s⟩
  | .nest _ _ _, ⟨vs, a, b, c⟩ => ⟨vs, a, b, c.mono s⟩
  | .nestL _ _ _ _, ⟨vs, a, b, c⟩ => ⟨vs, a, b, c.mono s⟩
theorem Lkd.do {K : PySem.W.Frag} {Hb : Hp} {u : HO} : ∀ {d : D}, Lkd K Hb u d → isDO u = true ∧ Mut (some u)
  | .dk _, ⟨vs, a, _⟩ => by subst a; exact ⟨rfl, True.intro⟩
  | .dt _, ⟨vs, a, _⟩ => by subst a; exact ⟨rfl, True.intro⟩
  | .nest _ _ _, ⟨vs, a, _⟩ => by subst a; exact ⟨rfl, True.intro⟩
  | .nestL _ _ _ _, ⟨vs, a, _⟩ => by subst a; exact ⟨rfl, True.intro⟩
theorem lkd_of {K : PySem.W.Frag} {Hb : Hp} {p : Addr} : ∀ {d : D}, isDict d → Is K Hb (.ref p) d → ∃ u, Rd Hb p u ∧ Lkd K Hb u d
  | .dk _, _, .dk h e l => ⟨_, h, _, rfl, e, l⟩
  | .dt _, _, .dt h e l => ⟨_, h, _, rfl, e, l⟩
  | .nest _ _ _, _, .nest h e l => ⟨_, h, _, rfl, e, l⟩
  | .nestL _ _ _ _, _, .nestL h e l => ⟨_, h, _, rfl, e, l⟩
section
variable {X : Cx} {Wx : WX} {P L I J : List Nat} {e tg : Expr} {F : FE} {te : TE}
theorem lk_ev (h : DE X Wx P I e te F J) : ∀ (W : Wd) (ρ : Env) (σ : St) (Hb H : Hp) (Q : VK) (post : Post) (xp : XP), EnvOk X.K W P I ρ σ Hb H → F ρ (fun d ρ1 => isDict d ∧ post d ρ1) xp → XOk X Wx W P σ xp →
    (∀ d ρ' p o u Hb' H', post d ρ' → EnvOk X.K W P J ρ' σ Hb' H' → Sub Hb Hb' → Hb' p = some (.frz o u) → Lkd X.K Hb' u d → Q (.ref p) H') → tLk te σ H Q := by
  intro W ρ σ Hb H Q post xp E f x q
  refine h.ev W ρ σ Hb H _ _ xp E f x fun d ρ1 v Hb1 H1 f1 E1 s1 i1 => ?_
  obtain ⟨dd, f1⟩ := f1
  obtain ⟨p, rfl⟩ := isDict_ref dd i1
  obtain ⟨u, r, l⟩ := lkd_of dd i1
  obtain ⟨du, mu⟩ := l.do
  refine ⟨p, u, rfl, ?_⟩
  rcases r with r | ⟨o, r⟩
  · obtain ⟨o', h', fz⟩ := E1.sub _ _ r
    rcases fz with rfl | ⟨_, od, rfl⟩
    · refine .inr ⟨h', mu, fun o => ?_⟩
      obtain ⟨E2, s2⟩ := E1.lockD (od := o) r du (.inl h')
      exact q d ρ1 p o _ _ _ f1 E2 (s1.trans s2) upd_same (l.mono s2)
    · refine .inl ⟨od, h', ?_⟩
      obtain ⟨E2, s2⟩ := E1.lockD (od := od) r du (.inr h')
      have e : upd H1 p (.frz od u) = H1 := by
        funext a
        by_cases ha : a = p
        · subst ha; rw [upd_same, h']
        · rw [upd_ne ha]
      rw [e] at E2
      exact q d ρ1 p od _ _ _ f1 E2 (s1.trans s2) upd_same (l.mono s2)
  · exact .inl ⟨o, E1.sub.at r, q d ρ1 p o u _ _ f1 E1 s1 r l⟩
theorem key_at {κ : Type} {vs : List (κ × V)} {kvs : List (κ × D)} (e : vs.map (·.1) = kvs.map (·.1)) {i : Nat} {kd : κ × D} (h : kvs[i]? = some kd) : ∃ v, vs[i]? = some (kd.1, v) := by
  have h1 : (vs.map (·.1))[i]? = some kd.1 := by rw [e, List.getElem?_map, h]; rfl
  rw [List.getElem?_map] at h1
  cases q : vs[i]? with
  | none => rw [q] at h1; cases h1
  | some p =>
    rw [q] at h1
    have : p.1 = kd.1 := Option.some.inj h1
    exact ⟨p.2, by rw [← this]⟩
theorem val_at {κ : Type} {K : PySem.W.Frag} {H : Hp} {vs : List (κ × V)} {kvs : List (κ × D)} (l : IsL K H (vs.map (·.2)) (kvs.map (·.2))) {i : Nat} {kv : κ × V} {kd : κ × D} (h : vs[i]? = some kv) (h' : kvs[i]? = some kd) : Is K H kv.2 kd.2 := by
  obtain ⟨v, e, is⟩ := l.get (show (kvs.map (·.2))[i]? = some kd.2 by rw [List.getElem?_map, h']; rfl)
  rw [List.getElem?_map, h] at e
  cases e
  exact is
theorem len_keys {κ α β : Type} {vs : List (κ × α)} {kvs : List (κ × β)} (e : vs.map (·.1) = kvs.map (·.1)) : vs.length = kvs.length := by
  have := congrArg List.length e
  simpa using this
theorem itd_keysK {K : PySem.W.Frag} {Hb : Hp} {d : Addr} {o : Obj} {vs : List (Key × V)} {kvs : List (Key × D)} (h : Hb d = some (.frz o (.dK vs))) (e : vs.map (·.1) = kvs.map (·.1)) : ItD K (Itk d o vs) Hb (kvs.map fun kv => kD kv.1) := fun i H1 Hb1 s1 s2 => by
  have h1 : H1 d = some (.frz o (.dK vs)) := (s1.trans s2).at h
  refine ⟨fun x hx => ?_, fun ei => ⟨h1, by rw [ei, List.length_map, len_keys e]; exact Nat.le_refl _⟩⟩
  rw [List.getElem?_map] at hx
  cases q : kvs[i]? with
  | none => rw [q] at hx; cases hx
  | some kd =>
    rw [q] at hx; cases hx
    obtain ⟨v, hv⟩ := key_at e q
    refine ⟨⟨h1, (List.getElem?_eq_some_iff.mp hv).1⟩, fun y H2 ⟨eH, k, v', hk, ey⟩ => ?_⟩
    subst eH ey
    rw [hv] at hk; cases hk
    exact ⟨Hb1, .refl, kD_is _⟩
theorem itd_keysT {K : PySem.W.Frag} {Hb : Hp} {d : Addr} {o : Obj} {vs : List (List Key × V)} {kvs : List (List Key × D)} (h : Hb d = some (.frz o (.dT vs))) (e : vs.map (·.1) = kvs.map (·.1)) : ItD K (Itkt d o vs) Hb (kvs.map fun kv => D.tup (kv.1.map kD)) := fun i H1 Hb1 s1 s2 => by
  have h1 : H1 d = some (.frz o (.dT vs)) := (s1.trans s2).at h
  refine ⟨fun x hx => ?_, fun ei => ⟨h1, by rw [ei, List.length_map, len_keys e]; exact Nat.le_refl _⟩⟩
  rw [List.getElem?_map] at hx
  cases q : kvs[i]? with
  | none => rw [q] at hx; cases hx
  | some kd =>
    rw [q] at hx; cases hx
    obtain ⟨v, hv⟩ := key_at e q
    refine ⟨⟨h1, (List.getElem?_eq_some_iff.mp hv).1⟩, fun y H2 ⟨eH, k, v', t, hk, ey, ht⟩ => ?_⟩
    subst eH ey
    rw [hv] at hk; cases hk
    exact ⟨_, .know .refl ht, .tup upd_same (kDs_is _)⟩
theorem itd_itemsT {K : PySem.W.Frag} {Hb : Hp} {d : Addr} {o : Obj} {vs : List (List Key × V)} {kvs : List (List Key × D)} (h : Hb d = some (.frz o (.dT vs))) (e : vs.map (·.1) = kvs.map (·.1)) (l : IsL K Hb (vs.map (·.2)) (kvs.map (·.2))) :
    ItD K (ItiT d o vs) Hb (kvs.map fun kv => D.tup [.tup (kv.1.map kD), kv.2]) := fun i H1 Hb1 s1 s2 => by
  have h1 : H1 d = some (.frz o (.dT vs)) := (s1.trans s2).at h
  refine ⟨fun x hx => ?_, fun ei => ⟨h1, by rw [ei, List.length_map, len_keys e]; exact Nat.le_refl _⟩⟩
  rw [List.getElem?_map] at hx
  cases q : kvs[i]? with
  | none => rw [q] at hx; cases hx
  | some kd =>
    rw [q] at hx; cases hx
    obtain ⟨v, hv⟩ := key_at e q
    refine ⟨⟨h1, (List.getElem?_eq_some_iff.mp hv).1⟩, fun y H2 ⟨T, t, k, v', hk, ey, hT, ht, eH⟩ => ?_⟩
    subst eH ey
    rw [hv] at hk; cases hk
    have sk : Sub Hb1 (upd Hb1 t (.tup (kd.1.map kV))) := fun a u ea => by
      by_cases ha : a = t
      · subst ha
        obtain ⟨o', h', f⟩ := s2 a u ea
        rw [ht] at h'; cases h'
        exact ⟨_, upd_same, f⟩
      · rw [upd_ne ha]; exact ⟨u, ea, .inl rfl⟩
    have tT : t ≠ T := ne_of_none ht hT
    have nT : upd Hb1 t (.tup (kd.1.map kV)) T = none := by rw [upd_ne (Ne.symm tT)]; exact s2.none hT
    have nb := Sub.new (o := .tup [.ref t, v]) nT
    refine ⟨_, .step (.know .refl ht) hT, .tup upd_same (.cons (.tup ?_ (kDs_is _)) (.cons ((((val_at l hv q).mono s1).mono sk).mono nb) .nil))⟩
    rw [upd_ne tT, upd_same]
/-- for x in d -/
def fKeysI (F : FE) : FA := fun ρ post xp => F ρ (fun d ρ1 => isDict d ∧ match d with
  | .dk kvs => post (kvs.map fun kv => kD kv.1) ρ1
  | .dt kvs => post (kvs.map fun kv => .tup (kv.1.map kD)) ρ1
  | _ => False) xp
@[simp ↓] theorem fKeysI_ap (F : FE) (ρ : Env) (post : List D → Env → Prop) (xp : XP) : fKeysI F ρ post xp = (F ρ (fun d ρ1 => isDict d ∧ match d with
  | .dk kvs => post (kvs.map fun kv => kD kv.1) ρ1
  | .dt kvs => post (kvs.map fun kv => .tup (kv.1.map kD)) ρ1
  | _ => False) xp) := (rfl)
/-- for k, v in d.items(), the keys tuples -/
def fItemsT (F : FE) : FA := fun ρ post xp => F ρ (fun d ρ1 => isDict d ∧ match d with
  | .dt kvs => post (kvs.map fun kv => .tup [.tup (kv.1.map kD), kv.2]) ρ1
  | _ => False) xp
@[simp ↓] theorem fItemsT_ap (F : FE) (ρ : Env) (post : List D → Env → Prop) (xp : XP) : fItemsT F ρ post xp = (F ρ (fun d ρ1 => isDict d ∧ match d with
  | .dt kvs => post (kvs.map fun kv => .tup [.tup (kv.1.map kD), kv.2]) ρ1
  | _ => False) xp) := (rfl)
theorem di_keys (h : DE X Wx P I e te F J) : DI X Wx P I tg e (iKeys (tLk te)) (fKeysI F) J :=
  ⟨pi_keys (pe_lk h.pe), fun W ρ σ Hb H R post xp E f x q => lk_ev h W ρ σ Hb H _ _ xp E f x fun d ρ1 p o u Hb1 H1 f1 E1 s1 hp l => by
    refine ⟨p, o, rfl, ?_⟩
    cases d <;> first | exact f1.elim | skip
    · obtain ⟨vs, rfl, e, l⟩ := l
      exact .inl ⟨vs, E1.sub.at hp, q _ _ _ _ _ f1 E1 s1 (itd_keysK hp e)⟩
    · obtain ⟨vs, rfl, e, l⟩ := l
      exact .inr ⟨vs, E1.sub.at hp, q _ _ _ _ _ f1 E1 s1 (itd_keysT hp e)⟩⟩
theorem di_itemsT {elts : List Expr} {kk : Nat} {tpos apos cpos : Pos} (h : DE X Wx P I e te F J) (hb : attributeBase e "items" X.env (eval e X.env) = eval e X.env := by rfl) (hl : (apos.endLine == cpos.line) = true := by rfl) :
    DI X Wx P I (.Tuple elts kk tpos) (.Call (.Attribute e "items" apos) [] [] cpos) (iItT (tLk te)) (fItemsT F) J :=
  ⟨pi_itT (pe_lk h.pe) hb hl, fun W ρ σ Hb H R post xp E f x q => lk_ev h W ρ σ Hb H _ _ xp E f x fun d ρ1 p o u Hb1 H1 f1 E1 s1 hp l => by
    cases d <;> first | exact f1.elim | skip
    obtain ⟨vs, rfl, e, l⟩ := l
    exact ⟨p, o, vs, rfl, E1.sub.at hp, q _ _ _ _ _ f1 E1 s1 (itd_itemsT hp e l)⟩⟩
end
end DL

/-! DG18: sorted(d.items()), the keys pairs of ints. -/
namespace SrtI
open PySem PyProof.Rows
theorem IsItem.uniq {h : Heap} {v : Value} {x y x' y' : Int} (i : IsItem h v x y) (j : IsItem h v x' y') : (x, y) = (x', y') := by
  obtain ⟨a, o, n, p, c, e, ho, _, hd, b, o1, t, u, n1, e1, ho1, _, hd1⟩ := i
  obtain ⟨a', o', n', p', c', e', ho', _, hd', b', o1', t', u', n1', e1', ho1', _, hd1'⟩ := j
  subst e
  cases e'
  rw [ho] at ho'; cases ho'
  rw [hd] at hd'
  cases e1
  cases e1'
  have h1 := congrArg Array.toList (Data.seq.inj hd').1
  simp at h1
  rw [← h1.1] at ho1'
  rw [ho1] at ho1'; cases ho1'
  rw [hd1] at hd1'
  have h2 := congrArg Array.toList (Data.seq.inj hd1').1
  simp at h2
  exact Prod.ext h2.1.1 h2.2.1
open Classical in
noncomputable def keyH (h : Heap) (v : Value) : Int × Int := if q : ∃ xy : Int × Int, IsItem h v xy.1 xy.2 then q.choose else (0, 0)
theorem IsItem.key {h : Heap} {v : Value} {x y : Int} (i : IsItem h v x y) : keyH h v = (x, y) := by
  have q : ∃ xy : Int × Int, IsItem h v xy.1 xy.2 := ⟨(x, y), i⟩
  unfold keyH
  rw [dif_pos q]
  exact q.choose_spec.uniq i
end SrtI
namespace L2
open PySem PySem.Spec PyProof.Rows
/-- new tuples of a key's tuple and a value -/
def layT : Hp → List (Addr × Addr × V) → Hp
  | H, [] => H
  | H, z :: r => layT (upd H z.1 (.tup [.ref z.2.1, z.2.2])) r
theorem lay_keep : ∀ {L : List (Addr × Addr × V)} {H : Hp} {a : Addr}, a ∉ L.map (·.1) → layT H L a = H a
  | [], _, _, _ => rfl
  | z :: r, H, a, h => by
    rw [List.map_cons, List.mem_cons, not_or] at h
    show layT (upd H z.1 _) r a = _
    rw [lay_keep h.2, upd_ne h.1]
theorem lay_at : ∀ {L : List (Addr × Addr × V)} {H : Hp} {z : Addr × Addr × V}, (L.map (·.1)).Nodup → z ∈ L → layT H L z.1 = some (.tup [.ref z.2.1, z.2.2])
  | y :: r, H, z, nd, h => by
    rw [List.map_cons, List.nodup_cons] at nd
    rcases List.mem_cons.mp h with rfl | h
    · show layT (upd H z.1 _) r z.1 = _
      rw [lay_keep nd.1, upd_same]
    · exact lay_at (L := r) (H := upd H y.1 (.tup [.ref y.2.1, y.2.2])) nd.2 h
theorem lay_inv {X : Cx} {pins : List (Addr × Obj)} {σ : St} {H0 : Hp} {s : Shared} {h' : Heap} {tk : Nat} (I0 : Inv X pins σ H0 s) : ∀ {L : List (Addr × Addr × V)} {H1 : Hp}, Inv X pins σ H1 { s with heap := h', toks := tk } → (L.map (·.1)).Nodup →
    (∀ z ∈ L, s.heap.objs.size ≤ z.1 ∧ H1 z.1 = none ∧ ∀ H2, ObjOk X.prog X.w H2 h' z.1 (.tup [.ref z.2.1, z.2.2])) → Inv X pins σ (layT H1 L) { s with heap := h', toks := tk }
  | [], _, I1, _, _ => I1
  | z :: r, H1, I1, nd, h => by
    rw [List.map_cons, List.nodup_cons] at nd
    obtain ⟨h1, h2, h3⟩ := h z List.mem_cons_self
    have I2 := I1.take (h' := h') (t' := tk) (fun b ob _ e => e) (I0.fpOk h1 h2) (h3 _)
    refine lay_inv (L := r) (H1 := upd H1 z.1 (.tup [.ref z.2.1, z.2.2])) I0 I2 nd.2 fun y hy => ?_
    obtain ⟨k1, k2, k3⟩ := h y (List.mem_cons_of_mem _ hy)
    refine ⟨k1, ?_, k3⟩
    rw [upd_ne (fun e => nd.1 (by rw [← e]; exact List.mem_map.mpr ⟨y, hy, rfl⟩))]
    exact k2
theorem kt_keys {H : Hp} : ∀ {kvs : List (List Key × V)} {xs : List (List Key × Addr × Value)}, KT H kvs xs → kvs.map (·.1) = xs.map (·.1)
  | _, _, .nil => rfl
  | _, _, .cons f t => by rw [List.map_cons, List.map_cons, f.1, kt_keys t]
/-- d.items() as a value -/
def tItemsV (td : TE) : TE := fun σ H Q => td σ H fun x H1 => ∃ d kvs, x = .ref d ∧ Rd H1 d (.dT kvs) ∧ ∀ p, H1 p = none → Q (.ref p) (upd H1 p (DX.itemsO p d))
theorem pe_itemsV {X : Cx} {e : Expr} {td : TE} {apos cpos : Pos} (he : PE X e td) (hb : attributeBase e "items" X.env (eval e X.env) = eval e X.env := by rfl) (hl : (apos.endLine == cpos.line) = true := by rfl) :
    PE X (.Call (.Attribute e "items" apos) [] [] cpos) (tItemsV td) := by
  refine ⟨fun pins s σ H Q I h => wpAny_Call_method (T := "dict") (id := "dict.items") hb rfl hl PySem.F.plainAttrs_dict PySem.F.slot_dict_items PySem.F.type_dict_items
    (thn (he.run pins s σ H _ I h) fun u s1 ⟨x, H1, I1, rx, d, kvs, ex, hd, q⟩ => ?_)⟩
  subst ex
  obtain rfl : u = Value.ref d := rx
  obtain ⟨_, hs, _, _, o, es, ep, ho, hx, hdt, _⟩ := dt_rd I1.hok hd
  have rw0 : DT.Raw s1.heap d es ep := ⟨o, ho, hx, hdt⟩
  refine ⟨rw0.typeIs, fun b eb => ?_, ?_⟩
  · cases eb
    exact ⟨o, ho, hx.2.1⟩
  · exact method_meetsIn PySem.F.slot_dict_items PySem.F.entry_dict_items rfl (PySem.evalArgs_none ⟨rfl, rw0.typeIs, PySem.F.args_dict_items_1 _, _, DT.meetsItems (es := es) (ep := ep) hs, rw0,
      ⟨.ref s1.heap.objs.size, _, I1.laid (t' := s1.toks) (fun b u e => Heap.get?_push_of_some _ e) (Nat.le_refl _) (DX.itemsO_ok (Heap.get?_push_size _ rfl)), rfl, q _ (I1.hok.fresh (Nat.le_refl _))⟩⟩)
/-- the sorted pairs: each new tuple, its key's tuple, the entry -/
def rSortItP : List V → Hp → VK → Prop := fun vs H Q => ∃ (p a : Addr) (kvs : List (List Key × V)) (k : List Key → Int × Int), vs = [.ref p] ∧ H p = some (DX.itemsO p a) ∧ Rd H a (.dT kvs) ∧
  (∀ e ∈ kvs, e.1 = [.inl (k e.1).1, .inl (k e.1).2]) ∧
  ∀ (l : Addr) (zs : List (Addr × Addr × List Key × V)), (zs.map (·.2.2)).Perm kvs → (zs.map (·.2.2)).Pairwise (fun e f => SrtO.lexB (k e.1) (k f.1) = true) → H l = none → (zs.map (·.1)).Nodup →
    (∀ z ∈ zs, H z.1 = none ∧ z.1 ≠ l ∧ H z.2.1 = some (.tup (z.2.2.1.map kV))) → Q (.ref l) (layT (upd H l (.lst (zs.map fun z => .ref z.1))) (zs.map fun z => (z.1, z.2.1, z.2.2.2)))
theorem cr_sortItP {X : Cx} (hc : X.calm = true) (hu : X.A.units + 2 < cLine) : CallR X (.builtin "sorted") rSortItP := by
  intro pins s σ H xs us Q I r h
  obtain ⟨p, a, kvs, k, rfl, hp, ha, hk, q⟩ := h
  obtain rfl := Vals.ref1 r
  have view : s.heap.IsItemsView p a := (show ObjOk X.prog X.w H s.heap p (DX.itemsO p a) from I.hok p _ hp).1
  obtain ⟨zl, hd, xs', rel, o, es, ep, ho, hx, hdat, hes, his, hn⟩ := dt_rd I.hok ha
  have l1 : kvs.length = xs'.length := Paired.length rel
  have l2 : es.size = xs'.length := size_of_entries hes
  have kn : (kvs.map (·.1)).Nodup := by rw [kt_keys rel]; exact hn
  refine DT.sortedI (es := es) (ep := ep) (I.ok.hd hc) view ⟨o, ho, hx, hdat⟩ (by omega) fun h' tk as hkp hlt hl hG => ?_
  have lak : as.length = xs'.length := by omega
  have nd : as.Nodup := List.Pairwise.imp (fun h => Nat.ne_of_lt h) hG.rise
  -- one row for each pair that was made
  let L : List (Addr × Addr × List Key × V) := (as.zip (xs'.zip kvs)).map fun z => (z.1, z.2.1.2.1, z.2.2)
  have lz : (xs'.zip kvs).length = xs'.length := by rw [List.length_zip, l1, Nat.min_self]
  have L1 : L.map (·.1) = as := by
    show ((as.zip (xs'.zip kvs)).map _).map _ = as
    rw [List.map_map]
    exact List.map_fst_zip (by rw [lz, lak]; exact Nat.le_refl _)
  have L2 : L.map (·.2.2) = kvs := by
    show ((as.zip (xs'.zip kvs)).map _).map _ = kvs
    rw [List.map_map]
    have e1 : ((as.zip (xs'.zip kvs)).map (·.2)).map (·.2) = kvs := by
      rw [List.map_snd_zip (by rw [lz, lak]; exact Nat.le_refl _)]
      exact List.map_snd_zip (by rw [l1]; exact Nat.le_refl _)
    rw [List.map_map] at e1
    exact e1
  have row : ∀ z ∈ L, s.heap.objs.size < z.1 ∧ H z.2.1 = some (.tup (z.2.2.1.map kV)) ∧ z.2.2 ∈ kvs ∧ ∃ u, h'.get? z.1 = some { cls := .type "tuple", data := .seq #[Value.ref z.2.1, u] } ∧ RelV z.2.2.2 u := by
    intro z hz
    obtain ⟨y, hy, rfl⟩ := List.mem_map.mp hz
    obtain ⟨j, hj⟩ := List.mem_iff_getElem?.mp hy
    obtain ⟨h1, h2⟩ := List.getElem?_zip_eq_some.mp hj
    obtain ⟨h3, h4⟩ := List.getElem?_zip_eq_some.mp h2
    obtain ⟨en, he, hg⟩ := hG.pairs j y.1 h1
    rw [entry_at hes j, h3] at he
    have een : entryOfKey (tupleKind (mixKind X.prog X.w)) y.2.1 = en := Option.some.inj he
    obtain ⟨b, hb, r1, r2, r3⟩ := paired_get rel h4
    rw [h3] at hb
    have eb : y.2.1 = b := Option.some.inj hb
    subst eb
    refine ⟨hG.above _ (List.mem_of_getElem? h1), r2, List.mem_of_getElem? h4, y.2.1.2.2, ?_, r3⟩
    rw [hg, ← een]
    rfl
  clear_value L
  -- the heap of the sort
  have hob : (h'.push { cls := .type "list", data := .seq (as.map Value.ref).toArray }).get? h'.objs.size = some (seqObj "list" (as.map Value.ref).toArray 0) := Heap.get?_push_size _ rfl
  have ka : ∀ b o, h'.get? b = some o → (h'.push { cls := .type "list", data := .seq (as.map Value.ref).toArray }).get? b = some o := fun b o e => Heap.get?_push_of_some _ e
  have ne0 : ∀ b o, h'.get? b = some o → b ≠ h'.objs.size := fun b o e => Nat.ne_of_lt (Heap.lt_size e)
  generalize hh2 : h'.push { cls := .type "list", data := .seq (as.map Value.ref).toArray } = h2 at hob ka ⊢
  have item : ∀ z ∈ L, SrtI.IsItem h2 (.ref z.1) (k z.2.2.1).1 (k z.2.2.1).2 := by
    intro z hz
    obtain ⟨_, r2, r3, u, hg, _⟩ := row z hz
    rw [hk _ r3] at r2
    obtain ⟨_, its, rv, o1, ho1, hc1, n1, hd1⟩ := I.hok _ _ r2
    obtain ⟨u1, u2, rfl, ri, rj⟩ := vals2 rv
    obtain ⟨t1, rfl⟩ := ri
    obtain ⟨t2, rfl⟩ := rj
    exact ⟨z.1, _, 0, z.2.1, u, rfl, ka _ _ hg, rfl, rfl, z.2.1, o1, t1, t2, n1, rfl, ka _ _ (hkp _ _ ho1), hc1, hd1⟩
  have at_ : ∀ v ∈ as.map Value.ref, ∃ z ∈ L, v = .ref z.1 := by
    intro v hv
    obtain ⟨b, hb, rfl⟩ := List.mem_map.mp hv
    rw [← L1] at hb
    obtain ⟨z, hz, rfl⟩ := List.mem_map.mp hb
    exact ⟨z, hz, rfl⟩
  have kz : ∀ z ∈ L, SrtI.keyH h2 (.ref z.1) = k z.2.2.1 := fun z hz => (item z hz).key
  have ndK : (L.map (·.2.2.1)).Nodup := by
    have e : (L.map (·.2.2)).map (·.1) = kvs.map (·.1) := by rw [L2]
    rw [List.map_map] at e
    rw [← e] at kn
    exact kn
  have same : ∀ z ∈ L, ∀ y ∈ L, k z.2.2.1 = k y.2.2.1 → z = y := by
    intro z hz y hy e
    obtain ⟨_, _, r3, _⟩ := row z hz
    obtain ⟨_, _, r3', _⟩ := row y hy
    have ek : z.2.2.1 = y.2.2.1 := by rw [hk _ r3, hk _ r3', e]
    obtain ⟨i, hi⟩ := List.mem_iff_getElem?.mp hz
    obtain ⟨j, hj⟩ := List.mem_iff_getElem?.mp hy
    have a1 : (L.map (·.2.2.1))[i]? = some z.2.2.1 := by rw [List.getElem?_map, hi]; rfl
    have a2 : (L.map (·.2.2.1))[j]? = some z.2.2.1 := by rw [List.getElem?_map, hj, ek]; rfl
    have eij : i = j := (List.getElem?_inj (List.getElem?_eq_some_iff.mp a1).1 ndK).mp (a1.trans a2.symm)
    subst eij
    exact Option.some.inj (hi.symm.trans hj)
  refine wpAny_call_entry PyProof.Rows.slot_list_sort ⟨_, hob, rfl⟩ PyProof.Rows.entry_list_sort
    (SrtO.list_sort_ord (s := { s with heap := h2, toks := tk }) (SrtO.swo_lex (SrtI.keyH h2)) hob (by rw [List.length_map]; omega) (fun h2' => ?_) fun out o1 o2 => ⟨.none, rfl, ?_⟩) (PyProof.Rows.args_list_sort _)
  · refine SrtI.items_sortable (s := { s with heap := h2, toks := tk }) (by omega) (by show X.A.units + 1 + 1 < cLine; omega) (fun v hv => ?_) (fun v hv u hu e => ?_) fun o e c => ?_
    · obtain ⟨z, hz, rfl⟩ := at_ v hv
      rw [kz z hz]
      exact item z hz
    · obtain ⟨z, hz, rfl⟩ := at_ v hv
      obtain ⟨y, hy, rfl⟩ := at_ u hu
      rw [kz z hz, kz y hy] at e
      rw [same z hz y hy e]
    · have e' : some o = some (seqObj "list" (as.map Value.ref).toArray 0) := e.symm.trans hob
      cases e'
      exact absurd (Value.type.inj c) (by decide)
  · show EP X pins σ Q (.ref h'.objs.size) { s with heap := sortedHeap h2 h'.objs.size (as.map Value.ref) out.toArray, toks := tk }
    have eL : L.map (fun z => Value.ref z.1) = as.map Value.ref := by rw [← L1, List.map_map]; rfl
    obtain ⟨zs, pz, ez⟩ := perm_lift (fun z : Addr × Addr × List Key × V => Value.ref z.1) o2.perm L eL
    have mz : ∀ z ∈ zs, z ∈ L := fun z hz => pz.mem_iff.mp hz
    have kF : ∀ b o, b ≠ h'.objs.size → h2.get? b = some o → (sortedHeap h2 h'.objs.size (as.map Value.ref) out.toArray).get? b = some o := fun b o hb e => (PyProof.Rows.sortedHeap_old hb (Heap.lt_size e)).trans e
    have kS : ∀ b o, s.heap.get? b = some o → (sortedHeap h2 h'.objs.size (as.map Value.ref) out.toArray).get? b = some o := fun b o e => kF b o (ne0 _ _ (hkp b o e)) (ka _ _ (hkp b o e))
    obtain ⟨eF, heF⟩ := PyProof.Rows.sortedHeap_at (vs := as.map Value.ref) (out := out.toArray) hob
    have I1 : Inv X pins σ H { s with heap := sortedHeap h2 h'.objs.size (as.map Value.ref) out.toArray, toks := tk } := I.kept (t' := tk) kS
    have hn0 : H h'.objs.size = none := I.hok.fresh (Nat.le_of_lt hlt)
    have rv : Vals (zs.map fun z => V.ref z.1) out.toArray.toList := by
      rw [← ez]
      exact vals_maps (fun z : Addr × Addr × List Key × V => V.ref z.1) (fun z => Value.ref z.1) zs fun _ _ => rfl
    have ll : (zs.map fun z => V.ref z.1).length ≤ sizeLine := by
      have e := pz.length_eq
      have e2 := congrArg List.length L2
      rw [List.length_map] at e2 ⊢
      omega
    have I2 : Inv X pins σ (upd H h'.objs.size (.lst (zs.map fun z => V.ref z.1))) { s with heap := sortedHeap h2 h'.objs.size (as.map Value.ref) out.toArray, toks := tk } :=
      I1.take (h' := sortedHeap h2 h'.objs.size (as.map Value.ref) out.toArray) (t' := tk) (fun b ob _ e => e) (I.fpOk (Nat.le_of_lt hlt) hn0) ⟨ll, out.toArray.toList, eF, rv, heF⟩
    have ndz : (zs.map (·.1)).Nodup := by
      have := (pz.map (·.1)).nodup_iff.mpr (by rw [L1]; exact nd)
      exact this
    have fr : ∀ z ∈ zs, H z.1 = none ∧ z.1 ≠ h'.objs.size := fun z hz => by
      obtain ⟨r1, _, _, u, hg, _⟩ := row z (mz z hz)
      exact ⟨I.hok.fresh (Nat.le_of_lt r1), ne0 _ _ hg⟩
    have I3 := lay_inv I (L := zs.map fun z => (z.1, z.2.1, z.2.2.2)) I2 (by rw [List.map_map]; exact ndz) fun y hy => by
      obtain ⟨z, hz, rfl⟩ := List.mem_map.mp hy
      obtain ⟨r1, r2, _, u, hg, ru⟩ := row z (mz z hz)
      obtain ⟨n1, n2⟩ := fr z hz
      refine ⟨Nat.le_of_lt r1, by rw [upd_ne n2]; exact n1, fun H2 => ⟨by show 2 ≤ sizeLine; decide, [Value.ref z.2.1, u], .cons rfl (.cons ru .nil), ⟨_, kF _ _ n2 (ka _ _ hg), rfl, 0, rfl⟩⟩⟩
    refine ⟨.ref h'.objs.size, _, I3, rfl, q h'.objs.size zs ?_ ?_ hn0 ndz fun z hz => ⟨(fr z hz).1, (fr z hz).2, (row z (mz z hz)).2.1⟩⟩
    · have := pz.map (·.2.2)
      rw [L2] at this
      exact this
    · rw [List.pairwise_iff_getElem]
      intro i j hi hj hij
      rw [List.length_map] at hi hj
      have hi2 : i < out.length := by rw [← ez, List.length_map]; exact hi
      have hj2 : j < out.length := by rw [← ez, List.length_map]; exact hj
      have hlt : SrtO.lexB (SrtI.keyH h2 out[j]) (SrtI.keyH h2 out[i]) = false := (List.pairwise_iff_getElem.1 o1) i j hi2 hj2 hij
      have ei : ∀ (m : Nat) (hm : m < zs.length) (hm' : m < out.length), out[m] = Value.ref zs[m].1 := fun m hm hm' => by
        have : out[m]? = some (Value.ref zs[m].1) := by rw [← ez, List.getElem?_map, List.getElem?_eq_getElem hm]; rfl
        rw [List.getElem?_eq_getElem hm'] at this
        exact Option.some.inj this
      have mi := mz zs[i] (List.getElem_mem hi)
      have mj := mz zs[j] (List.getElem_mem hj)
      rw [ei i hi, ei j hj, kz _ mi, kz _ mj] at hlt
      rw [List.getElem_map, List.getElem_map]
      refine DL.lex_tri hlt fun e => ?_
      have e3 := same _ mj _ mi e
      have a1 : (zs.map (·.1))[i]? = some zs[i].1 := by rw [List.getElem?_map, List.getElem?_eq_getElem hi]; rfl
      have a2 : (zs.map (·.1))[j]? = some zs[i].1 := by rw [List.getElem?_map, List.getElem?_eq_getElem hj, e3]; rfl
      have := (List.getElem?_inj (List.getElem?_eq_some_iff.mp a1).1 ndz).mp (a1.trans a2.symm)
      omega
end L2

/-! DG19: sorted(d.items()) over data. -/
namespace DL
open PySem L2
open PyProof.Rows hiding St
theorem paired_perm {α β : Type} {R : α → β → Prop} {l m : List α} (p : l.Perm m) : ∀ {k : List β}, Paired R m k → ∃ k' : List β, k'.Perm k ∧ Paired R l k' := by
  induction p with
  | nil => intro k h; exact ⟨k, .refl _, h⟩
  | cons x p ih =>
    intro k h
    cases h with
    | cons a r =>
      obtain ⟨es, q, l⟩ := ih r
      exact ⟨_ :: es, q.cons _, .cons a l⟩
  | swap x y l =>
    intro k h
    cases h with
    | cons a r =>
      cases r with
      | cons b r => exact ⟨_ :: _ :: _, .swap _ _ _, .cons b (.cons a r)⟩
  | trans p q ih1 ih2 =>
    intro k h
    obtain ⟨es, q1, l1⟩ := ih2 h
    obtain ⟨es2, q2, l2⟩ := ih1 l1
    exact ⟨es2, q2.trans q1, l2⟩
theorem paired_kv {κ : Type} {K : PySem.W.Frag} {H : Hp} : ∀ {vs : List (κ × V)} {kvs : List (κ × D)}, vs.map (·.1) = kvs.map (·.1) → IsL K H (vs.map (·.2)) (kvs.map (·.2)) → Paired (fun v k => v.1 = k.1 ∧ Is K H v.2 k.2) vs kvs
  | [], [], _, _ => .nil
  | [], _ :: _, e, _ => by simp at e
  | _ :: _, [], e, _ => by simp at e
  | v :: vs, k :: kvs, e, l => by
    rw [List.map_cons, List.map_cons] at e l
    cases l with
    | cons a l =>
      injection e with e1 e2
      exact .cons ⟨e1, a⟩ (paired_kv e2 l)
theorem paired_mono {κ : Type} {K : PySem.W.Frag} {H H' : Hp} (s : Sub H H') : ∀ {vs : List (κ × V)} {kvs : List (κ × D)}, Paired (fun v k => v.1 = k.1 ∧ Is K H v.2 k.2) vs kvs → Paired (fun v k => v.1 = k.1 ∧ Is K H' v.2 k.2) vs kvs
  | _, _, .nil => .nil
  | _, _, .cons a t => .cons ⟨a.1, a.2.mono s⟩ (paired_mono s t)
section
variable {K : PySem.W.Frag} {W : Wd} {P I : List Nat} {ρ : Env} {σ : St} {Hb H : Hp}
theorem EnvOk.knowL (E : EnvOk K W P I ρ σ Hb H) : ∀ (zs : List (Addr × List V)), (∀ z ∈ zs, H z.1 = some (.tup z.2)) → ∃ Hb', EnvOk K W P I ρ σ Hb' H ∧ Sub Hb Hb' ∧ ∀ z ∈ zs, Hb' z.1 = some (.tup z.2)
  | [], _ => ⟨Hb, E, Sub.refl _, fun _ h => nomatch h⟩
  | z :: r, h => by
    obtain ⟨Hb1, E1, s1, h1⟩ := E.knowL r fun y hy => h y (List.mem_cons_of_mem _ hy)
    have hz := h z List.mem_cons_self
    obtain ⟨E2, s2⟩ := E1.know hz
    refine ⟨_, E2, s1.trans s2, fun y hy => ?_⟩
    rcases List.mem_cons.mp hy with rfl | hy
    · exact upd_same
    · exact s2.at (h1 y hy)
theorem EnvOk.layL : ∀ {L : List (Addr × Addr × V)} {Hb H : Hp}, EnvOk K W P I ρ σ Hb H → (L.map (·.1)).Nodup → (∀ z ∈ L, H z.1 = none) → EnvOk K W P I ρ σ (layT Hb L) (layT H L) ∧ Sub Hb (layT Hb L)
  | [], _, _, E, _, _ => ⟨E, Sub.refl _⟩
  | z :: r, Hb, H, E, nd, h => by
    rw [List.map_cons, List.nodup_cons] at nd
    have hz := h z List.mem_cons_self
    have E1 := E.alloc (o := .tup [.ref z.2.1, z.2.2]) hz
    obtain ⟨E2, s2⟩ := EnvOk.layL (L := r) E1 nd.2 fun y hy => by
      rw [upd_ne (fun e => nd.1 (by rw [← e]; exact List.mem_map.mpr ⟨y, hy, rfl⟩))]
      exact h y (List.mem_cons_of_mem _ hy)
    exact ⟨E2, (Sub.new (E.sub.none hz)).trans s2⟩
end
def itemD (kv : List Key × D) : D := .tup [.tup (kv.1.map kD), kv.2]
def pairK : List Key → Int × Int
  | [.inl x, .inl y] => (x, y)
  | _ => (0, 0)
/-- the keys are pairs of ints -/
def pairKs (kvs : List (List Key × D)) : Prop := ∀ e ∈ kvs, e.1 = [.inl (pairK e.1).1, .inl (pairK e.1).2]
def fSortIt (F : FE) : FE := fun ρ post xp => F ρ (fun d ρ1 => isDict d ∧ match d with
  | .dt kvs => pairKs kvs ∧ ∀ es : List D, es.Perm (kvs.map itemD) → es.Pairwise ltK → post (.lst es) ρ1
  | _ => False) xp
@[simp ↓] theorem fSortIt_ap (F : FE) (ρ : Env) (post : Post) (xp : XP) : fSortIt F ρ post xp = (F ρ (fun d ρ1 => isDict d ∧ match d with
  | .dt kvs => pairKs kvs ∧ ∀ es : List D, es.Perm (kvs.map itemD) → es.Pairwise ltK → post (.lst es) ρ1
  | _ => False) xp) := (rfl)
theorem items_is {K : PySem.W.Frag} {H : Hp} : ∀ {zs : List (Addr × Addr × List Key × V)} {kvs : List (List Key × D)}, Paired (fun v k => v.1 = k.1 ∧ Is K H v.2 k.2) (zs.map (·.2.2)) kvs →
    (∀ z ∈ zs, H z.1 = some (.tup [.ref z.2.1, z.2.2.2]) ∧ H z.2.1 = some (.tup (z.2.2.1.map kV))) → IsL K H (zs.map fun z => V.ref z.1) (kvs.map itemD)
  | [], [], _, _ => .nil
  | [], _ :: _, h, _ => by cases h
  | _ :: _, [], h, _ => by cases h
  | z :: zs, k :: kvs, h, hz => by
    rw [List.map_cons] at h
    cases h with
    | cons a r =>
      obtain ⟨h1, h2⟩ := hz z List.mem_cons_self
      refine .cons (.tup h1 (.cons (.tup h2 ?_) (.cons a.2 .nil))) (items_is r fun y hy => hz y (List.mem_cons_of_mem _ hy))
      rw [a.1]
      exact kDs_is _
theorem items_lt {K : PySem.W.Frag} {H : Hp} {ms : List (List Key × V)} {kvs : List (List Key × D)} (h : Paired (fun v k => v.1 = k.1 ∧ Is K H v.2 k.2) ms kvs) (hk : pairKs kvs) (p : ms.Pairwise fun e f => SrtO.lexB (pairK e.1) (pairK f.1) = true) : (kvs.map itemD).Pairwise ltK := by
  rw [List.pairwise_map, List.pairwise_iff_getElem]
  intro i j hi hj hij
  have hl : ms.length = kvs.length := Paired.length h
  have at1 : ∀ (m : Nat) (hm : m < kvs.length) (hm' : m < ms.length), ms[m].1 = kvs[m].1 := fun m hm hm' => by
    obtain ⟨b, hb, e, _⟩ := paired_get h (List.getElem?_eq_getElem hm')
    rw [List.getElem?_eq_getElem hm] at hb
    cases hb
    exact e
  have hlt := (List.pairwise_iff_getElem.1 p) i j (by omega) (by omega) hij
  rw [at1 i hi (by omega), at1 j hj (by omega)] at hlt
  have ke : ∀ e ∈ kvs, keyD (itemD e) = some (pairK e.1) := fun e he => by
    have h1 := hk e he
    unfold itemD
    rw [h1]
    rfl
  exact ⟨_, _, ke _ (List.getElem_mem hi), ke _ (List.getElem_mem hj), hlt⟩
section
variable {X : Cx} {Wx : WX} {P L I J : List Nat} {e : Expr} {F : FE} {te : TE} {apos cpos pos p : Pos}
theorem de_sortIt (hc : X.calm = true) (hu : X.A.units + 2 < cLine) (hm : X.mg "sorted" = none) (h : DE X Wx P I e te F J) (hg : Gl X "sorted" := by rfl) (hb : attributeBase e "items" X.env (eval e X.env) = eval e X.env := by rfl) (hl : (apos.endLine == cpos.line) = true := by rfl)
    (he : starEach [.Call (.Attribute e "items" apos) [] [] cpos] X.env = (false, eval (.Call (.Attribute e "items" apos) [] [] cpos) X.env) :: starEach [] X.env := by rfl) (hpl : (backTo pos (starEach [] X.env)).any (·.1) = false := by rfl) :
    DE X Wx P I (.Call (.Name "sorted" p) [.Call (.Attribute e "items" apos) [] [] cpos] [] pos) (tCB rSortItP (tCons (tItemsV te) tNil)) (fSortIt F) J := by
  refine de_of (pe_callB (cr_sortItP hc hu) hg hm (by rfl) (pa_cons (pe_itemsV h.pe hb hl) pa_nil he) (by decide) (by decide) he hpl) fun W ρ σ Hb H Q post xp E f x q =>
    h.ev W ρ σ Hb H _ _ xp E f x fun d ρ1 v Hb1 H1 f1 E1 s1 i1 => ?_
  obtain ⟨dd, f1⟩ := f1
  cases d <;> first | exact f1.elim | skip
  rename_i kvs
  obtain ⟨hk, f1⟩ := f1
  cases i1 with
  | @dt a vs _ hr ek l =>
    refine ⟨a, vs, rfl, E1.sub.rd hr, fun p hp => ?_⟩
    have E2 := E1.more (o := DX.itemsO p a) hp
    have pr := paired_kv ek l
    refine ⟨p, a, vs, pairK, rfl, upd_same, ?_, fun e he => ?_, fun l zs pm sr hl nd hz => ?_⟩
    · exact (Sub.new hp).rd (E1.sub.rd hr)
    · obtain ⟨j, hj⟩ := List.getElem?_of_mem he
      obtain ⟨k, hk', ee, _⟩ := paired_get pr hj
      rw [ee]
      exact hk k (List.mem_of_getElem? hk')
    · obtain ⟨kvs', pk, pr'⟩ := paired_perm pm pr
      have hk2 : pairKs kvs' := fun e he => hk e (pk.mem_iff.1 he)
      obtain ⟨Hb3, E3, s3, h3⟩ := E2.knowL (zs.map fun z => (z.2.1, z.2.2.1.map kV)) fun y hy => by
        obtain ⟨z, hz', rfl⟩ := List.mem_map.mp hy
        exact (hz z hz').2.2
      have E4 := E3.alloc (o := .lst (zs.map fun z => .ref z.1)) hl
      have s4 : Sub Hb3 (upd Hb3 l (.lst (zs.map fun z => .ref z.1))) := Sub.new (E3.sub.none hl)
      have ndL : ((zs.map fun z => (z.1, z.2.1, z.2.2.2)).map (·.1)).Nodup := by rw [List.map_map]; exact nd
      obtain ⟨E5, s5⟩ := E4.layL (L := zs.map fun z => (z.1, z.2.1, z.2.2.2)) ndL fun y hy => by
        obtain ⟨z, hz', rfl⟩ := List.mem_map.mp hy
        rw [upd_ne (hz z hz').2.1]
        exact (hz z hz').1
      have s15 := (s3.trans s4).trans s5
      refine q (.lst (kvs'.map itemD)) ρ1 _ _ _ (f1 _ (pk.map _) (items_lt pr' hk2 sr)) E5 (s1.trans s15) (.lst (vs := zs.map fun z => .ref z.1) ?_ (items_is (zs := zs) (paired_mono s15 pr') fun z hz' => ⟨?_, ?_⟩))
      · rw [lay_keep fun z => ?_, upd_same]
        rw [List.map_map] at z
        obtain ⟨y, hy, e⟩ := List.mem_map.mp z
        exact (hz y hy).2.1 e
      · exact lay_at (z := (z.1, z.2.1, z.2.2.2)) ndL (List.mem_map.mpr ⟨z, hz', rfl⟩)
      · exact s5.at (s4.at (h3 (z.2.1, z.2.2.1.map kV) (List.mem_map.mpr ⟨z, hz', rfl⟩)))
end
end DL

/-! DG20: {k: v for .. in ..}, the keys tuples of ints and texts. -/
namespace L2
open PySem PySem.Spec PyProof.Rows
/-- an entry of a new dict, its key a tuple that is known -/
theorem put_tupkey {X : Cx} {pins : List (Addr × Obj)} {σ : St} {H : Hp} {s : Shared} {E : Value → Shared → Prop} {D b : Addr} {es : List (List Key × V)} {k : List Key} {v : V} {r : Value} {Q : Unit → Shared → Prop} (hu : X.A.units < cLine)
    (I : Inv X pins σ H s) (hD : H D = some (.dT es)) (hb : H b = some (.tup (k.map kV))) (hz : es.length < sizeLine) (rv : RelV v r) (h : ∀ t, Inv X pins σ (upd H D (.dT (putK es k v))) t → Q () t) :
    wpAny (model X.prog X.w) X.A (dictSet D (.ref b) r) Q E s := by
  obtain ⟨_, nsys, xs, rel, dd⟩ := dt_of I.hok hD
  have len1 : xs.length ≤ sizeLine := by have := Paired.length rel; omega
  have len2 : (putK es k v).length ≤ sizeLine := by have := length_putK es k v; omega
  refine wpAny_dictSet_heap (hsz := len1) (knd := tupleKind (mixKind X.prog X.w)) hu (key_of I.hok hb) dd fun h2 dd2 same => h _ ?_
  have kt : KT (upd H D (.dT (putK es k v))) (putK es k v) (storedH xs k b r) := (rel.put k hb rv).keeps fun c ys ec => by
    have cD : c ≠ D := fun z => by rw [z, hD] at ec; cases ec
    rw [upd_ne cD]; exact ec
  have dd3 := dd2
  obtain ⟨q, en, ep, hq, w1, w2, w3, _, w4⟩ := dd3
  exact d_write I (by rw [hD]; trivial) same ⟨q, hq⟩ ⟨len2, nsys, storedH xs k b r, kt, q, en, ep, hq, w1, w2, w3, w4⟩
section
variable {X : Cx}
/-- a turn's end: the entry's key a tuple that is known -/
def tPutT (D : Addr) (tk tv : TE) (Nx : Hp → Prop) : St → Hp → Prop := fun σ H => tk σ H fun y H4 => tv σ H4 fun z H5 => ∃ es k b, y = .ref b ∧ H5 b = some (.tup (k.map kV)) ∧ H5 D = some (.dT es) ∧ es.length < sizeLine ∧ Nx (upd H5 D (.dT (putK es k z)))
def tDcT (wi : TI) (g : TG) (tt : TT) (tk tv : TE) (vs : List Nat) : TE := fun σ H Q => wi σ H fun J H1 => ∀ D, H1 D = none → ∃ W : Nat → Nat → Hp → Prop, (∃ m, W 0 m (upd H1 D (.dT []))) ∧ ∀ i m H2, W i m H2 →
  (J.stop i H2 ∧ Q (.ref D) H2) ∨ (J.go i H2 ∧ ∃ Nx : Hp → Prop, (∀ H3, Nx H3 → ∃ m', m' < m ∧ W (i + 1) m' H3) ∧ ∀ x H3, J.yld i H2 x H3 → g x (wipe σ vs) H3 fun σ4 H4 => wipe σ4 vs = wipe σ vs ∧ tt σ4 H4 fun c H5 =>
    if c = true then tPutT D tk tv Nx σ4 H5 else Nx H5)
theorem pe_dcT {kx vx tg iter : Expr} {ifs : List Expr} {scope : Scope} {own : List (Str × Nat)} {pos : Pos} {wi : TI} {g : TG} {tt : TT} {tk tv : TE} (hu : X.A.units < cLine) (hc : X.calm = true) (hN : X.N.Nodup) (pi : PI X tg iter wi) (ok : BlkOk X.N X.env.scope scope own)
    (pg : ∀ (s : Shared) (H : Hp) (C : Addr) (cl : List (Str × Addr)) (fp : List Addr), PG (X.blk s H scope (compEnvC scope cl C X.env) fp) tg g)
    (pt : ∀ (s : Shared) (H : Hp) (C : Addr) (cl : List (Str × Addr)) (fp : List Addr), PTs (X.blk s H scope (compEnvC scope cl C X.env) fp) ifs tt)
    (pk : ∀ (s : Shared) (H : Hp) (C : Addr) (cl : List (Str × Addr)) (fp : List Addr), PE (X.blk s H scope (compEnvC scope cl C X.env) fp) kx tk)
    (pv : ∀ (s : Shared) (H : Hp) (C : Addr) (cl : List (Str × Addr)) (fp : List Addr), PE (X.blk s H scope (compEnvC scope cl C X.env) fp) vx tv) (fs : ∀ x, foldedSetIterable iter X.env x = pure x := by intro _; rfl) :
    PE X (.DictComp kx vx [⟨tg, iter, ifs, 0⟩] scope pos) (tDcT wi g tt tk tv (own.map (·.2))) := by
  refine ⟨fun pins s σ H Q I0 wh => ?_⟩
  rw [arm_eval_DictComp]
  have cells : ∀ y ∈ scope.names, y.2 = .free → ∃ c, X.env.cells.lookup y.1 = some c := fun y hy e => I0.ok.has _ ((ok.free y hy e).elim .inl .inr)
  refine wpAny_comprehension_free rfl fs (closure_ok cells) ok.kind (fun y hy e => by rw [ok.uniq y hy, e]) (thn (pi.run pins s σ H _ I0 wh) fun xv s1 w1 => thn w1 fun itv s2 w2 => ?_)
  obtain ⟨it, fp, tn, J, H2, e, I2, T, st2, f2, wh⟩ := w2
  subst e
  refine wpAny_newObj_type (newEnv_comp ?_)
  obtain ⟨D, hD⟩ : ∃ D, s2.heap.objs.size = D := ⟨_, rfl⟩
  have atD : H2 D = none := I2.hok.fresh (Nat.le_of_eq hD)
  obtain ⟨W, ⟨m0, W0⟩, turn⟩ := wh D atD
  -- the dict is made
  obtain ⟨s3, hs3⟩ : ∃ s3 : Shared, s3 = { s2 with heap := s2.heap.push { cls := .type "dict", data := .dict #[] } } := ⟨_, rfl⟩
  have hp3 : s3.heap = s2.heap.push { cls := .type "dict", data := .dict #[] } := by rw [hs3]
  have keep3 : ∀ (b : Addr) (o : Obj), s2.heap.get? b = some o → s3.heap.get? b = some o := fun b o e => by rw [hp3]; exact Heap.get?_push_of_some _ e
  have I3 : Inv X pins σ (upd H2 D (.dT [])) s3 := by
    rw [hs3]
    refine I2.laid (t' := s2.toks) (fun b o e => Heap.get?_push_of_some _ e) (Nat.le_of_eq hD) ?_
    rw [← hD]
    exact dt_empty s2.heap I2.big
  have low : ∀ b ∈ fp, b < s2.heap.objs.size := fun b hb => let ⟨o, e, _⟩ := T.obj _ _ st2 b hb; Heap.lt_size e
  have f3 : ∀ b ∈ fp, FpOk X pins (upd H2 D (.dT [])) b ∧ b < s3.heap.objs.size := fun b hb => by
    have l := low b hb
    have nb : (upd H2 D (.dT [])) b = none := by rw [upd_ne (by rw [← hD]; exact Nat.ne_of_lt l)]; exact (f2 b hb).1
    exact ⟨⟨nb, (f2 b hb).2⟩, by rw [hp3, Heap.size_push]; exact Nat.lt_succ_of_lt l⟩
  have st3 : tn 0 s3.heap := T.keep _ _ _ st2 fun b _ o e => keep3 b o e
  have I4 := block_start I3 ok hN f3
  -- the block: its names' own cells, all it stands on as one environment
  have at0 : ∀ b ∈ fp, (upd H2 D (.dT [])) b = none := fun b hb => (f3 b hb).1.1
  rw [show s2.heap.objs.size = D from hD]
  show codeAny _ _ (.compStart (.DictComp kx vx [⟨tg, iter, ifs, 0⟩] scope pos) 0 (.ref it) (.ref D) (compEnvC scope (cellsFrom ((s2.heap.push { cls := .type "dict", data := .dict #[] }).objs.size + 1) scope.names (cloFrom X.env.cells scope.names [])) (s2.heap.push { cls := .type "dict", data := .dict #[] }).objs.size X.env))
    (compPost (model X.prog X.w) X.A X.xe none (EP X pins σ Q) (.ref D) (s2.heap.push { cls := .type "dict", data := .dict #[] }).objs.size) { s2 with heap := pushCells ((s2.heap.push { cls := .type "dict", data := .dict #[] }).push { cls := .type "dict", data := .dict #[] }) scope.names }
  rw [← hp3]
  have es4 : ({ s2 with heap := pushCells (s3.heap.push { cls := .type "dict", data := .dict #[] }) scope.names } : Shared) = { s3 with heap := pushCells (s3.heap.push { cls := .type "dict", data := .dict #[] }) scope.names } := by rw [hs3]
  rw [es4]
  obtain ⟨C, hC⟩ : ∃ C, s3.heap.objs.size = C := ⟨_, rfl⟩
  rw [hC] at I4 ⊢
  obtain ⟨ce, hce⟩ : ∃ ce, compEnvC scope (cellsFrom (C + 1) scope.names (cloFrom X.env.cells scope.names [])) C X.env = ce := ⟨_, rfl⟩
  have qg := pg s3 (upd H2 D (.dT [])) C (cellsFrom (C + 1) scope.names (cloFrom X.env.cells scope.names [])) fp
  have qt := pt s3 (upd H2 D (.dT [])) C (cellsFrom (C + 1) scope.names (cloFrom X.env.cells scope.names [])) fp
  have qk := pk s3 (upd H2 D (.dT [])) C (cellsFrom (C + 1) scope.names (cloFrom X.env.cells scope.names [])) fp
  have qv := pv s3 (upd H2 D (.dT [])) C (cellsFrom (C + 1) scope.names (cloFrom X.env.cells scope.names [])) fp
  rw [hce] at I4 qg qt qk qv ⊢
  have lC : ce.locals = C := by rw [← hce]; rfl
  obtain ⟨B, hB⟩ : ∃ B, X.blk s3 (upd H2 D (.dT [])) scope ce fp = B := ⟨_, rfl⟩
  rw [hB] at I4 qg qt qk qv
  obtain ⟨s4, hs4⟩ : ∃ s4 : Shared, s4 = { s3 with heap := pushCells (s3.heap.push { cls := .type "dict", data := .dict #[] }) scope.names } := ⟨_, rfl⟩
  rw [← hs4] at I4 ⊢
  have st4 : tn 0 s4.heap := T.keep _ _ _ st3 fun b _ o e => by rw [hs4]; exact pushCells_keeps _ _ _ _ (Heap.get?_push_of_some _ e)
  -- what the walk's own objects are, at any time in the block
  have own1 : ∀ {σ1 : St} {H1 : Hp} {t : Shared}, Inv B [] σ1 H1 t → (∀ b ∈ fp, H1 b = none) → ∀ b ∈ fp, FpOk B [] H1 b := by
    subst hB
    intro σ1 H1 t It nb b hb
    have ex := It.ok.exf b hb
    exact ⟨nb b hb, ex.1, It.ok.exfs b hb, .inl hb, fun x c e => ex.2 x c e, fun p hp => by simp at hp⟩
  have loop : codeAny (model X.prog X.w) X.A (.compLoop (.DictComp kx vx [⟨tg, iter, ifs, 0⟩] scope pos) 0 (.ref it) (.ref D) ce) (compPost (model X.prog X.w) X.A X.xe none (EP X pins σ Q) (.ref D) C) s4 := by
    refine compLoop_anyD (fun m t => ∃ i Ht, Inv B [] (wipe σ (own.map (·.2))) Ht t ∧ tn i t.heap ∧ (∀ b ∈ fp, Ht b = none) ∧ W i m Ht) ?_ m0 ⟨0, _, I4, st4, at0, W0⟩
    rintro m s5 ⟨i, H5, I5, st5, n5, w5⟩
    rcases turn i m H5 w5 with ⟨stop, wq⟩ | ⟨go, Nx, lower, one⟩
    · have fin := T.done B (by subst hB; rfl) (by subst hB; rfl) (by subst hB; rfl) (by subst hB; exact hc) i [] s5 _ H5 (fun _ _ => False) I5 (own1 I5 n5) st5 stop
      subst hB
      refine thnF fin fun r s6 ⟨hr, I6⟩ => ?_
      subst hr
      have I7 : Inv X pins σ H5 s6 := I3.call' (ch := fp) I6.os I6.base I6.hok I6.bare fun b hb => let f := (f3 b hb).1; ⟨f.2.2.2.1, f.2.1, f.2.2.2.2.1, f.2.2.2.2.2⟩
      have noC : H5 C = none := by have z : H5 ce.locals = none := I6.free; rwa [lC] at z
      obtain ⟨nm, hn, _⟩ := I6.loc
      have hn : s6.heap.Ns ce.locals nm := hn
      rw [lC] at hn
      obtain ⟨g0, g1, g2, g3, g4, g5⟩ := I3.fpOk (Nat.le_of_eq hC) noC
      exact ⟨nm, hn, fun h2 sb => ⟨.ref D, H5, I7.turned (t' := s6.toks) (fun b o hb e => (sb.2 b hb).trans e) g0 g1 g3 g4 g5, rfl, wq⟩⟩
    · have it1 := T.item B (by subst hB; rfl) (by subst hB; rfl) (by subst hB; rfl) (by subst hB; exact hc) i [] s5 _ H5 (fun _ _ => False) I5 (own1 I5 n5) st5 go
      have ePW : B.prog = X.prog ∧ B.w = X.w ∧ B.A = X.A := by subst hB; exact ⟨rfl, rfl, rfl⟩
      subst hB
      refine thnF it1 fun r s6 ⟨u, hr, w6⟩ => ?_
      subst hr
      refine thnF w6 fun _ s7 ⟨x, H7, I7, r7, y7, st7, n7⟩ => ?_
      have P7 := I7.pinned (own1 I7 n7) (T.obj _ _ st7)
      refine thnF (qg.run _ s7 _ H7 x u _ P7 r7 (one x H7 y7)) fun _ s8 ⟨σ8, H8, I8, hw8, w8⟩ => ?_
      refine thnF (qt.run _ s8 σ8 H8 _ I8 w8) fun c s9 ⟨H9, I9, w9⟩ => ?_
      have next : ∀ {t : Shared} {Ht : Hp}, Inv (X.blk s3 (upd H2 D (.dT [])) scope ce fp) ([] ++ pinsAt fp s7.heap) σ8 Ht t → Nx Ht →
          ∃ m', m' < m ∧ ∃ i Ht, Inv (X.blk s3 (upd H2 D (.dT [])) scope ce fp) [] (wipe σ (own.map (·.2))) Ht t ∧ tn i t.heap ∧ (∀ b ∈ fp, Ht b = none) ∧ W i m' Ht := by
        intro t Ht It nx
        obtain ⟨m', lt, wi'⟩ := lower Ht nx
        have stay : ∀ b ∈ fp, ∀ o, s7.heap.get? b = some o → t.heap.get? b = some o ∧ Ht b = none := fun b hb o e => by
          have z := It.pin (b, o) (List.mem_append_right _ (List.mem_append_right _ (mem_pinsAt hb e)))
          exact ⟨z.1, z.2.1⟩
        have len8 : (wipe σ (own.map (·.2))).length = σ8.length := by rw [← hw8, wipe_length]
        refine ⟨m', lt, i + 1, Ht, (It.unpinned (pins := [])).weak len8 (fun j v e => (wipe_some (hw8.symm ▸ e)).1), T.keep _ _ _ st7 fun b hb o e => (stay b hb o e).1, fun b hb => ?_, wi'⟩
        obtain ⟨o, e, _⟩ := T.obj _ _ st7 b hb
        exact (stay b hb o e).2
      cases c with
      | false => rw [if_neg Bool.false_ne_true] at w9 ⊢; exact next I9 w9
      | true =>
        rw [if_pos rfl] at w9 ⊢
        refine thnF (qk.run _ s9 σ8 H9 _ I9 w9) fun kv s10 ⟨yk, H10, I10, r10, w10⟩ => ?_
        refine thnF (qv.run _ s10 σ8 H10 _ I10 w10) fun vv s11 ⟨yv, H11, I11, r11, es, k, b, ek, hb, hD11, hz, nx⟩ => ?_
        subst ek
        obtain rfl : kv = Value.ref b := r10
        exact put_tupkey (X := X.blk s3 (upd H2 D (.dT [])) scope ce fp) hu I11 hD11 hb hz r11 fun s12 I12 => next I12 nx
  exact codeAny_compStart_dict loop (T.self X.A 0 _ _ _ st4 loop)
end
end L2

/-! DG21: dict comprehensions over data, the keys tuples. -/
namespace DL
open PySem L2
open PyProof.Rows hiding St
@[simp] def keyTD : D → Option (List Key)
  | .tup ds => keysOf ds
  | _ => none
/-- the turns -/
def dcL (vs : List Nat) (g : FG) (T : FT) (Ek Ev : FE) (post : Post) : List D → List (List Key × D) → Env → Prop
  | [], acc, ρ => post (.dt acc) ρ
  | d :: ds, acc, ρ => g d (wipeE ρ vs) fun ρ1 => T ρ1 (fun b ρ2 => if b = true then Ek ρ2 (fun kd ρ3 => Ev ρ3 (fun y ρ4 => ∃ k, keyTD kd = some k ∧ acc.length < 1000000 ∧ dcL vs g T Ek Ev post ds (putD acc k y) (unwipe ρ ρ4 vs)) noX) noX else dcL vs g T Ek Ev post ds acc (unwipe ρ ρ2 vs)) noX
def dcK (vs : List Nat) (g : FG) (T : FT) (Ek Ev : FE) (post : Post) (_ : Lock post noX) (ds : List D) (acc : List (List Key × D)) (ρ : Env) : Prop := dcL vs g T Ek Ev post ds acc ρ
def fDc (A : FA) (vs : List Nat) (g : FG) (T : FT) (Ek Ev : FE) : FE := fun ρ post xp => A ρ (fun ds ρ1 => dcK vs g T Ek Ev post .mk ds [] ρ1) xp
@[simp ↓] theorem fDc_ap (A : FA) (vs : List Nat) (g : FG) (T : FT) (Ek Ev : FE) (ρ : Env) (post : Post) (xp : XP) : fDc A vs g T Ek Ev ρ post xp = (A ρ (fun ds ρ1 => dcK vs g T Ek Ev post .mk ds [] ρ1) xp) := (rfl)
section
variable {X : Cx} {Wx : WX} {P L I J : List Nat} {kx vx tg iter : Expr} {ifs : List Expr} {scope : Scope} {own : List (Str × Nat)} {pos spos py : Pos} {wi : TI} {g : TG} {tt : TT} {tk tv : TE} {A : FA} {gd : FG} {T : FT} {Ek Ev : FE} {ts : List Nat}
theorem dc_ev (hi : DI X Wx P I tg iter wi A J) (hg : ∀ (s : Shared) (H : Hp) (C : Addr) (cl : List (Str × Addr)) (fp : List Addr), DG (X.blk s H scope (compEnvC scope cl C X.env) fp) (P ++ J) [] tg ts g gd)
    (ht : ∀ (s : Shared) (H : Hp) (C : Addr) (cl : List (Str × Addr)) (fp : List Addr), DTs (X.blk s H scope (compEnvC scope cl C X.env) fp) WN (P ++ J) [] ifs tt T [])
    (hk : ∀ (s : Shared) (H : Hp) (C : Addr) (cl : List (Str × Addr)) (fp : List Addr), DE (X.blk s H scope (compEnvC scope cl C X.env) fp) WN (P ++ J) [] kx tk Ek [])
    (he : ∀ (s : Shared) (H : Hp) (C : Addr) (cl : List (Str × Addr)) (fp : List Addr), DE (X.blk s H scope (compEnvC scope cl C X.env) fp) WN (P ++ J) [] vx tv Ev [])
    (hts : ∀ v ∈ ts, v ∈ own.map (·.2)) (hvs : ∀ v ∈ own.map (·.2), v ∉ P ∧ v ∉ J) :
    ∀ (W : Wd) (ρ : Env) (σ : St) (Hb H : Hp) (Q : VK) (post : Post) (xp : XP), EnvOk X.K W P I ρ σ Hb H → fDc A (own.map (·.2)) gd T Ek Ev ρ post xp → XOk X Wx W P σ xp →
    (∀ d ρ' p Hb' H', post d ρ' → EnvOk X.K W P J ρ' σ Hb' H' → Sub Hb Hb' → NewAt X.K W P J ρ' σ Hb' H' p d → Q (.ref p) H') → tDcT wi g tt tk tv (own.map (·.2)) σ H Q := by
  intro W ρ σ Hb H Q post xp E0 f x q
  refine hi.ev W ρ σ Hb H _ _ xp E0 f x fun ds ρ1 Jt Hb1 H1 f1 E1 s1 it => ?_
  have f1 : dcL (own.map (·.2)) gd T Ek Ev post ds [] ρ1 := f1
  intro D hD
  let s0 : Shared := {}
  refine ⟨fun i m H' => m = ds.length - i ∧ i ≤ ds.length ∧ ∃ ρ' Hb' acc, EnvOk X.K W P J ρ' σ Hb' H' ∧ Sub Hb1 Hb' ∧ NewAt X.K W P J ρ' σ Hb' H' D (.dt acc) ∧ dcL (own.map (·.2)) gd T Ek Ev post (ds.drop i) acc ρ',
    ⟨_, rfl, Nat.zero_le _, ρ1, Hb1, [], E1.more hD, Sub.refl _, NewAt.mk' E1 hD ⟨[], upd_same, rfl, .nil⟩, f1⟩, ?_⟩
  rintro i m H2 ⟨rfl, hi, ρ2, Hb2, acc, E2, s2, n2, f2⟩
  obtain ⟨i1, i2⟩ := it i H2 Hb2 s2 E2.sub
  by_cases hlt : i < ds.length
  · rw [List.drop_eq_getElem_cons hlt] at f2
    unfold dcL at f2
    obtain ⟨go, yl⟩ := i1 ds[i] (List.getElem?_eq_getElem hlt)
    refine .inr ⟨go, fun H' => ∃ ρ' Hb' acc, EnvOk X.K W P J ρ' σ Hb' H' ∧ Sub Hb1 Hb' ∧ NewAt X.K W P J ρ' σ Hb' H' D (.dt acc) ∧ dcL (own.map (·.2)) gd T Ek Ev post (ds.drop (i + 1)) acc ρ', fun H' h => ⟨ds.length - (i + 1), by omega, rfl, hlt, h⟩, fun y H3 yy => ?_⟩
    obtain ⟨Hb3, gr, is⟩ := yl y H3 yy
    obtain ⟨E3, s3⟩ := gr.env E2
    have n3 := n2.grow E2 gr
    have hP' : ∀ v ∈ own.map (·.2), v ∉ P ++ J ∧ v ∉ ([] : List Nat) := fun v hv => ⟨fun z => (List.mem_append.mp z).elim (hvs v hv).1 (hvs v hv).2, by simp⟩
    have EL := E3.lent
    have EW := EL.wiped hP'
    have xn : ∀ (Y : Cx) (σ' : St), XOk Y WN (here P J ρ2 σ Hb3 H3) (P ++ J) σ' noX := fun Y σ' c ρ' cls dx Hb' H' z => z.elim
    refine (hg s0 H3 0 [] []).ev (here P J ρ2 σ Hb3 H3) (wipeE ρ2 (own.map (·.2))) (wipe σ (own.map (·.2))) Hb3 H3 y _ _ _ EW is f2 fun ρ4 σ4 f4 E4 o4 => ?_
    have off : σ4.length = σ.length ∧ ∀ i, i ∉ own.map (·.2) → σ4[i]? = σ[i]? := ⟨by rw [o4.1, wipe_length], fun i hi => by rw [o4.2 i fun z => hi (hts i z), wipe_get hi]⟩
    refine ⟨wipe_ext off.1 off.2, (ht s0 H3 0 [] []).ev _ ρ4 σ4 Hb3 H3 _ _ noX E4 f4 (xn _ _) fun b ρ5 Hb5 H5 f5 E5 s5 => ?_⟩
    cases b with
    | true =>
      rw [if_pos rfl] at f5 ⊢
      refine (hk s0 H3 0 [] []).ev _ ρ5 σ4 Hb5 H5 _ _ noX E5 f5 (xn _ _) fun kd ρ6 y Hb6 H6 f6 E6 s6 i6 => ?_
      refine (he s0 H3 0 [] []).ev _ ρ6 σ4 Hb6 H6 _ _ noX E6 f6 (xn _ _) fun z ρ7 v Hb7 H7 f7 E7 s7 i7 => ?_
      obtain ⟨k, ek, hlen, f7⟩ := f7
      have s57 := (s5.trans s6).trans s7
      have E8 := EL.unwiped E7 s57 off hP'
      have E9 := E3.back E8
      have n9 := n3.over E8
      obtain ⟨vs, hv, ev, lv⟩ := n9.cell
      obtain ⟨c1, c2⟩ := putD_rel k ev lv i7
      cases kd <;> simp only [keyTD] at ek <;> first | cases ek | skip
      have i6 := i6.mono s7
      cases i6 with
      | tup hb lb =>
        obtain rfl := is_keys lb ek
        have hl : vs.length < sizeLine := by
          have := congrArg List.length ev
          simp only [List.length_map] at this
          rw [this]; exact Nat.lt_of_lt_of_le hlen (by decide)
        obtain ⟨Ea, na⟩ := n9.write (o := .dT (putK vs k v)) (d' := .dt (putD acc k z)) E9 ⟨_, upd_same, c1, c2⟩
        exact ⟨vs, k, _, rfl, E7.sub.at hb, hv, hl, _, Hb7, _, Ea, (s2.trans s3).trans s57, na, f7⟩
    | false =>
      rw [if_neg Bool.false_ne_true] at f5 ⊢
      have E8 := EL.unwiped E5 s5 off hP'
      exact ⟨_, Hb5, acc, E3.back E8, (s2.trans s3).trans s5, n3.over E8, f5⟩
  · have e : i = ds.length := by omega
    subst e
    rw [List.drop_length] at f2
    exact .inl ⟨i2 rfl, q _ _ _ _ _ f2 E2 (s1.trans s2) n2⟩
theorem dx_dc (own : List (Str × Nat)) (vs : List Nat) (hu : X.A.units < cLine) (hc : X.calm = true) (hN : X.N.Nodup) (hi : DI X Wx P I tg iter wi A J)
    (hg : ∀ (s : Shared) (H : Hp) (C : Addr) (cl : List (Str × Addr)) (fp : List Addr), ∃ g, DG (Bk X scope s H C cl fp) (P ++ J) [] tg ts g gd)
    (ht : ∀ (s : Shared) (H : Hp) (C : Addr) (cl : List (Str × Addr)) (fp : List Addr), ∃ tt, DTs (Bk X scope s H C cl fp) WN (P ++ J) [] ifs tt T [])
    (hk : ∀ (s : Shared) (H : Hp) (C : Addr) (cl : List (Str × Addr)) (fp : List Addr), ∃ te, DE (Bk X scope s H C cl fp) WN (P ++ J) [] kx te Ek [])
    (he : ∀ (s : Shared) (H : Hp) (C : Addr) (cl : List (Str × Addr)) (fp : List Addr), ∃ te, DE (Bk X scope s H C cl fp) WN (P ++ J) [] vx te Ev [])
    (hb : blkC X.N X.env.scope scope own = true := by rfl) (e3 : own.map (·.2) = vs := by rfl)
    (hts : ∀ v ∈ ts, v ∈ own.map (·.2) := by decide) (hvs : ∀ v ∈ own.map (·.2), v ∉ P ∧ v ∉ J := by decide) (hs : ∀ x, foldedSetIterable iter X.env x = pure x := by intro _; rfl) :
    DNx X Wx P I (.DictComp kx vx [⟨tg, iter, ifs, 0⟩] scope pos) (fDc A vs gd T Ek Ev) J := by
  obtain ⟨g, hg⟩ := all_dg hg
  obtain ⟨tt, ht⟩ := all_dts ht
  obtain ⟨tk, hk⟩ := all_de hk
  obtain ⟨te, he⟩ := all_de he
  subst e3
  exact ⟨_, ⟨pe_dcT hu hc hN hi.pe (blkOk_by hb) (fun s H C cl fp => (hg s H C cl fp).pe) (fun s H C cl fp => (ht s H C cl fp).pe) (fun s H C cl fp => (hk s H C cl fp).pe) (fun s H C cl fp => (he s H C cl fp).pe) hs, dc_ev hi hg ht hk he hts hvs⟩⟩
end
end DL

/-! DG22: try: .. except x as n: v = n, where the exception is kept behind the try. -/
namespace L2
open PySem PySem.Spec PyProof.Rows
open DL (XcO)
section
variable {X : Cx} {pins : List (Addr × Obj)} {σ : St} {H : Hp} {s : Shared}
end
section
variable {X : Cx} {x n v : Str} {c : Value} {i j : Nat} {body : List Stmt} {np pos pos' p1 p2 p3 : Pos} {tb : WX → TS} {Wout : WX}
end
end L2

/-! DG23: comprehensions that change nothing beside their own names, as map and filter. -/
namespace DL
open PySem L2
theorem hu2_of {A : Around} {k : Nat} (hr : Room k A) : A.units + 2 < cLine := by have := hr.un; omega
end DL

namespace DL
open PySem L2 StrLaws
/-! repr of plain data that is not too large -/
def shw (d : D) : Str := match pd d with
  | some x => x.shown
  | none => Str.empty
def RO (d : D) (dp n : Nat) : Prop := ∃ x, pd d = some x ∧ x.showable = true ∧ x.hasDict = false ∧ x.depth ≤ dp ∧ x.shown.length ≤ n
theorem RO.mono {d : D} {a b m n : Nat} (h : RO d a m) (h1 : a ≤ b) (h2 : m ≤ n) : RO d b n := by
  obtain ⟨x, e, s, hd, k, l⟩ := h
  exact ⟨x, e, s, hd, by omega, by omega⟩
theorem RO.non : RO .non 0 4 := ⟨.none, rfl, rfl, rfl, by decide, by decide +kernel⟩
theorem RO.bl (b : Bool) : RO (.bl b) 0 5 := ⟨.bool b, rfl, rfl, rfl, by simp [PyData.depth], by cases b <;> decide +kernel⟩
theorem RO.int {i : Int} {k : Nat} (hk : 0 < k) (hk2 : k ≤ 500) (h : i.natAbs < 10 ^ k) : RO (.int i) 0 (k + 1) := by
  refine ⟨.int i, rfl, ?_, rfl, by simp [PyData.depth], ?_⟩
  · simp only [PyData.showable, decide_eq_true_eq]
    have : i.natAbs < 2 ^ 1920 := by
      have h1 : (10 : Nat) ^ k ≤ 10 ^ 500 := Nat.pow_le_pow_right (by decide) hk2
      have h2 : (10 : Nat) ^ 500 < 2 ^ 1920 := by decide +kernel
      omega
    by_cases z : i.natAbs = 0
    · rw [z]; decide
    · exact (Nat.log2_lt z).mpr this
  · have e := int_text_length_le10 (k := k) hk h
    show (Str.ofString (toString i)).length ≤ k + 1
    rw [ofString_length]; exact e
theorem RO.str {s : Str} {n : Nat} (h : (PyData.shown (.str s)).length ≤ n) : RO (.str s) 0 n := ⟨.str s, rfl, rfl, rfl, by simp [PyData.depth], h⟩
theorem ROL {dp n : Nat} : ∀ {ds : List D}, (∀ d ∈ ds, RO d dp n) → ∃ xs, pdL ds = some xs ∧ PyData.showableAll xs = true ∧ PyData.hasDictAll xs = false ∧ PyData.depthAll xs ≤ dp ∧ xs.length = ds.length ∧ ((PyData.shownAll xs).map (·.length)).sum ≤ ds.length * n
  | [], _ => ⟨[], rfl, rfl, rfl, by simp [PyData.depthAll], rfl, by simp [PyData.shownAll]⟩
  | d :: ds, h => by
    obtain ⟨x, e, s, hd, k, l⟩ := h d List.mem_cons_self
    obtain ⟨xs, e', s', hd', k', l', t'⟩ := ROL (ds := ds) fun d hd => h d (List.mem_cons_of_mem _ hd)
    refine ⟨x :: xs, by simp [pdL, e, e'], by simp [PyData.showableAll, s, s'], by simp [PyData.hasDictAll, hd, hd'], by simp only [PyData.depthAll]; omega, by simp [l'], ?_⟩
    simp only [PyData.shownAll, List.map_cons, List.sum_cons, List.length_cons, Nat.succ_mul]
    omega
theorem shownAll_len : ∀ xs : List PyData, (PyData.shownAll xs).length = xs.length
  | [] => rfl
  | x :: xs => by simp [PyData.shownAll, shownAll_len xs]
theorem RO.tup {ds : List D} {dp n : Nat} (h : ∀ d ∈ ds, RO d dp n) : RO (.tup ds) (dp + 1) (ds.length * (n + 2) + 3) := by
  obtain ⟨xs, e, s, hd, k, l, t⟩ := ROL h
  refine ⟨.tuple xs, by simp [pd, e], by simp [PyData.showable, s], by simp [PyData.hasDict, hd], by simp only [PyData.depth]; omega, ?_⟩
  have := tupleText_len_le (PyData.shownAll xs)
  rw [shownAll_len] at this
  show (tupleText (PyData.shownAll xs)).length ≤ _
  rw [Nat.mul_add]; omega
theorem RO.lst {ds : List D} {dp n : Nat} (h : ∀ d ∈ ds, RO d dp n) : RO (.lst ds) (dp + 1) (ds.length * (n + 2) + 3) := by
  obtain ⟨xs, e, s, hd, k, l, t⟩ := ROL h
  refine ⟨.list xs, by simp [pd, e], by simp [PyData.showable, s], by simp [PyData.hasDict, hd], by simp only [PyData.depth]; omega, ?_⟩
  have := listText_len_le (PyData.shownAll xs)
  rw [shownAll_len] at this
  show (listText (PyData.shownAll xs)).length ≤ _
  rw [Nat.mul_add]; omega
theorem gRepr_ro {d : D} {dp n : Nat} (h : RO d dp n) (h1 : dp ≤ 60) (h2 : n ≤ 1000000) (k : D → Prop) : gRepr [d] k = k (.str (shw d)) := by
  obtain ⟨x, e, s, hd, kk, l⟩ := h
  have es : shw d = x.shown := by unfold shw; rw [e]
  refine propext ⟨fun z => ?_, fun q => ⟨x, e, s, hd, by omega, by omega, by rw [← es]; exact q⟩⟩
  obtain ⟨y, e', _, _, _, _, q⟩ := z
  rw [e] at e'; cases e'
  rw [es]; exact q
/-! == of plain data (no bools in it) is equality -/
mutual
def plD : Nat → D → Bool
  | _, .non => true
  | _, .int _ => true
  | _, .str s => PyData.strOk s
  | n + 1, .tup ds => plDs n ds
  | n + 1, .lst ds => plDs n ds
  | _, _ => false
def plDs : Nat → List D → Bool
  | _, [] => true
  | n, d :: ds => plD n d && plDs n ds
end
theorem plDs_all (n : Nat) : ∀ ds : List D, plDs n ds = ds.all (plD n)
  | [] => by simp [plDs]
  | d :: ds => by simp [plDs, plDs_all n ds]
@[simp] theorem plD_non (n : Nat) : plD n .non = true := by cases n <;> simp [plD]
@[simp] theorem plD_int (n : Nat) (i : Int) : plD n (.int i) = true := by cases n <;> simp [plD]
@[simp] theorem plD_str (n : Nat) (s : Str) : plD n (.str s) = PyData.strOk s := by cases n <;> simp [plD]
@[simp] theorem plD_tup (n : Nat) (ds : List D) : plD n (.tup ds) = (decide (1 ≤ n) && ds.all (plD (n - 1))) := by cases n <;> simp [plD, plDs_all]
@[simp] theorem plD_lst (n : Nat) (ds : List D) : plD n (.lst ds) = (decide (1 ≤ n) && ds.all (plD (n - 1))) := by cases n <;> simp [plD, plDs_all]
mutual
theorem plD_pd : ∀ {n : Nat} {d : D}, plD n d = true → ∃ x, pd d = some x ∧ x.canLay0 = true ∧ x.depth ≤ n ∧ ∀ {m : Nat} {d' : D} {y : PyData}, plD m d' = true → pd d' = some y → PyData.eqv x y = true → d = d'
  | n, .non, _ => ⟨.none, rfl, rfl, by simp [PyData.depth], fun {m d' y} h e q => by
    cases d' <;> simp [plD, pd] at h e <;> first | rfl | (subst e; simp [PyData.eqv] at q) | (obtain ⟨_, _, rfl⟩ := e; simp [PyData.eqv] at q)⟩
  | n, .int i, _ => ⟨.int i, rfl, rfl, by simp [PyData.depth], fun {m d' y} h e q => by
    cases d' <;> simp [plD, pd] at h e <;> first | (subst e; simp [PyData.eqv] at q; done) | (subst e; simp [PyData.eqv] at q; rw [q]) | (obtain ⟨_, _, rfl⟩ := e; simp [PyData.eqv] at q)⟩
  | n, .str s, h => ⟨.str s, rfl, by simpa [PyData.canLay0] using h, by simp [PyData.depth], fun {m d' y} h e q => by
    cases d' <;> simp [plD, pd] at h e <;> first | (subst e; simp [PyData.eqv] at q; done) | (subst e; simp [PyData.eqv] at q; rw [q]) | (obtain ⟨_, _, rfl⟩ := e; simp [PyData.eqv] at q)⟩
  | n + 1, .tup ds, h => by
    obtain ⟨xs, e, c, k, u⟩ := plDs_pd (n := n) (ds := ds) (by simpa [plD] using h)
    refine ⟨.tuple xs, by simp [pd, e], by simpa [PyData.canLay0] using c, by simp only [PyData.depth]; omega, fun {m d' y} h e q => ?_⟩
    cases d' with
    | tup es =>
      match m, h with
      | m + 1, h =>
        simp [plD, pd] at h e
        obtain ⟨ys, e, rfl⟩ := e
        rw [u h e (by simpa [PyData.eqv] using q)]
    | lst es => simp [pd] at e; obtain ⟨_, _, rfl⟩ := e; simp [PyData.eqv] at q
    | _ => simp [pd] at e <;> first | (subst e; simp [PyData.eqv] at q; done) | simp [plD] at h
  | n + 1, .lst ds, h => by
    obtain ⟨xs, e, c, k, u⟩ := plDs_pd (n := n) (ds := ds) (by simpa [plD] using h)
    refine ⟨.list xs, by simp [pd, e], by simpa [PyData.canLay0] using c, by simp only [PyData.depth]; omega, fun {m d' y} h e q => ?_⟩
    cases d' with
    | lst es =>
      match m, h with
      | m + 1, h =>
        simp [plD, pd] at h e
        obtain ⟨ys, e, rfl⟩ := e
        rw [u h e (by simpa [PyData.eqv] using q)]
    | tup es => simp [pd] at e; obtain ⟨_, _, rfl⟩ := e; simp [PyData.eqv] at q
    | _ => simp [pd] at e <;> first | (subst e; simp [PyData.eqv] at q; done) | simp [plD] at h
theorem plDs_pd : ∀ {n : Nat} {ds : List D}, plDs n ds = true → ∃ xs, pdL ds = some xs ∧ PyData.canLayAll0 xs = true ∧ PyData.depthAll xs ≤ n ∧ ∀ {m : Nat} {ds' : List D} {ys : List PyData}, plDs m ds' = true → pdL ds' = some ys → PyData.eqvAll xs ys = true → ds = ds'
  | n, [], _ => ⟨[], rfl, rfl, by simp [PyData.depthAll], fun {m ds' ys} h e q => by
    cases ds' with
    | nil => rfl
    | cons d ds =>
      simp only [pdL] at e
      cases z : pd d with
      | none => rw [z] at e; cases e
      | some x =>
        rw [z] at e
        obtain ⟨_, _, rfl⟩ := Option.map_eq_some_iff.mp e
        simp [PyData.eqvAll] at q⟩
  | n, d :: ds, h => by
    simp only [plDs, Bool.and_eq_true] at h
    obtain ⟨x, e, c, k, u⟩ := plD_pd h.1
    obtain ⟨xs, e', c', k', u'⟩ := plDs_pd h.2
    refine ⟨x :: xs, by simp [pdL, e, e'], by simp [PyData.canLayAll0, c, c'], by simp only [PyData.depthAll]; omega, fun {m ds' ys} h e q => ?_⟩
    cases ds' with
    | nil => simp only [pdL, Option.some.injEq] at e; subst e; simp [PyData.eqvAll] at q
    | cons d' ds' =>
      simp only [plDs, Bool.and_eq_true] at h
      simp only [pdL] at e
      cases z : pd d' with
      | none => rw [z] at e; cases e
      | some y =>
        rw [z] at e
        obtain ⟨ys', z', rfl⟩ := Option.map_eq_some_iff.mp e
        simp only [PyData.eqvAll, Bool.and_eq_true] at q
        rw [u h.1 z q.1, u' h.2 z' q.2]
end
mutual
theorem eqv_refl : ∀ x : PyData, x.canLay0 = true → PyData.eqv x x = true
  | .none, _ => by simp [PyData.eqv]
  | .bool b, _ => by simp [PyData.eqv]
  | .int i, _ => by simp [PyData.eqv]
  | .str s, _ => by simp [PyData.eqv]
  | .tuple xs, h => by simp only [PyData.eqv]; exact eqvAll_refl xs (by simpa [PyData.canLay0] using h)
  | .list xs, h => by simp only [PyData.eqv]; exact eqvAll_refl xs (by simpa [PyData.canLay0] using h)
  | .dict _, h => by simp [PyData.canLay0] at h
theorem eqvAll_refl : ∀ xs : List PyData, PyData.canLayAll0 xs = true → PyData.eqvAll xs xs = true
  | [], _ => by simp [PyData.eqvAll]
  | x :: xs, h => by
    simp only [PyData.canLayAll0, Bool.and_eq_true] at h
    simp only [PyData.eqvAll, Bool.and_eq_true]
    exact ⟨eqv_refl x h.1, eqvAll_refl xs h.2⟩
end
open Classical in
theorem gEq_pl {n : Nat} (hn : n ≤ 64) {x y : D} (hx : plD n x = true) (hy : plD n y = true) : ∃ a b, pd x = some a ∧ pd y = some b ∧ SeqAt.shaped a = true ∧ SeqAt.shaped b = true ∧ PyData.eqv a b = decide (x = y) := by
  obtain ⟨a, e, c, k, u⟩ := plD_pd hx
  obtain ⟨b, e', c', k', u'⟩ := plD_pd hy
  refine ⟨a, b, e, e', by simp only [SeqAt.shaped, c, Bool.true_and, decide_eq_true_eq]; omega, by simp only [SeqAt.shaped, c', Bool.true_and, decide_eq_true_eq]; omega, ?_⟩
  by_cases h : x = y
  · subst h
    rw [e] at e'; cases e'
    rw [eqv_refl a c]; simp
  · rw [decide_eq_false h]
    cases q : PyData.eqv a b with
    | false => rfl
    | true => exact absurd (u hy e' q) h
open Classical in
theorem empty2_pl {x y : D} {b : Bool} (hx : plD 40 x = true) (hy : plD 40 y = true) (h : empty2 x y = some b) : b = decide (x = y) := by
  unfold empty2 at h
  split at h
  · split at h
    · rename_i z
      cases h
      rw [decide_eq_decide]
      rcases z with rfl | rfl <;> simp [List.length_eq_zero_iff, eq_comm]
    · cases h
  · simp [plD] at hx
  · split at h
    · rename_i z
      cases h
      rw [decide_eq_decide]
      rcases z with rfl | rfl <;> simp [List.length_eq_zero_iff, eq_comm]
    · cases h
  · cases h
    rw [decide_eq_decide]; simp
  · cases h
open Classical in
theorem gEqU_pl {x y : D} (hx : plD 40 x = true) (hy : plD 40 y = true) (k) : gEqU x y k = k (.bl (decide (x = y))) := by
  unfold gEqU
  split
  · rename_i b h; rw [empty2_pl hx hy h]
  · obtain ⟨a, b, e, e', s, s', q⟩ := gEq_pl (by decide) hx hy
    rw [gEq_of e e' s s', q]
end DL

/-! DG25: raise C(), raise C(e); try: .. except C as e: v = e; e.f, isinstance of a caught exception -/
namespace L2
open PySem PySem.Spec PyProof.Rows
end L2
namespace DL
open PySem L2
/-- an own exception class over ValueError -/
structure XcC (K : PySem.W.Frag) (mg : Str → Option Value) (n : Str) (C : Addr) : Prop where
  ic : IsCl K n C
  mc : mg n = some (.ref C)
  kp : PySem.W.keepIn K (.ref C) = true
  sb : PySem.W.subIn K (.ref C) (.type "BaseException") = some true
  ty : PySem.W.typeIn K (.ref C) = some (.type "type")
/-- .. without an __init__ of its own -/
structure XcN (K : PySem.W.Frag) (mg : Str → Option Value) (n : Str) (C : Addr) : Prop where
  c : XcC K mg n C
  ex : PySem.W.excIn K C PySem.HandSPX.veTail "ValueError.__new__" = true
/-- .. with one field, that its __init__ sets -/
structure XcI (K : PySem.W.Frag) (mg : Str → Option Value) (n f : Str) (C : Addr) : Prop where
  c : XcC K mg n C
  ex : ∃ (fI : Addr) (fd : FuncData) (qual : Str) (st : Stmt) (p1 p2 p3 p4 : Pos), FunG K "__init__" qual st fI fd ∧ Binds K fd ["self", f] [] ∧ FnScope ["self", f] ["self", f] (defScope st) ∧
    defBody st = [.Assign [.Attribute (.Name "self" p1) f p2] (.Name f p3) p4] ∧ L2.OexC K C ∧ PySem.W.findIn K (.ref C) "__init__" = some (some (.ref fI)) ∧ PySem.W.typeIn K (.ref fI) = some (.type "function") ∧
    PySem.W.findIn K (.ref C) f = some none ∧ (f == ("__debug__" : Str)) = false ∧ (f == ("__classdict__" : Str)) = false
section
variable {X : Cx} {Wx : WX} {P L I J J1 : List Nat} {e : Expr} {te : TE} {F : FE} {pos p pos' : Pos} {n f : Str} {C : Addr}
end
end DL

/-! DG26: try: .. except C as e: v = e over data; what is asked of a caught exception -/
namespace DL
open PySem L2
/-- how an exception ends in the clause -/
def kept (ts : List (Str × Bool)) (n : Str) (yes no : Prop) : Prop := match ts.lookup n with
  | some true => yes
  | some false => no
  | none => False
def SPo.kp (S : SPo) (ts : List (Str × Bool)) (i j : Nat) : SPo := { S with ex := fun e ρ1 => kept ts e.C (S.nx (put (put ρ1 j (some (.xc e.C e.fs))) i none)) (S.ex e ρ1) }
@[simp ↓] theorem kp_nx (S : SPo) (ts i j) : (S.kp ts i j).nx = S.nx := (rfl)
@[simp ↓] theorem kp_rt (S : SPo) (ts i j) : (S.kp ts i j).rt = S.rt := (rfl)
@[simp ↓] theorem kp_bk (S : SPo) (ts i j) : (S.kp ts i j).bk = S.bk := (rfl)
@[simp ↓] theorem kp_ct (S : SPo) (ts i j) : (S.kp ts i j).ct = S.ct := (rfl)
@[simp ↓] theorem kp_ex (S : SPo) (ts i j n fs ρ) : (S.kp ts i j).ex ⟨n, fs⟩ ρ = kept ts n (S.nx (put (put ρ j (some (.xc n fs))) i none)) (S.ex ⟨n, fs⟩ ρ) := (rfl)
theorem EnvOk.clear {K : PySem.W.Frag} {W : Wd} {P I : List Nat} {ρ : Env} {σ : St} {Hb H : Hp} {i : Nat} (E : EnvOk K W P I ρ σ Hb H) (hP : i ∉ P) (hI : i ∉ I) : EnvOk K W P I (put ρ i none) (σ.set i none) Hb H := by
  have := E.wiped (vs := [i]) (fun v hv => by rw [List.mem_singleton] at hv; subst hv; exact ⟨hP, hI⟩)
  simpa [wipe] using this
section
variable {K : PySem.W.Frag} {W : Wd} {P I I' : List Nat} {ρ ρ' : Env} {σ σ' : St} {Hb H Hb' H' : Hp}
end
section
variable {X : Cx} {Wx : WX} {P L I J J1 : List Nat} {e : Expr} {te : TE} {F : FE} {pos p pos' : Pos} {n f : Str} {C : Addr}
end
end DL

/-! DG27: e.f, isinstance of a caught exception; own exception classes as the top leaves them -/
namespace DL
open PySem L2
/-- the class D of a caught exception, as isinstance asks -/
structure XcQ (K : PySem.W.Frag) (D : Addr) : Prop where
  x : ExcC K D
section
variable {X : Cx} {Wx : WX} {P I J : List Nat} {e : Expr} {ta : TE} {F : FE} {pos p1 p2 : Pos} {n m y : Str} {C : Addr}
end
end DL

/-! DG28: xs[::-1] of a list; isinstance of a caught exception: built-in classes, tuples of classes; classes by a table -/
namespace DL
open PySem L2
open PyProof.Rows (tail_any Subscript_)
def tBack (K : PySem.W.Frag) (te : TE) (ts : TO) : TE := fun σ H Q => te σ H fun x H1 => ts σ H1 fun o H2 => o = some (-1) ∧ ∃ a xs, x = .ref a ∧ SqL K H2 a xs ∧ ∀ p, H2 p = none → Q (.ref p) (upd H2 p (.lst xs.reverse))
theorem pe_back {X : Cx} {e : Expr} {st : Option Expr} {te : TE} {ts : TO} {pos p2 : Pos} (he : PE X e te) (hst : PO X st ts) (hsub : ∀ o i : Value, subscripted (.Slice none none st p2) false o i = operate [o, i] (getItem o i)) : PE X (.Subscript e (.Slice none none st p2) pos) (tBack X.K te ts) := by
  refine ⟨fun pins s σ H Q I h => Subscript_ (thn (he.run pins s σ H _ I h) fun v s1 ⟨x, H1, I1, rx, q1⟩ => ?_)⟩
  refine wpAny_Slice ?_
  rw [evalPart_none]
  refine wpAny_pure (wpAny_pure (thn (hst.run pins s1 σ H1 _ I1 q1) fun vs s3 ⟨o, H3, I3, po, eo, q3⟩ => ?_))
  obtain ⟨a, xs, rfl, hq, q⟩ := q3
  subst eo
  obtain rfl : v = Value.ref a := rx
  have J : Inv X pins σ H3 { s3 with heap := s3.heap.push { cls := .type "slice", data := .fields #[.none, .none, vs] } } :=
    I3.kept (t' := s3.toks) fun b ob hb => Heap.get?_push_of_some _ hb
  obtain ⟨its, r, ht, hz⟩ := J.list hq
  refine tail_any (ops := [.ref a, .ref s3.heap.objs.size]) ht.isList.typeIs slot_list_getitem.lookup ?_ (hsub _ _)
  refine wpAny_getItem_list_slice ht.isList (Heap.IsSliceOf.new ..) .none .none po (by decide) ?_ (by have := r.length; rw [List.size_toArray]; omega)
  rw [PySem.W.krv_pick]
  refine ⟨.ref _, _, J.laid (t' := s3.toks) (o := .lst xs.reverse) (fun b ob hb => Heap.get?_push_of_some _ hb) (Nat.le_refl _) ?_, rfl, q _ (J.hok.fresh (Nat.le_refl _))⟩
  exact ⟨by rw [List.length_reverse]; exact hz, _, 0, r.reverse, Heap.get?_push_size _ rfl⟩
/-- xs[::-1] -/
def fBack (F : FE) (A : FO) : FE := fun ρ post xp => F ρ (fun d ρ1 => A ρ1 (fun o ρ2 => o = some (-1) ∧ ∃ ds, lstD d = some ds ∧ post (.lst ds.reverse) ρ2) xp) xp
@[simp ↓] theorem fBack_ap (F : FE) (A : FO) (ρ : Env) (post : Post) (xp : XP) : fBack F A ρ post xp = F ρ (fun d ρ1 => A ρ1 (fun o ρ2 => o = some (-1) ∧ ∃ ds, lstD d = some ds ∧ post (.lst ds.reverse) ρ2) xp) xp := (rfl)
section
variable {X : Cx} {Wx : WX} {P I J J1 : List Nat} {e : Expr} {ta : TE} {F : FE} {A : FO} {pos p1 p2 : Pos} {n m y : Str} {C : Addr}
theorem de_back {st : Option Expr} {ts : TO} (ha : DE X Wx P I e ta F J1) (hb : DOp X Wx P J1 st ts A J) (hsub : ∀ o i : Value, subscripted (.Slice none none st p2) false o i = operate [o, i] (getItem o i) := by intro _ _; with_unfolding_all rfl) : DE X Wx P I (.Subscript e (.Slice none none st p2) pos) (tBack X.K ta ts) (fBack F A) J := by
  refine de_of (pe_back ha.pe hb.pe hsub) fun W ρ σ Hb H Q post xp E f x q => ha.ev W ρ σ Hb H _ _ xp E f x fun d ρ1 v Hb1 H1 f1 E1 s1 i1 => hb.ev W ρ1 σ Hb1 H1 _ _ xp E1 f1 x fun o ρ2 Hb2 H2 f2 E2 s2 => ?_
  obtain ⟨eo, ds, hd, f2⟩ := f2
  obtain ⟨p, us, rfl, h1, l1⟩ := o_lstD E2.sub (.inl (i1.mono s2)) hd
  exact ⟨eo, p, us, rfl, h1, fun r hr => q _ _ _ _ _ f2 (E2.alloc hr) ((s1.trans s2).trans (Sub.new (E2.sub.none hr))) (.lst upd_same ((l1.reverse).mono (Sub.new (E2.sub.none hr))))⟩
/-- names of own classes -/
inductive ClNm (X : Cx) : List Expr → List Addr → Prop
  | nil : ClNm X [] []
  | cons {x : Str} {p : Pos} {C : Addr} {es : List Expr} {cs : List Addr} (hm : X.mg x = some (.ref C)) (hg : Gl X x) (hd : (x == ("__debug__" : Str)) = false) (r : ClNm X es cs) : ClNm X (.Name x p :: es) (C :: cs)
theorem ClNm.len {X : Cx} : ∀ {es : List Expr} {cs : List Addr}, ClNm X es cs → es.length = cs.length
  | _, _, .nil => rfl
  | _, _, .cons _ _ _ r => by simp [r.len]
end
end DL

/-! DG29: o[y] by an own __getitem__; len(o) by an own __len__ -/
namespace DL
open PySem L2
open PyProof.Rows (Subscript_)
section
variable {X : Cx} {Wx : WX} {P I J J1 : List Nat} {a b e : Expr} {ta tb : TE} {Fa Fb : FE} {pos p1 p2 : Pos} {n y : Str} {C f : Addr} {k : Nat} {sp : Sp} {G : DFn}
def tIxOwn (C : Addr) (sp : Sp) (ta tb : TE) : TE := fun σ H Q => ta σ H fun x H1 => tb σ H1 fun y H2 => ∃ a dx fs, x = .ref a ∧ H2 a = some (.ins C dx fs) ∧ sp [.ref a, y] H2 Q fun _ _ _ => False
theorem pe_ixOwn (hs : PySem.W.findIn X.K (.ref C) "__getitem__" = some (some (.ref f))) (hf : PySem.W.fnIn X.K f = true) (hfn : PySem.W.isFn X.K (.ref f) = true) (F : FnG X.prog X.w X.K X.mg X.base k f sp) (hr : Room (k + 1) X.A) (hgu : X.A.guards = some [])
    (ha : PE X a ta) (hb : PE X b tb) (hsub : ∀ x i : Value, subscripted b true x i = runValue (.builtin "lifetime.subscript" ⟨[x, i], []⟩)) : PE X (.Subscript a b pos) (tIxOwn C sp ta tb) := by
  refine ⟨fun pins s σ H Q I h => Subscript_ (thn (ha.run pins s σ H _ I h) fun v s1 ⟨x, H1, I1, rx, q1⟩ => thn (hb.run pins s1 σ H1 _ I1 q1) fun i s2 ⟨y, H2, I2, ry, q2⟩ => ?_)⟩
  obtain ⟨a, dx, fs, rfl, hh, hsp⟩ := q2
  obtain rfl : v = Value.ref a := rx
  obtain ⟨mA, O, _⟩ := ins_get I2.hok hh
  obtain ⟨od, J, _⟩ := O.look
  obtain ⟨m, fr⟩ := I2.fr
  refine PySem.W.sub_K fr I2.ok.mod.kin J hs hf hfn (wpAny_call (codeAny_mono (F X.A.in1 X.stack s2 H2 [.ref a, i] [.ref a, y] Q (fun _ _ _ => False) hr.in1 hgu I2.env0.in1 (.cons rfl (.cons ry .nil)) hsp) fun res s3 q => ?_)) (hsub _ _)
  cases res with
  | error er => exact (cx_no q).elim
  | ok fl =>
    cases fl with
    | ret u => exact I2.after q
    | next => exact q.elim
    | brk => exact q.elim
    | cont => exact q.elim
def fIxOwn (n : Str) (G : DFn) (Fa Fb : FE) : FE := fun ρ post xp => Fa ρ (fun o ρ1 => Fb ρ1 (fun y ρ2 => isObj n o ∧ callD G [some o, some y] (fun z _ => post z ρ2) noX .mk) xp) xp
@[simp ↓] theorem fIxOwn_ap (n : Str) (G : DFn) (Fa Fb : FE) (ρ : Env) (post : Post) (xp : XP) : fIxOwn n G Fa Fb ρ post xp = Fa ρ (fun o ρ1 => Fb ρ1 (fun y ρ2 => isObj n o ∧ callD G [some o, some y] (fun z _ => post z ρ2) noX .mk) xp) xp := (rfl)
theorem de_ixOwn (hc : IsCl X.K n C) (hs : PySem.W.findIn X.K (.ref C) "__getitem__" = some (some (.ref f))) (hf : PySem.W.fnIn X.K f = true) (hfn : PySem.W.isFn X.K (.ref f) = true) (F : FnG X.prog X.w X.K X.mg X.base k f (spD X.K 2 [] G)) (hr : Room (k + 1) X.A) (hgu : X.A.guards = some [])
    (ha : DE X Wx P I a ta Fa J1) (hb : DE X Wx P J1 b tb Fb J) (hsub : ∀ x i : Value, subscripted b true x i = runValue (.builtin "lifetime.subscript" ⟨[x, i], []⟩) := by intro _ _; with_unfolding_all rfl) :
    DE X Wx P I (.Subscript a b pos) (tIxOwn C (spD X.K 2 [] G) ta tb) (fIxOwn n G Fa Fb) J := by
  refine de_of (pe_ixOwn hs hf hfn F hr hgu ha.pe hb.pe hsub) fun W ρ σ Hb H Q post xp E f x q => ha.ev W ρ σ Hb H _ _ xp E f x fun o ρ1 v Hb1 H1 f1 E1 s1 i1 => hb.ev W ρ1 σ Hb1 H1 _ _ xp E1 f1 x fun d ρ2 v2 Hb2 H2 f2 E2 s2 i2 => ?_
  obtain ⟨⟨fs, e⟩, f2⟩ := f2
  subst e
  have i1' := i1.mono s2
  obtain ⟨a, C', dx, vs, rfl, hc', hh, e1, l1⟩ := o_obj E2.sub (.inl i1')
  obtain rfl := hc.eq hc'
  have ar : Args X.K Hb2 σ [none, none] [V.ref a, v2] [some (.obj n fs), some d] := ⟨⟨_, rfl, i1'⟩, ⟨_, rfl, i2⟩, trivial⟩
  have hsl : ∀ j ∈ slots [none, none], j ∈ P ∨ j ∈ J := fun j h => by simp [slots] at h
  have hl : ∀ j ∈ slots [none, none], get ρ2 j ≠ none := fun j h => by simp [slots] at h
  refine ⟨a, dx, vs, rfl, hh, rfl, [some (.obj n fs), some d], Hb2, _, _, E2.lend ar hsl (by simp [slots]) hl, f2, fun z ρ' v Hb' H' p1 E4 is => ?_, fun c ρ' cls dx Hb' H' p1 => p1.elim⟩
  have E3 := E2.given ar hsl (by simp [slots]) hl E4 rfl
  have eu : unfill [none, none] ρ' ρ2 = ρ2 := by rcases ρ' with _ | ⟨_, _ | _⟩ <;> rfl
  rw [eu] at E3
  exact q _ _ _ _ _ p1 E3 ((s1.trans s2).trans E4.stp.hb) is
/-! len -/
def rLenOwn (C : Addr) (sp : Sp) : List V → Hp → VK → Prop := fun xs H Q => ∃ a dx fs, xs = [V.ref a] ∧ H a = some (.ins C dx fs) ∧ sp [.ref a] H (fun z H2 => ∃ m : Int, z = .int m ∧ (0 ≤ m ∧ m < 2 ^ 63) ∧ Q (.int m) H2) fun _ _ _ => False
theorem call_lenOwn (hs : PySem.W.findIn X.K (.ref C) "__len__" = some (some (.ref f))) (hfn : PySem.W.isFn X.K (.ref f) = true) (F : FnG X.prog X.w X.K X.mg X.base k f sp) (hr : Room (k + 1) X.A) (hgu : X.A.guards = some []) : CallR X (.builtin "len") (rLenOwn C sp) := by
  intro pins s σ H xs us Q I r ⟨a, dx, fs, ex, hh, hsp⟩
  subst ex
  obtain ⟨u, eu, ru⟩ := vals1 r
  subst eu
  cases (show u = Value.ref a from ru)
  obtain ⟨mA, O, _⟩ := ins_get I.hok hh
  obtain ⟨od, J, _⟩ := O.look
  obtain ⟨m, fr⟩ := I.fr
  refine PySem.W.len_K fr I.ok.mod.kin J hs hfn (wpAny_call (codeAny_mono (F X.A.in1 X.stack s H [.ref a] [.ref a] _ (fun _ _ _ => False) hr.in1 hgu I.env0.in1 (.cons rfl .nil) hsp) fun res s3 q => ?_))
  cases res with
  | error er => exact (cx_no q).elim
  | ok fl =>
    cases fl with
    | ret u =>
      obtain ⟨z, H3, I3, rz, m, ez, hm, q3⟩ := I.after q
      subst ez
      obtain ⟨t, rfl⟩ := (show ∃ t, u = Value.int m t from rz)
      exact ⟨hm, .int m, H3, I3.tok _, ⟨_, rfl⟩, q3⟩
    | next => exact q.elim
    | brk => exact q.elim
    | cont => exact q.elim
def fLenOwn (n : Str) (G : DFn) (Fa : FE) : FE := fun ρ post xp => Fa ρ (fun o ρ1 => isObj n o ∧ callD G [some o] (fun z _ => ∃ m : Int, z = .int m ∧ (0 ≤ m ∧ m < 2 ^ 63) ∧ post (.int m) ρ1) noX .mk) xp
@[simp ↓] theorem fLenOwn_ap (n : Str) (G : DFn) (Fa : FE) (ρ : Env) (post : Post) (xp : XP) : fLenOwn n G Fa ρ post xp = Fa ρ (fun o ρ1 => isObj n o ∧ callD G [some o] (fun z _ => ∃ m : Int, z = .int m ∧ (0 ≤ m ∧ m < 2 ^ 63) ∧ post (.int m) ρ1) noX .mk) xp := (rfl)
theorem de_lenOwn (hc : IsCl X.K n C) (hs : PySem.W.findIn X.K (.ref C) "__len__" = some (some (.ref f))) (hfn : PySem.W.isFn X.K (.ref f) = true) (F : FnG X.prog X.w X.K X.mg X.base k f (spD X.K 1 [] G)) (hr : Room (k + 1) X.A) (hgu : X.A.guards = some [])
    (hml : X.mg "len" = none) (ha : DE X Wx P I a ta Fa J) (hg : Gl X "len" := by rfl) (hs1 : starEach [a] X.env = (false, eval a X.env) :: starEach [] X.env := by rfl) :
    DE X Wx P I (.Call (.Name "len" p1) [a] [] pos) (tCB (rLenOwn C (spD X.K 1 [] G)) (tCons ta tNil)) (fLenOwn n G Fa) J := by
  refine de_of (pe_callB (id := "len") (call_lenOwn hs hfn F hr hgu) hg hml rfl (pa_cons ha.pe pa_nil (hs := hs1)) (he := hs1)) fun W ρ σ Hb H Q post xp E f x q => ha.ev W ρ σ Hb H _ _ xp E f x fun o ρ1 v Hb1 H1 f1 E1 s1 i1 => ?_
  obtain ⟨⟨fs, e⟩, f2⟩ := f1
  subst e
  obtain ⟨a, C', dx, vs, rfl, hc', hh, e1, l1⟩ := o_obj E1.sub (.inl i1)
  obtain rfl := hc.eq hc'
  have ar : Args X.K Hb1 σ [none] [V.ref a] [some (.obj n fs)] := ⟨⟨_, rfl, i1⟩, trivial⟩
  have hsl : ∀ j ∈ slots [none], j ∈ P ∨ j ∈ J := fun j h => by simp [slots] at h
  have hl : ∀ j ∈ slots [none], get ρ1 j ≠ none := fun j h => by simp [slots] at h
  refine ⟨a, dx, vs, rfl, hh, rfl, [some (.obj n fs)], Hb1, _, _, E1.lend ar hsl (by simp [slots]) hl, f2, fun z ρ' v Hb' H' p1 E4 is => ?_, fun c ρ' cls dx Hb' H' p1 => p1.elim⟩
  have E3 := E1.given ar hsl (by simp [slots]) hl E4 rfl
  have eu : unfill [none] ρ' ρ1 = ρ1 := by rcases ρ' with _ | ⟨_, _⟩ <;> rfl
  rw [eu] at E3
  obtain ⟨m, rfl, hm, p1⟩ := p1
  exact ⟨m, is_int is, hm, q _ _ _ _ _ p1 E3 (s1.trans E4.stp.hb) (.int m)⟩
end
end DL

/-! DG30: enumerate over a list or a tuple. -/
namespace DL
open PySem L2 RZ
open PyProof.Rows hiding St
section
variable {X : Cx} {Wx : WX} {P L I J : List Nat} {e : Expr} {elts : List Expr} {A : FA} {pos p tpos : Pos} {kk : Nat} {tA : TA}
end
end DL

/-! DG31: calls by keywords, all parameters named, the last first. -/
namespace DL
open PySem L2
open PyProof.Rows hiding St
/-- a def's promise where m values stand ahead and the keywords ks name the others, the last parameter first -/
def FnKw (P : Program) (w : World) (K : PySem.W.Frag) (mg : Str → Option Value) (base : Heap) (k : Nat) (f : Addr) (m : Nat) (ks : List Str) (sp : Sp) : Prop :=
  ∀ (A : Around) (frs_ : List PySem.Env) (s : Shared) (H : Hp) (us0 us : List Value) (vs0 vs : List V) (Q : VK) (E : XK), Room k A → A.guards = some [] → Env0 P w K mg base A frs_ s H → Vals vs0 us0 → Vals vs us → us0.length = m → us.length = ks.length → sp (vs0 ++ vs.reverse) H Q E →
    codeAny (model P w) A (.call (.ref f) ⟨us0, ks.zip us⟩) (CR (L2.CX P w) frs_ P w H s Q E) s
section
variable {P : Program} {w : World} {K : PySem.W.Frag} {mg : Str → Option Value} {base : Heap} {j k : Nat} {f : Addr} {sp sp' : Sp} {m : Nat} {ks : List Str}
theorem FnKw.mono (F : FnKw P w K mg base j f m ks sp) (h : j ≤ k) : FnKw P w K mg base k f m ks sp := fun A o s H us0 us vs0 vs Q E r => F A o s H us0 us vs0 vs Q E (r.mono h)
end
/-! ### the call -/
structure DK (X : Cx) (Wx : WX) (P I : List Nat) (kws : List Keyword) (t : TA) (F : Env → (Env → Env → Prop) → XP → Prop) (n : Nat) (J : List Nat) : Prop where
  pe : PK X kws t
  ev : ∀ (W : Wd) (ρ : Env) (σ : St) (Hb H : Hp) (Q : List V → Hp → Prop) (post : Env → Env → Prop) (xp : XP), EnvOk X.K W P I ρ σ Hb H → F ρ post xp → XOk X Wx W P σ xp →
    (∀ ds ρ' vs Hb' H', post ds ρ' → EnvOk X.K W P J ρ' σ Hb' H' → Sub Hb Hb' → Args X.K Hb' σ (List.replicate n none) vs ds → Q vs H') → t σ H Q
section
variable {X : Cx} {Wx : WX} {P I J J1 : List Nat} {e : Expr} {F : FE} {A : Env → (Env → Env → Prop) → XP → Prop} {pos p kpos : Pos} {k n : Nat} {f : Addr} {G : DFn} {x : Str} {tA : TA} {ta : TE} {kws : List Keyword} {ks : List Str} {nm : Option Str} {sp : Sp} {E : St → XK}
end
end DL

/-! DG32: dict(xs), xs a list of pairs whose keys are tuples of ints and texts. -/
namespace DL
open PySem L2
open PyProof.Rows hiding St
/-- the values are pairs with these keys -/
inductive PrsV (H : Hp) : List V → List (List Key × V) → Prop
  | nil : PrsV H [] []
  | cons {t b : Addr} {x : V} {k : List Key} {vs : List V} {ps : List (List Key × V)} (h : H t = some (.tup [.ref b, x])) (hb : H b = some (.tup (k.map kV))) (r : PrsV H vs ps) : PrsV H (.ref t :: vs) ((k, x) :: ps)
theorem PrsV.len {H : Hp} : ∀ {vs : List V} {ps : List (List Key × V)}, PrsV H vs ps → vs.length = ps.length
  | _, _, .nil => rfl
  | _, _, .cons _ _ r => congrArg (· + 1) r.len
def putAll (acc ps : List (List Key × V)) : List (List Key × V) := ps.foldl (fun a p => putK a p.1 p.2) acc
theorem putAll_len : ∀ (ps acc : List (List Key × V)), (putAll acc ps).length ≤ acc.length + ps.length
  | [], acc => by simp [putAll]
  | p :: ps, acc => by
    have a := putAll_len ps (putK acc p.1 p.2)
    have b := length_putK acc p.1 p.2
    have e : putAll acc (p :: ps) = putAll (putK acc p.1 p.2) ps := rfl
    rw [e, List.length_cons]
    omega
section
variable {X : Cx} {pins : List (Addr × Obj)} {σ : L2.St} {H : Hp} {s : Shared}
/-- the same in the heap -/
theorem prs_real (I : Inv X pins σ H s) : ∀ {vs : List V} {ps : List (List Key × V)} {its : List Value}, PrsV H vs ps → Vals vs its →
    ∃ (ts : List Addr) (qs : List (List Key × Addr × Value)), its = ts.map Value.ref ∧ ts.length = qs.length ∧ (∀ (j : Nat) (t : Addr) (q : List Key × Addr × Value), ts[j]? = some t → qs[j]? = some q → PairAt s.heap t (.ref q.2.1) q.2.2) ∧
      (∀ q ∈ qs, (tupleKind (mixKind X.prog X.w)).is s.heap q.1 q.2.1) ∧ ∀ acc xs, KT H acc xs → KT H (putAll acc ps) (storedAllH xs qs)
  | _, _, _, .nil, .nil => ⟨[], [], rfl, rfl, (fun j t q e => by simp at e), (fun q h => by cases h), fun acc xs k => k⟩
  | _, _, _, .cons (t := t) (b := b) (x := x) (k := k) h hb r, .cons rt rr => by
    cases rt
    obtain ⟨ts, qs, e, l, p, kk, ac⟩ := prs_real I r rr
    obtain ⟨two, rv, pt, _⟩ := I.tuple (.inl (.inl h))
    obtain ⟨u, rfl, ru⟩ : ∃ u, two = [.ref b, u] ∧ RelV x u := by
      cases rv with
      | cons r1 r2 =>
        cases r1
        cases r2 with
        | cons r3 r4 => cases r4; exact ⟨_, rfl, r3⟩
    refine ⟨t :: ts, (k, b, u) :: qs, by rw [e]; rfl, congrArg (· + 1) l, fun j t' q e1 e2 => ?_, fun q hq => ?_, fun acc xs kt => ac _ _ (kt.put k hb ru)⟩
    · cases j with
      | zero =>
        simp at e1 e2
        subst e1 e2
        exact .inl pt
      | succ j => exact p j t' q (by simpa using e1) (by simpa using e2)
    · rcases List.mem_cons.mp hq with rfl | hq
      · exact L2.key_of I.hok hb
      · exact kk q hq
end
/-- pairs as data -/
@[simp] def prsD : List D → Option (List (List Key × D))
  | [] => some []
  | .tup [kx, v] :: r => match keyTD kx, prsD r with
    | some k, some ps => some ((k, v) :: ps)
    | _, _ => none
  | _ => none
def putAllD (acc ps : List (List Key × D)) : List (List Key × D) := ps.foldl (fun a p => putD a p.1 p.2) acc
section
variable {K : PySem.W.Frag} {Hb H : Hp}
theorem prs_of (s : Sub Hb H) : ∀ {es : List D} {vs : List V} {pd : List (List Key × D)}, IsL K Hb vs es → prsD es = some pd → ∃ ps : List (List Key × V), PrsV H vs ps ∧ ps.map (·.1) = pd.map (·.1) ∧ IsL K Hb (ps.map (·.2)) (pd.map (·.2))
  | [], _, pd, .nil, e => by simp at e; subst e; exact ⟨[], .nil, rfl, .nil⟩
  | d :: es, _, pd, .cons i l, e => by
    unfold prsD at e
    split at e
    · rename_i e0; cases e0
    · rename_i kx v r e0
      cases e0
      split at e
      · rename_i k ps ek er
        cases e
        obtain ⟨pv, h1, h2, h3⟩ := prs_of s l er
        cases i with
        | tup ht lt =>
          cases lt with
          | cons ik lt =>
            cases lt with
            | cons iv lt =>
              cases lt
              cases kx <;> simp only [keyTD] at ek <;> first | cases ek | skip
              cases ik with
              | tup hb lb =>
                obtain rfl := is_keys lb ek
                exact ⟨(k, _) :: pv, .cons (s.at ht) (s.at hb) h1, by simp [h2], .cons iv h3⟩
      · cases e
    · cases e
theorem putAll_rel : ∀ {ps : List (List Key × V)} {pd : List (List Key × D)} {acc : List (List Key × V)} {ad : List (List Key × D)}, ps.map (·.1) = pd.map (·.1) → IsL K Hb (ps.map (·.2)) (pd.map (·.2)) → acc.map (·.1) = ad.map (·.1) → IsL K Hb (acc.map (·.2)) (ad.map (·.2)) →
    (putAll acc ps).map (·.1) = (putAllD ad pd).map (·.1) ∧ IsL K Hb ((putAll acc ps).map (·.2)) ((putAllD ad pd).map (·.2))
  | [], [], _, _, _, _, h1, h2 => ⟨h1, h2⟩
  | [], _ :: _, _, _, e, _, _, _ => by simp at e
  | _ :: _, [], _, _, e, _, _, _ => by simp at e
  | (k, x) :: ps, (k', d) :: pd, acc, ad, e, l, h1, h2 => by
    simp only [List.map_cons, List.cons.injEq] at e
    obtain ⟨rfl, e⟩ := e
    cases l with
    | cons i l =>
      obtain ⟨c1, c2⟩ := putD_rel k h1 h2 i
      exact putAll_rel (ps := ps) (pd := pd) e l c1 c2
end
end DL

/-! DG33: list(d.values()), the dict's keys tuples. -/
namespace DL
open PySem L2
open PyProof.Rows hiding St
section
variable {X : Cx} {o : Expr} {p pos apos mpos : Pos} {td : TE}
end
section
variable {X : Cx} {Wx : WX} {P I J : List Nat} {o : Expr} {p pos apos mpos : Pos} {td : TE} {F : FE}
end
end DL

/-! DG34: max of a list of ints, or of two ints. -/
namespace DL
open PySem L2
open PyProof.Rows hiding St
end DL

/-! DG35: a list times an int. -/
namespace DL
open PySem L2
open PyProof.Rows hiding St
end DL

/-! DG36: a, b, c = x, y, z. -/
namespace DL
open PySem L2
section
variable {X : Cx} {Wx : WX} {P L I J : List Nat} {pos : Pos} {tA : TA}
end
/-- the call itself, its rest kept closed -/
theorem callI {G : DFn} {vs : DL.Env} {post : Post} {xp : XP} {l : Lock post xp} (h : G vs post xp) : callD G vs post xp l := h
end DL

/-! DG37: walks over the values of a dict of tuple keys; pop of such a key. -/
namespace L2
open PySem PySem.Spec PyProof.Rows
/-! ### d.pop(k), k a tuple that is there -/
section
variable {K : Type} [DecidableEq K] {prog : Program} {w : World} {knd : HeapKind prog w K} {A : Around} {E : Value → Shared → Prop} {s : Shared}
end
end L2

/-! DG38: a slot gives up its cell; defs that return a new cell; a display with a new part. -/
namespace DL
open PySem L2
open PyProof.Rows hiding St

section
variable {K : PySem.W.Frag} {W : Wd} {P I J : List Nat} {ρ : Env} {σ : St} {Hb H : Hp}
end
structure DBN (X : Cx) (Wx : WX) (P I : List Nat) (body : List Stmt) (F : FE) : Prop where
  run : ∃ t, PSs X body t ∧ ∀ (W : Wd) (ρ : Env) (σ : St) (Hb H : Hp) (D : Ends) (post : Post) (xp : XP), EnvOk X.K W P I ρ σ Hb H → F ρ post xp →
    (∀ c ρ' cls dx σ' Hb' H', xp c ρ' → EnvOk X.K W P [] ρ' σ' Hb' H' → XIs X.K Hb' cls dx c → Wx cls dx σ' H') →
    (∀ d ρ' σ' p Hb' H', post d ρ' → EnvOk X.K W P [] ρ' σ' Hb' H' → NewAt X.K W P [] ρ' σ' Hb' H' p d → D.rt (.ref p) H') → t D σ H
def SPo.nn (B : FE) (post : Post) (xp : XP) : SPo := { nx := fun ρ1 => B ρ1 post xp, rt := fun _ _ => False, bk := fun _ => False, ct := fun _ => False, ex := xp }
@[simp ↓] theorem nn_nx (B : FE) (post : Post) (xp : XP) : (SPo.nn B post xp).nx = fun ρ1 => B ρ1 post xp := (rfl)
@[simp ↓] theorem nn_rt (B : FE) (post : Post) (xp : XP) : (SPo.nn B post xp).rt = fun _ _ => False := (rfl)
@[simp ↓] theorem nn_bk (B : FE) (post : Post) (xp : XP) : (SPo.nn B post xp).bk = fun _ => False := (rfl)
@[simp ↓] theorem nn_ct (B : FE) (post : Post) (xp : XP) : (SPo.nn B post xp).ct = fun _ => False := (rfl)
@[simp ↓] theorem nn_ex (B : FE) (post : Post) (xp : XP) : (SPo.nn B post xp).ex = xp := (rfl)
section
variable {X : Cx} {Wx : WX} {P I J J1 : List Nat} {e : Expr} {te : TE} {F : FE} {Fa : FS} {st : Stmt} {rest : List Stmt} {pos : Pos}
end
section
variable {P : Program} {w : World} {K : PySem.W.Frag} {mg : Str → Option Value} {base : Heap}
end

/-! ### {k: v, .., k': a new cell} -/
abbrev FKn := Env → (List (Key × D) → Key → D → Env → Prop) → XP → Prop
structure DPN (X : Cx) (Wx : WX) (P I : List Nat) (pos : Pos) (keys : List (Option Expr)) (vals : List Expr) (trs : List (TE × TE)) (R : FKn) : Prop where
  pe : PPs X pos keys vals trs
  ev : ∀ (W : Wd) (ρ : Env) (σ : St) (Hb H : Hp) (Q : List (V × V) → Hp → Prop) (post : List (Key × D) → Key → D → Env → Prop) (xp : XP), EnvOk X.K W P I ρ σ Hb H → R ρ post xp → XOk X Wx W P σ xp →
    (∀ ds k d ρ' (vs : List (Key × V)) q Hb' H', post ds k d ρ' → EnvOk X.K W P I ρ' σ Hb' H' → Sub Hb Hb' → ds.length + 1 = keys.length → vs.map (·.1) = ds.map (·.1) → IsL X.K Hb' (vs.map (·.2)) (ds.map (·.2)) → NewAt X.K W P I ρ' σ Hb' H' q d →
      Q ((vs ++ [(k, V.ref q)]).map fun kv => (kV kv.1, kv.2)) H') → tPairs trs σ H Q
section
variable {X : Cx} {Wx : WX} {P I : List Nat} {k v : Expr} {ta tb : TE} {F G : FE} {R : FKn} {pos : Pos} {ks : List (Option Expr)} {vs : List Expr} {trs : List (TE × TE)}
end
end DL

/-! DG39: a part of a slot's cell: looked up, written, walked. -/
namespace DL
open PySem L2
open PyProof.Rows hiding St

section
variable {K : PySem.W.Frag} {W : Wd} {P I J : List Nat} {ρ : Env} {σ : St} {Hb H : Hp}
theorem mem_valD {κ : Type} [DecidableEq κ] {k : κ} {d : D} : ∀ {kvs : List (κ × D)}, valD kvs k = some d → (k, d) ∈ kvs
  | [], h => by simp [valD] at h
  | v :: kvs, h => by
    by_cases z : v.1 = k
    · have : valD (v :: kvs) k = some v.2 := by simp [valD, List.find?_cons, z]
      rw [this] at h; cases h
      rw [← z]; exact List.mem_cons_self
    · have : valD (v :: kvs) k = valD kvs k := by simp [valD, List.find?_cons, z]
      rw [this] at h
      exact List.mem_cons_of_mem _ (mem_valD h)
theorem valV_part {k : Key} {q : Addr} : ∀ {vs : List (Key × V)}, partAt k vs = some q → valV vs k = some (.ref q)
  | [], h => by cases h
  | v :: vs, h => by
    unfold partAt at h
    by_cases z : v.1 = k
    · rw [if_pos z] at h
      rw [valV_pos z]
      split at h
      · rename_i r e
        cases h; rw [e]
      · cases h
    · rw [if_neg z] at h
      rw [valV_neg z]
      exact valV_part h
theorem EnvOk.part {i : Nat} {q : Addr} {k : Key} {kvs : List (Key × D)} {d : D} (E : EnvOk K W P I ρ σ Hb H) (hi : i ∈ P ∨ i ∈ I) (g : get ρ i = some (.nest q k kvs)) (h : valD kvs k = some d) :
    ∃ p vs, σ[i]? = some (some (.ref p)) ∧ H p = some (.dK vs) ∧ valV vs k = some (.ref q) ∧ Cell0 K Hb H q d ∧ q ≠ p := by
  obtain ⟨p, e, _, ⟨vs, hp, w, r⟩, _⟩ := E.cel i _ hi g
  obtain ⟨q', w', ne, c⟩ := r.at (mem_valD h)
  rw [w] at w'; cases w'
  exact ⟨p, vs, e, hp, valV_part w, c, ne⟩
end
section
variable {X : Cx} {Wx : WX} {P L I J J1 J2 : List Nat} {o e f value tg : Expr} {x : Str} {p2 pc pos sp spos apos cpos p : Pos} {j} {kk : Str} {te tk tz tv : TE} {F Fk Fz : FE} {B : FS} {g : FG} {tg1 : TG} {body : List Stmt}
end
end DL

/-! DG40: get, store, pop at a part; a loop over a part's values. -/
namespace DL
open PySem L2
open PyProof.Rows hiding St
section
variable {X : Cx} {Wx : WX} {P L I J J1 J2 : List Nat} {o e f value tg : Expr} {x : Str} {p2 pc pos sp spos apos cpos p : Pos} {j} {kk : Str} {te tk tz tv : TE} {F Fk Fz Fv : FE} {B : FS} {g : FG} {tg1 : TG} {body : List Stmt}
end
end DL

/-! DG41: bool - bool -/
namespace DL
open PySem L2
open PyProof.Rows (b2i sub_bool)
section
variable {X : Cx} {K : PySem.W.Frag}
end
end DL

/-! DG42: zip of a list and a tuple, of a tuple and a list. -/
namespace DL
open PySem PySem.Spec L2 RZ
open PyProof.Rows hiding St
/-- a list (true) or a tuple (false) -/
def SqX (K : PySem.W.Frag) : Bool → Hp → Addr → List V → Prop
  | true => SqL K
  | false => SqT K
section
variable {X : Cx} {pins : List (Addr × Obj)} {σ : L2.St} {H : Hp} {s : Shared}
end
theorem SqX.sub {K : PySem.W.Frag} {H H' : Hp} {a : Addr} {xs : List V} (s : Sub H H') : ∀ {p : Bool}, SqX K p H a xs → SqX K p H' a xs
  | true, h => s.sqL h
  | false, h => s.sqT h
section
variable {X : Cx} {Wx : WX} {P L I J J1 J2 : List Nat} {e e2 tg : Expr} {es elts : List Expr} {F : FE} {A : FA} {pos p tpos : Pos} {kk : Nat} {te : TE} {tA : TA} {x : Str}
end
end DL

/-! DG43: x += e on ints; f(a, .., b) of a def that takes *rest. -/
namespace DL
open PySem L2
open PyProof.Rows hiding St
section
variable {X : Cx} {Wx : WX} {P L I J J1 : List Nat} {e : Expr} {es : List Expr} {F : FE} {A : FA} {pos p pos' : Pos} {k : Nat} {f : Addr} {G : DFn} {tA : TA} {te : TE}
end
end DL

/-! DG44: yield from range(a, b) -/
namespace DL
open PySem PySem.Spec L2
open PyProof.Rows hiding St
section
variable {X : Cx}
end
end DL

/-! DG45: generator methods: def m(self): yield from ..; list(o.m()). -/
namespace DL
open PySem PySem.Spec L2
open PyProof.Rows hiding St
/-- a generator's data: what it hands out -/
abbrev DGen := Env → (List D → Prop) → Prop
structure DY (X : Cx) (Wx : WX) (P I : List Nat) (e : Expr) (t : TYf) (F : FA) (J : List Nat) : Prop where
  pe : YfE X e t
  ev : ∀ (W : Wd) (ρ : Env) (σ : L2.St) (Hb H : Hp) (Q : List V → Hp → Prop) (post : List D → Env → Prop) (xp : XP), EnvOk X.K W P I ρ σ Hb H → F ρ post xp → XOk X Wx W P σ xp →
    (∀ ds ρ' vs Hb' H', post ds ρ' → EnvOk X.K W P J ρ' σ Hb' H' → Sub Hb Hb' → IsL X.K Hb' vs ds → Q vs H') → t σ H Q
section
variable {X : Cx} {Wx : WX} {P I J : List Nat} {a b : Expr} {p pos : Pos} {tA : TA} {A : FA}
end
section
variable {P : Program} {w : World} {K : PySem.W.Frag} {mg : Str → Option Value} {base : Heap}
end
section
variable {X : Cx} {Wx : WX} {P I J : List Nat} {o : Expr} {ta : TE} {Fo : FE} {k : Nat} {f C : Addr} {fd : FuncData} {ps : List Str} {n m : Str} {G : DGen} {p pos pos' apos : Pos}
end
end DL

/-! DG46: a module's whole number by its name -/
namespace DL
open PySem L2
open PyProof.Rows hiding St
section
variable {X : Cx} {Wx : WX} {P I : List Nat} {x : Str} {v : Int} {pos : Pos}
end
end DL

/-! DG47: parts of an object: looked at, written. -/
namespace DL
open PySem L2
open PyProof.Rows hiding St
section
variable {K : PySem.W.Frag} {Hb Hb' H H' : Hp} {C C' : Addr → D → Prop} {p q : Addr} {qs : List (Str × Addr)} {f : Str} {d : D}
theorem EQ.look (l : qs.lookup f = some q) : ∀ {vs : List (Str × V)} {fs : List (Str × D)}, EQ K Hb C p qs vs fs → fs.lookup f = some d → vs.lookup f = some (.ref q) ∧ q ≠ p ∧ C q d
  | [], [], _, e => by cases e
  | v :: vs, x :: fs, h, e => by
    obtain ⟨h1, h2, h3⟩ := h
    rw [List.lookup_cons] at e ⊢
    by_cases z : f = x.1
    · subst z
      rw [show (x.1 == x.1) = true by simp] at e
      cases e
      rw [l] at h2
      rw [show (x.1 == v.1) = true by simp [h1], h2.1]
      exact ⟨rfl, h2.2⟩
    · rw [show (f == x.1) = false by simpa using z] at e
      rw [show (f == v.1) = false by rw [h1]; simpa using z]
      exact EQ.look l h3 e
end
section
variable {K : PySem.W.Frag} {W : Wd} {P I J : List Nat} {ρ : Env} {σ : St} {Hb H : Hp} {i : Nat} {q : Addr} {qs : List (Str × Addr)} {n f : Str} {fs : List (Str × D)} {d : D} {o : HO}
end
end DL

/-! DG48: x.f.append(e), x.f[k]: f an owned part of x's object. -/
namespace DL
open PySem L2
open PyProof.Rows hiding St
section
variable {X : Cx} {Wx : WX} {P L I J : List Nat} {e k : Expr} {x n f : Str} {C : Addr} {F Fk : FE} {te tk : TE} {p2 fpos apos cpos pos : Pos}
end
end DL

/-! DG49: x.f = a new cell: a part more. -/
namespace DL
open PySem L2
open PyProof.Rows hiding St
section
variable {K : PySem.W.Frag} {W : Wd} {P I J : List Nat} {ρ : Env} {σ : St} {Hb H : Hp} {p : Addr} {d : D} {o : HO}
end
section
variable {X : Cx} {Wx : WX} {P L I J : List Nat} {value : Expr} {n m : Str} {C : Addr} {F : FE} {tv : TE} {p pos pos' : Pos}
end
end DL

/-! DG50: C(..) where __init__ gives the object parts of its own; its value is plain. -/
namespace DL
open PySem L2
open PyProof.Rows hiding St
theorem Is.plain {K : PySem.W.Frag} {H : Hp} {v : V} {qs : List (Str × Addr)} {n : Str} {fs : List (Str × D)} (h : Is K H v (.nobj qs n fs)) : Is K H v (.obj n fs) := by
  cases h with
  | nobj c h e l => exact .obj c h e l
section
variable {X : Cx} {Wx : WX} {P I J : List Nat} {e : Expr} {es : List Expr} {A : FA} {pos p : Pos} {k : Nat} {f : Addr} {G : DFn} {y : Str} {tA : TA} {C : Addr} {n : Str} {m : Nat}
end
end DL

/-! DG51: divmod by a positive whole number. -/
namespace DL
open PySem L2
open PyProof.Rows hiding St
section
variable {K : PySem.W.Frag}
end
end DL

/-! DG52: x + y of two objects of one class by its own __add__. -/
namespace DL
open PySem L2
open PyProof.Rows hiding St
section
variable {X : Cx} {Wx : WX} {P I J J1 : List Nat} {a b e : Expr} {ta tb : TE} {Fa Fb : FE} {pos : Pos} {n : Str} {C f : Addr} {k : Nat} {sp : Sp} {G : DFn}
end
end DL

/-! DG53: dict(d.items()), the keys tuples of ints and texts: a new dict with the same entries. -/
namespace DL
open PySem L2
open PyProof.Rows hiding St
section
variable {X : Cx} {Wx : WX} {P I J : List Nat} {e : Expr} {te : TE} {F : FE} {apos cpos pos p : Pos}
end
end DL

/-! DG54: f(.., a new cell, ..): the callee is lent what the call alone holds. -/
namespace DL
open PySem L2
open PyProof.Rows hiding St

section
variable {K : PySem.W.Frag} {W : Wd} {P I J : List Nat} {ρ ρ' : Env} {σ : St} {Hb H Hb' H' : Hp} {p : Addr} {d : D}
/-! ### one slot more -/
theorem get_lo : ∀ {ρ : Env} {x : Option D} {i : Nat}, i < ρ.length → get (ρ ++ [x]) i = get ρ i
  | [], _, _, h => by simp at h
  | _ :: _, _, 0, _ => rfl
  | _ :: r, x, i + 1, h => get_lo (ρ := r) (i := i) (by simpa using h)
theorem get_at : ∀ {ρ : Env} {x : Option D}, get (ρ ++ [x]) ρ.length = x
  | [], _ => rfl
  | _ :: r, x => get_at (ρ := r)
end
/-! ### arguments, the m-th one a new cell -/
def ArgsN (K : PySem.W.Frag) (Hb : Hp) (σ : St) (p : Addr) (d : D) : Nat → List (Option Nat) → List V → Env → Prop
  | 0, none :: sl, v :: vs, x :: ds => (v = .ref p ∧ x = some d) ∧ Args K Hb σ sl vs ds
  | m + 1, none :: sl, v :: vs, x :: ds => (∃ y, x = some y ∧ Is K Hb v y) ∧ ArgsN K Hb σ p d m sl vs ds
  | m + 1, some j :: sl, v :: vs, _ :: ds => σ[j]? = some (some v) ∧ ArgsN K Hb σ p d m sl vs ds
  | _, _, _, _ => False
section
variable {K : PySem.W.Frag} {Hb Hb' : Hp} {σ : St} {p : Addr} {d : D}
theorem Args.ext {x : St} : ∀ {sl : List (Option Nat)} {vs : List V} {ds : Env}, Args K Hb σ sl vs ds → Args K Hb (σ ++ x) sl vs ds
  | [], [], [], h => h
  | none :: sl, v :: vs, d :: ds, ⟨h1, h⟩ => ⟨h1, Args.ext h⟩
  | some j :: sl, v :: vs, _ :: ds, ⟨e, h⟩ => ⟨by
      have hl : j < σ.length := by
        rcases Nat.lt_or_ge j σ.length with h | h
        · exact h
        · rw [List.getElem?_eq_none h] at e; cases e
      rw [List.getElem?_append_left hl]; exact e, Args.ext h⟩
theorem ArgsN.at_ : ∀ {m : Nat} {sl : List (Option Nat)} {vs : List V} {ds : Env}, ArgsN K Hb σ p d m sl vs ds → sl[m]? = some none
  | 0, none :: sl, v :: vs, x :: ds, _ => rfl
  | m + 1, none :: sl, v :: vs, x :: ds, ⟨_, h⟩ => by simpa using ArgsN.at_ h
  | m + 1, some j :: sl, v :: vs, _ :: ds, ⟨_, h⟩ => by simpa using ArgsN.at_ h
theorem ArgsN.slLen : ∀ {m : Nat} {sl : List (Option Nat)} {vs : List V} {ds : Env}, ArgsN K Hb σ p d m sl vs ds → sl.length = vs.length
  | 0, none :: sl, v :: vs, x :: ds, ⟨_, h⟩ => congrArg (· + 1) (Args.slLen h)
  | m + 1, none :: sl, v :: vs, x :: ds, ⟨_, h⟩ => congrArg (· + 1) (ArgsN.slLen h)
  | m + 1, some j :: sl, v :: vs, _ :: ds, ⟨_, h⟩ => congrArg (· + 1) (ArgsN.slLen h)
theorem ArgsN.mono (s : Sub Hb Hb') : ∀ {m : Nat} {sl : List (Option Nat)} {vs : List V} {ds : Env}, ArgsN K Hb σ p d m sl vs ds → ArgsN K Hb' σ p d m sl vs ds
  | 0, none :: sl, v :: vs, x :: ds, ⟨e, h⟩ => ⟨e, h.mono s⟩
  | m + 1, none :: sl, v :: vs, x :: ds, ⟨⟨y, e, i⟩, h⟩ => ⟨⟨y, e, i.mono s⟩, ArgsN.mono s h⟩
  | m + 1, some j :: sl, v :: vs, _ :: ds, ⟨e, h⟩ => ⟨e, ArgsN.mono s h⟩
theorem fill_ghost : ∀ {sl : List (Option Nat)} {ds ρ : Env} {x : Option D}, (∀ j ∈ slots sl, j < ρ.length) → fill sl ds (ρ ++ [x]) = fill sl ds ρ
  | [], _, _, _, _ => by simp [fill]
  | none :: sl, [], _, _, _ => by simp [fill]
  | some j :: sl, [], _, _, _ => by simp [fill]
  | none :: sl, y :: ds, ρ, x, h => congrArg (y :: ·) (fill_ghost (sl := sl) h)
  | some j :: sl, y :: ds, ρ, x, h => by
    show get (ρ ++ [x]) j :: fill sl ds (ρ ++ [x]) = get ρ j :: fill sl ds ρ
    rw [get_lo (h j List.mem_cons_self), fill_ghost fun k hk => h k (List.mem_cons_of_mem _ hk)]
theorem ArgsN.fill : ∀ {m : Nat} {sl : List (Option Nat)} {vs : List V} {ds ρ : Env}, ArgsN K Hb σ p d m sl vs ds → (∀ j ∈ slots sl, j < ρ.length) → fill (sl.set m (some ρ.length)) ds (ρ ++ [some d]) = fill sl ds ρ
  | 0, none :: sl, v :: vs, x :: ds, ρ, ⟨⟨_, e⟩, _⟩, h => by
    show get (ρ ++ [some d]) ρ.length :: DL.fill sl ds (ρ ++ [some d]) = x :: DL.fill sl ds ρ
    rw [get_at, e, fill_ghost (sl := sl) h]
  | m + 1, none :: sl, v :: vs, x :: ds, ρ, ⟨_, h⟩, hs => congrArg (x :: ·) (ArgsN.fill (sl := sl) h hs)
  | m + 1, some j :: sl, v :: vs, y :: ds, ρ, ⟨_, h⟩, hs => by
    show get (ρ ++ [some d]) j :: DL.fill (sl.set m (some ρ.length)) ds (ρ ++ [some d]) = get ρ j :: DL.fill sl ds ρ
    rw [get_lo (hs j List.mem_cons_self), ArgsN.fill h fun k hk => hs k (List.mem_cons_of_mem _ hk)]
end
structure DOn (X : Cx) (Wx : WX) (P I : List Nat) (es : List Expr) (t : TA) (F : Env → (Env → Env → Prop) → XP → Prop) (sl : List (Option Nat)) (m : Nat) (J : List Nat) : Prop where
  pe : PA X es t
  ev : ∀ (W : Wd) (ρ : Env) (σ : St) (Hb H : Hp) (Q : List V → Hp → Prop) (post : Env → Env → Prop) (xp : XP), EnvOk X.K W P I ρ σ Hb H → F ρ post xp → XOk X Wx W P σ xp →
    (∀ ds ρ' vs Hb' H' p d, post ds ρ' → EnvOk X.K W P J ρ' σ Hb' H' → Sub Hb Hb' → ArgsN X.K Hb' σ p d m sl vs ds → NewAt X.K W P J ρ' σ Hb' H' p d → Q vs H') → t σ H Q
section
variable {X : Cx} {Wx : WX} {P I J J1 : List Nat} {e a b c : Expr} {es : List Expr} {F : FE} {A : Env → (Env → Env → Prop) → XP → Prop} {sl : List (Option Nat)} {pos p : Pos} {k n m n0 : Nat} {f : Addr} {fd : FuncData} {ps : List Str} {G : DFn} {x : Str} {io : List Nat} {ta : TE} {tA : TA}
end
end DL

/-! DG55: a def that returns a tuple of a new cell and a value; x, y = f(..), x owns its cell from here on. -/
namespace DL
open PySem L2
open PyProof.Rows hiding St

structure DPr (X : Cx) (Wx : WX) (P I : List Nat) (e : Expr) (t : TE) (F : FE) (J : List Nat) : Prop where
  pe : PE X e t
  ev : ∀ (W : Wd) (ρ : Env) (σ : St) (Hb H : Hp) (Q : VK) (post : Post) (xp : XP), EnvOk X.K W P I ρ σ Hb H → F ρ post xp → XOk X Wx W P σ xp →
    (∀ d1 d2 ρ' a p v Hb' H', post (.tup [d1, d2]) ρ' → EnvOk X.K W P J ρ' σ Hb' H' → Sub Hb Hb' → Hb' a = some (.tup [.ref p, v]) → Is X.K Hb' v d2 → NewAt X.K W P J ρ' σ Hb' H' p d1 → Q (.ref a) H') → t σ H Q
structure DBT (X : Cx) (Wx : WX) (P I : List Nat) (body : List Stmt) (F : FE) : Prop where
  run : ∃ t, PSs X body t ∧ ∀ (W : Wd) (ρ : Env) (σ : St) (Hb H : Hp) (D : Ends) (post : Post) (xp : XP), EnvOk X.K W P I ρ σ Hb H → F ρ post xp →
    (∀ c ρ' cls dx σ' Hb' H', xp c ρ' → EnvOk X.K W P [] ρ' σ' Hb' H' → XIs X.K Hb' cls dx c → Wx cls dx σ' H') →
    (∀ d1 d2 ρ' σ' a p v Hb' H', post (.tup [d1, d2]) ρ' → EnvOk X.K W P [] ρ' σ' Hb' H' → Hb' a = some (.tup [.ref p, v]) → Is X.K Hb' v d2 → NewAt X.K W P [] ρ' σ' Hb' H' p d1 → D.rt (.ref a) H') → t D σ H
section
variable {X : Cx} {Wx : WX} {P L I J J1 : List Nat} {e c : Expr} {es : List Expr} {te : TE} {F : FE} {Fa : FS} {Ga Gb : FE} {st : Stmt} {rest A : List Stmt} {pos p : Pos} {tt : TT} {T : FT} {AA : Env → (Env → Env → Prop) → XP → Prop} {sl : List (Option Nat)} {k n : Nat} {f : Addr} {G : DFn} {x : Str} {io : List Nat} {tA : TA}
end
section
variable {P : Program} {w : World} {K : PySem.W.Frag} {mg : Str → Option Value} {base : Heap}
end
end DL

/-! DG56: [..] * n as a new cell; xs[i] += e; sorted(set(xs)) of whole numbers. -/
namespace DL
open PySem L2
open PyProof.Rows hiding St
section
variable {X : Cx} {Wx : WX} {P L I J J1 : List Nat} {a b e k : Expr} {F G : FE} {ta tb te tk : TE} {pos pos' spos : Pos}
end
end DL

/-! DG57: sorted(set(xs)), xs a list of whole numbers. -/
namespace L2
open PySem PySem.Spec PyProof.Rows
section
variable {P : Program} {w : World} {A : Around} {E : Value → Shared → Prop} {s : Shared}
end
end L2
namespace DL
open PySem L2
open PyProof.Rows hiding St
section
variable {X : Cx} {Wx : WX} {P I J : List Nat} {e : Expr} {te : TE} {F : FE} {pos pos2 p p2 : Pos}
end
end DL

/-! DG58: divmod by a whole number of any sign; sorted(w['laid']). -/
namespace DL
open PySem L2
open PyProof.Rows hiding St
section
variable {K : PySem.W.Frag}
end
end DL

/-! DG59: sorted(d), the keys of d pairs of ints. -/
namespace DT
open PySem PySem.W PySem.Calls PyProof.Rows PyProof.V PySem.Spec
section
variable {prog : Program} {w : World} {A : Around} {E : Value → Shared → Prop} {s : Shared} {d : Addr} {o : Obj} {es : Array DictEntry} {ep : Nat}
end
end DT
namespace SrtI
open PySem PyProof.Rows
end SrtI
namespace L2
open PySem PySem.Spec PyProof.Rows
end L2
namespace DL
open PySem L2
open PyProof.Rows hiding St
section
variable {X : Cx} {Wx : WX} {P L I J : List Nat} {e : Expr} {F : FE} {te : TE} {pos p : Pos}
end
end DL

/-! DG60: range(a, b, -1). -/
namespace DL
open PySem L2
open PyProof.Rows hiding St
section
variable {X : Cx} {Wx : WX} {P I J : List Nat} {e e2 e3 tg : Expr} {A : FA} {pos p : Pos} {tA : TA}
end
end DL

/-! DG61: sorted(a list of whole numbers). -/
namespace DL
open PySem L2
open PyProof.Rows hiding St
end DL

/-! DG62: x.extend(e), x owns its list. -/
namespace DL
open PySem L2
open PyProof.Rows hiding St
section
variable {X : Cx} {Wx : WX} {P I J : List Nat} {L : List Nat} {e : Expr} {te : TE} {F : FE} {pos pos' apos cpos : Pos}
end
end DL

/-! DG63: calls by keywords alone, in any order. -/
namespace DL
open PySem L2
open PyProof.Rows hiding St
/-- what stands at the places pi -/
def perm {α : Type} (pi : List Nat) (xs : List α) : List α := pi.filterMap (xs[·]?)
/-- a def's promise where m values stand ahead and the keywords ks name the others, pi tells where each parameter's value stands -/
def FnKp (P : Program) (w : World) (K : PySem.W.Frag) (mg : Str → Option Value) (base : Heap) (k : Nat) (f : Addr) (m : Nat) (ks : List Str) (pi : List Nat) (sp : Sp) : Prop :=
  ∀ (A : Around) (frs_ : List PySem.Env) (s : Shared) (H : Hp) (us0 us : List Value) (vs0 vs : List V) (Q : VK) (E : XK), Room k A → A.guards = some [] → Env0 P w K mg base A frs_ s H → Vals vs0 us0 → Vals vs us → us0.length = m → us.length = ks.length → sp (vs0 ++ perm pi vs) H Q E →
    codeAny (model P w) A (.call (.ref f) ⟨us0, ks.zip us⟩) (CR (L2.CX P w) frs_ P w H s Q E) s
section
variable {P : Program} {w : World} {K : PySem.W.Frag} {mg : Str → Option Value} {base : Heap} {j k : Nat} {f : Addr} {sp sp' : Sp} {m : Nat} {ks : List Str} {pi : List Nat}
theorem FnKp.mono (F : FnKp P w K mg base j f m ks pi sp) (h : j ≤ k) : FnKp P w K mg base k f m ks pi sp := fun A o s H us0 us vs0 vs Q E r => F A o s H us0 us vs0 vs Q E (r.mono h)
end
@[simp ↓] theorem perm_nil {α : Type} (xs : List α) : perm [] xs = [] := (rfl)
@[simp ↓] theorem perm_0 {α : Type} (pi : List Nat) (x : α) (xs : List α) : perm (0 :: pi) (x :: xs) = x :: perm pi (x :: xs) := (rfl)
@[simp ↓] theorem perm_1 {α : Type} (pi : List Nat) (x y : α) (xs : List α) : perm (1 :: pi) (x :: y :: xs) = y :: perm pi (x :: y :: xs) := (rfl)
@[simp ↓] theorem perm_2 {α : Type} (pi : List Nat) (x y z : α) (xs : List α) : perm (2 :: pi) (x :: y :: z :: xs) = z :: perm pi (x :: y :: z :: xs) := (rfl)
@[simp ↓] theorem perm_3 {α : Type} (pi : List Nat) (x y z u : α) (xs : List α) : perm (3 :: pi) (x :: y :: z :: u :: xs) = u :: perm pi (x :: y :: z :: u :: xs) := (rfl)
section
variable {X : Cx} {Wx : WX} {P I J J1 : List Nat} {e : Expr} {F : FE} {A : Env → (Env → Env → Prop) → XP → Prop} {pos p kpos : Pos} {k n : Nat} {f : Addr} {G : DFn} {x : Str} {tA : TA} {ta : TE} {kws : List Keyword} {ks : List Str} {pi : List Nat} {nm : Option Str} {sp : Sp} {E : St → XK}
end
end DL

/-! DG64: max(a list of whole numbers, default = e). -/
namespace DL
open PySem L2
open PyProof.Rows hiding St
section
variable {X : Cx} {Wx : WX} {P I J J1 : List Nat} {e e2 : Expr} {te te2 : TE} {F G : FE} {pos p kpos : Pos}
end
end DL

/-! DG65: x or y, x and y by truth. -/
namespace DL
open PySem L2
open PyProof.Rows hiding St
section
variable {X : Cx} {Wx : WX} {P I J : List Nat} {a b : Expr} {rest : List Expr} {ta tb : TE} {F G : FE} {pos : Pos}
end
end DL

/-! DG66: a, *b = a tuple. -/
namespace DL
open PySem L2
open PyProof.Rows hiding St
section
variable {X : Cx} {Wx : WX} {P I J L : List Nat} {e e1 e2 : Expr} {te : TE} {F : FE} {k : Nat} {tgs : TGs} {g : FGs} {ts : List Nat} {pos pos' p : Pos}
end
section
variable {X : Cx} {Wx : WX} {P I J : List Nat} {e : Expr} {es : List Expr} {k : Nat} {f : Addr} {sp : Sp} {E : St → XK} {x : Str} {t tA : TA} {A : FA} {G : DFn} {pos p : Pos}
end
end DL

/-! DG67: sorted of a list of different pairs of ints. -/
namespace SrtI
open PySem PyProof.Rows Srt PySem.SeqAt SrtO
section
variable {prog : Program} {w : World} {A : Around} {E : Value → Shared → Prop} {s : Shared}
end
end SrtI
namespace L2
open PySem PySem.Spec PyProof.Rows
section
variable {X : Cx}
end
end L2
namespace DL
open PySem L2
end DL

/-! DG68: zip(x, y, strict=True) of lists and tuples of one length. -/
namespace ZS
open PySem PySem.Spec PyProof.Rows
/-- a strict zip -/
abbrev IsZ (h : Heap) (z I O : Addr) (f0 : Value) : Prop := h.get? z = some { cls := .type "zip", dict := none, data := .fields #[f0, .bool false, .bool true, .ref I, .ref O], slots := #[] }
section
variable {prog : Program} {w : World} {A : Around} {E : Value → Shared → Prop} {s : Shared} {it z I O i1 i2 : Addr} {fp f1 f2 : List Addr} {n n1 n2 i : Nat} {P P1 P2 : Nat → Value → Prop} {St St1 St2 : Nat → Heap → Prop} {a1 a2 : Value}
theorem more {Q : Option Value → Shared → Prop} (D : Draws prog w A it fp n P St) (hlt : i < n) (st : St i s.heap) (h : ∀ x h' tk, P i x → St (i + 1) h' → Heap.SameBut it s.heap h' → Q (some x) { s with heap := h', toks := tk }) :
    wpAny (model prog w) A (Builtin.SmallTypes.nextOrEnd (.ref it)) Q E s := by
  unfold Builtin.SmallTypes.nextOrEnd
  exact wpAny_bind (wpAny_attempt (D.item i s _ _ hlt st fun x h' tk a b c => wpAny_pure (h x h' tk a b c)))
theorem item {Q : Value → Shared → Prop} (S : ZipSep2 z I O i1 i2 f1 f2) (D1 : Draws prog w A i1 f1 n1 P1 St1) (D2 : Draws prog w A i2 f2 n2 P2 St2)
    (hz : IsZ s.heap z I O .none) (hI : IsTupOf2 s.heap I (.ref i1) (.ref i2)) (hO : IsTupOf2 s.heap O a1 a2) (q1 : St1 i s.heap) (q2 : St2 i s.heap) (l1 : i < n1) (l2 : i < n2)
    (hQ : ∀ x1 x2 h' tk, P1 i x1 → P2 i x2 → IsZ h' z I O (rawInt s.heap.objs.size) → IsTupOf2 h' O x1 x2 → St1 (i + 1) h' → St2 (i + 1) h' → IsTupOf2 h' s.heap.objs.size x1 x2 → h'.objs.size = s.heap.objs.size + 1 →
      (∀ c o, c ≠ z → c ≠ O → c ≠ i1 → c ≠ i2 → s.heap.get? c = some o → h'.get? c = some o) → Q (.ref s.heap.objs.size) { s with heap := h', toks := tk }) :
    wpAny (model prog w) A (Builtin.«zip.__next__» ⟨[.ref z], []⟩) (fun fin s' => ∃ v, fin = .done (.ret v) ∧ Q v s') E s := by
  obtain ⟨hp, g, d, t0, os⟩ := s
  show wpAny _ _ (field (.ref z) 2 >>= _) _ _ _
  refine wpAny_bind (wpAny_field hz rfl (x := .bool true) rfl ?_)
  show wpAny _ _ (field (.ref z) 3 >>= _) _ _ _
  refine wpAny_bind (wpAny_field hz rfl (x := .ref I) rfl (wpAny_bind (wpAny_seqItems hI rfl ?_)))
  show wpAny _ _ (Builtin.SmallTypes.ownedTupleIsFree (.ref z) >>= _) _ _ _
  refine wpAny_bind ?_
  unfold Builtin.SmallTypes.ownedTupleIsFree
  refine wpAny_bind (wpAny_field hz rfl (x := .none) rfl (wpAny_pure ?_))
  simp only [if_true]
  refine wpAny_bind (wpAny_rule (wpAny_bind (wpAny_field hz rfl (x := .ref O) rfl (wpAny_bind (wpAny_setField_rec hz (by simp) fun b0 z0 k0 => ?_)))))
  replace z0 : IsZ b0 z I O .ellipsis := z0
  replace k0 : Heap.SameBut z hp b0 := k0
  refine wpAny_bind ?_
  simp only [List.zipIdx_cons, List.zipIdx_nil, List.forIn_cons, List.forIn_nil]
  refine wpAny_bind (wpAny_bind (wpAny_onRaise ?_))
  show wpAny _ _ (Builtin.SmallTypes.nextOrEnd (.ref i1)) _ _ ⟨b0, g, d, t0, os⟩
  refine more D1 l1 (D1.over q1 k0 S.zf1) fun x1 c1 t1 hx1 r1 k1 => ?_
  replace k1 : Heap.SameBut i1 b0 c1 := k1
  have o1 : IsTupOf2 c1 O a1 a2 := k1.extBut _ _ S.Ti1 (k0.extBut _ _ S.TOz hO)
  refine wpAny_bind (wpAny_seqItems (s := ⟨c1, g, d, t1, os⟩) o1 rfl (wpAny_bind (updateSeq_IsTupOf2 (s := ⟨c1, g, d, t1, os⟩) o1 fun b1 o2 k2 => ?_)))
  replace o2 : IsTupOf2 b1 O x1 a2 := o2
  replace k2 : Heap.SameBut O c1 b1 := k2
  refine wpAny_bind (wpAny_letGo (wpAny_pure (wpAny_bind (wpAny_bind (wpAny_onRaise ?_)))))
  show wpAny _ _ (Builtin.SmallTypes.nextOrEnd (.ref i2)) _ _ ⟨b1, g, d, t1, os⟩
  refine more D2 l2 (D2.over (D2.over (D2.over q2 k0 S.zf2) k1 S.sep1_2) k2 S.Tf2) fun x2 c2 t2 hx2 r2 k3 => ?_
  replace k3 : Heap.SameBut i2 b1 c2 := k3
  have o3 : IsTupOf2 c2 O x1 a2 := k3.extBut _ _ S.Ti2 o2
  refine wpAny_bind (wpAny_seqItems (s := ⟨c2, g, d, t2, os⟩) o3 rfl (wpAny_bind (updateSeq_IsTupOf2 (s := ⟨c2, g, d, t2, os⟩) o3 fun b2 o4 k4 => ?_)))
  replace o4 : IsTupOf2 b2 O x1 x2 := o4
  replace k4 : Heap.SameBut O c2 b2 := k4
  refine wpAny_bind (wpAny_letGo (wpAny_pure (wpAny_pure ?_)))
  refine wpAny_bind (wpAny_seqItems (s := ⟨b2, g, d, t2, os⟩) o4 rfl (wpAny_bind (wpAny_newTuple ?_)))
  have hsz : b2.objs.size = hp.objs.size := by rw [k4.1, k3.1, k2.1, k1.1, k0.1]
  have zz : IsZ b2 z I O .ellipsis := k4.extBut _ _ S.TOz.symm (k3.extBut _ _ S.zi2 (k2.extBut _ _ S.TOz.symm (k1.extBut _ _ S.zi1 z0)))
  have kk : ∀ c o, c ≠ z → c ≠ O → c ≠ i1 → c ≠ i2 → hp.get? c = some o → b2.get? c = some o := fun c o cz cO d1 d2 e => k4.extBut _ _ cO (k3.extBut _ _ d2 (k2.extBut _ _ cO (k1.extBut _ _ d1 (k0.extBut _ _ cz e))))
  have j1 : St1 (i + 1) b2 := D1.over (D1.over (D1.over r1 k2 S.Tf1) k3 S.sep2_1) k4 S.Tf1
  have j2 : St2 (i + 1) b2 := D2.over r2 k4 S.Tf2
  have zlt : z < b2.objs.size := Heap.lt_size zz
  show wpAny _ _ (Builtin.SmallTypes.ownedTupleHandOut (.ref z) (.ref b2.objs.size) >>= _) _ _ ⟨b2.push { cls := .type "tuple", data := .seq #[x1, x2] }, g, d, t2, os⟩
  refine wpAny_bind ?_
  unfold Builtin.SmallTypes.ownedTupleHandOut
  have z6 : IsZ (b2.push { cls := .type "tuple", data := .seq #[x1, x2] }) z I O .ellipsis := Heap.get?_push_of_some _ zz
  refine wpAny_bind (wpAny_setField_rec z6 (by simp) fun h7 z7 s7 => ?_)
  replace z7 : IsZ h7 z I O (rawInt b2.objs.size) := z7
  replace s7 : Heap.SameBut z (b2.push { cls := .type "tuple", data := .seq #[x1, x2] }) h7 := s7
  refine wpAny_setField_rec z7 (by simp) fun h8 z8 s8 => ?_
  replace z8 : IsZ h8 z I O (rawInt b2.objs.size) := z8
  replace s8 : Heap.SameBut z h7 h8 := s8
  have up : ∀ c o, c ≠ z → b2.get? c = some o → h8.get? c = some o := fun c o c1 e => s8.extBut _ _ c1 (s7.extBut _ _ c1 (Heap.get?_push_of_some _ e))
  have T8 : IsTupOf2 h8 b2.objs.size x1 x2 := s8.extBut _ _ (Nat.ne_of_gt zlt) (s7.extBut _ _ (Nat.ne_of_gt zlt) (Heap.get?_push_size _ rfl))
  have e8 : h8.objs.size = b2.objs.size + 1 := by rw [s8.1, s7.1, Heap.size_push]
  rw [hsz] at z8 T8 e8
  refine wpAny_pure ⟨_, rfl, ?_⟩
  show Q (.ref b2.objs.size) ⟨h8, g, d, t2, os⟩
  rw [hsz]
  exact hQ x1 x2 h8 t2 hx1 hx2 z8 (up _ _ S.TOz o4) (D1.frame _ _ _ j1 fun b hb o e => up b o (fun q => S.zf1 (q ▸ hb)) e) (D2.frame _ _ _ j2 fun b hb o e => up b o (fun q => S.zf2 (q ▸ hb)) e) T8 e8 fun c o cz cO d1 d2 e => up c o cz (kk c o cz cO d1 d2 e)
end
end ZS

/-! DG69: zip(x, y, strict=True): its making, its turns, over data. -/
namespace ZS
open PySem PySem.Spec PyProof.Rows
section
variable {prog : Program} {w : World} {A : Around} {E : Value → Shared → Prop} {s : Shared} {env : Env}
end
section
variable {prog : Program} {w : World} {A : Around} {E : Value → Shared → Prop} {s : Shared} {z I O i1 i2 : Addr} {f1 f2 : List Addr} {n n1 n2 i : Nat} {P1 P2 : Nat → Value → Prop} {St1 St2 : Nat → Heap → Prop} {a1 a2 : Value}
end
end ZS

/-! DG70: zip(x, y, strict=True) of a list or tuple and another of its length, over data. -/
namespace DL
open PySem PySem.Spec L2 RZ
open PyProof.Rows hiding St
section
variable {X : Cx} {Wx : WX} {P I J : List Nat} {e e2 : Expr} {elts : List Expr} {A : FA} {pos p tpos kp bp : Pos} {kk jj : Nat} {tA : TA}
end
end DL

/-! DG71: x *= e on ints. -/
namespace DL
open PySem L2
open PyProof.Rows hiding St
section
variable {X : Cx} {Wx : WX} {P L I J : List Nat} {e : Expr} {F : FE} {pos pos' : Pos} {te : TE}
end
end DL

/-! DG72: dict(d), d a dict whose keys are tuples of hashes apart. -/
namespace DL
open PySem L2
open PyProof.Rows hiding St
section
variable {prog : Program} {w : World} {A : Around} {E : Value → Shared → Prop} {s : Shared}
end
end DL

/-! DG73: x.m(e, ..), x a slot's own instance, lent to the method. -/
namespace DL
open PySem L2
open PyProof.Rows hiding St
section
variable {X : Cx} {Wx : WX} {P I J : List Nat} {e : Expr} {es : List Expr} {B : Env → (Env → Env → Prop) → XP → Prop} {sl : List (Option Nat)} {pos p apos : Pos} {k : Nat} {f C : Addr} {G : DFn} {y m : Str} {io : List Nat} {tA : TA}
end
end DL

/-! DG74: xs.pop(i), xs an owned list. -/
namespace DL
open PySem L2
open PyProof.Rows hiding St
section
variable {X : Cx} {Wx : WX} {P I J : List Nat} {e : Expr} {F : FE} {te : TE} {pos' apos cpos : Pos}
end
end DL

/-! DG75: x.m(k = e, ..): a method called by keywords alone. -/
namespace DL
open PySem L2
open PyProof.Rows hiding St
section
variable {X : Cx} {Wx : WX} {P I J J1 : List Nat} {o : Expr} {Fo : FE} {A : Env → (Env → Env → Prop) → XP → Prop} {pos apos : Pos} {k n : Nat} {f C : Addr} {G : DFn} {m : Str} {tA : TA} {ta : TE} {kws : List Keyword} {ks : List Str} {pi : List Nat} {sp : Sp} {E : St → XK}
end
end DL

/-! DG76: list(d), the keys of d pairs or other tuples: a new list. -/
namespace L2
open PySem PySem.Spec PyProof.Rows
end L2
namespace DL
open PySem L2
open PyProof.Rows hiding St
section
variable {X : Cx} {Wx : WX} {P I J : List Nat} {e : Expr} {F : FE} {te : TE} {pos p : Pos}
end
end DL

/-! DG77: isinstance(d, dict) where d is a dict keyed by tuples. -/
namespace L2
open PySem PySem.Spec PyProof.Rows
end L2
namespace DL
open PySem L2
open PyProof.Rows hiding St
end DL

/-! DG78: a comprehension with two fors. -/
namespace DL
open PySem L2
open PyProof.Rows hiding St
section
variable {K : PySem.W.Frag} {W : Wd} {P I : List Nat} {ρ : Env} {σ : St} {Hb H : Hp}
theorem NewAt.unwiped {vs : List Nat} {p : Addr} {d : D} {ρ' : Env} {σ' : St} {Hb' H' : Hp} (n : NewAt K W P I ρ' σ' Hb' H' p d) (o : σ'.length = σ.length ∧ ∀ i, i ∉ vs → σ'[i]? = σ[i]?) (hP : ∀ v ∈ vs, v ∉ P ∧ v ∉ I) : NewAt K W P I (unwipe ρ ρ' vs) σ Hb' H' p d := by
  refine ⟨n.cell, n.nbF, fun i di q a hi g e ha fa => ?_⟩
  rcases get_unwipe g with ⟨x, _⟩ | ⟨x, y⟩
  · exact absurd hi (fun q => q.elim (hP i x).1 (hP i x).2)
  · exact n.unF i di q a hi y (by rw [o.2 i x]; exact e) ha fa
theorem NewAt.wiped {vs : List Nat} {p : Addr} {d : D} (n : NewAt K W P I ρ σ Hb H p d) (hP : ∀ v ∈ vs, v ∉ P ∧ v ∉ I) : NewAt K W P I (wipeE ρ vs) (wipe σ vs) Hb H p d := by
  refine ⟨n.cell, n.nbF, fun i di q a hi g e ha fa => ?_⟩
  obtain ⟨g, h⟩ := get_wipe g
  exact n.unF i di q a hi g (by rw [wipe_get h] at e; exact e) ha fa
end
section
variable {X : Cx} {Wx : WX} {P L I J : List Nat} {elt tg iter tg1 iter1 : Expr} {ifs ifs1 : List Expr} {scope : Scope} {own : List (Str × Nat)} {pos spos py : Pos} {wi wi1 : TI} {g g1 : TG} {tt tt1 : TT} {te : TE} {A A1 : FA} {gd gd1 : FG} {T T1 : FT} {E : FE} {ts ts1 vs1 : List Nat}
end
section
variable {X : Cx} {Wx : WX} {P L I J : List Nat} {elt tg iter tg1 iter1 : Expr} {ifs ifs1 : List Expr} {scope : Scope} {own : List (Str × Nat)} {pos spos py : Pos} {wi wi1 : TI} {g g1 : TG} {tt tt1 : TT} {te : TE} {A A1 : FA} {gd gd1 : FG} {T T1 : FT} {E : FE} {ts ts1 vs1 : List Nat}
end
end DL

/-! DG79: d.clear() of a dict keyed by tuples; C(.., x, ..), x's cell lent to __init__. -/
namespace L2
open PySem PySem.Spec PyProof.Rows
section
variable {X : Cx} {pins : List (Addr × Obj)} {σ : St} {H : Hp} {s : Shared} {A : Around} {E : Value → Shared → Prop} {a : Addr} {kvs : List (List Key × V)}
end
end L2
namespace DL
open PySem L2
open PyProof.Rows hiding St
section
variable {X : Cx} {Wx : WX} {P I J : List Nat} {pos' apos cpos : Pos}
end
/-! ### C(.., x, ..) -/
section
variable {K : PySem.W.Frag} {W : Wd} {P J : List Nat} {ρ ρ' : Env} {σ σ' : St} {Hb H : Hp}
end
section
variable {X : Cx} {Wx : WX} {P I J : List Nat} {e : Expr} {es : List Expr} {B : Env → (Env → Env → Prop) → XP → Prop} {sl : List (Option Nat)} {pos p : Pos} {k : Nat} {f : Addr} {G : DFn} {y : Str} {io : List Nat} {tA : TA} {C : Addr} {n : Str} {m : Nat}
end
end DL

/-! DG80: texts: str(i), int(text), sep.join(..), text.split(sep), text[a:b], for over a text. -/
namespace DL
open PySem L2
open PyProof.Rows hiding St
section
variable {K : PySem.W.Frag}
end
section
variable {X : Cx} {Wx : WX} {P I J J1 J2 : List Nat} {e o a tg : Expr} {te to ta : TE} {F G : FE} {pos apos p2 : Pos} {lo hi : Option Expr} {tl th : TO} {A B : FO}
end
end DL

/-! DG81: f-strings, a module's text by its name, a, *b = a list. -/
namespace DL
open PySem L2
open PyProof.Rows hiding St
section
variable {X : Cx} {Wx : WX} {P I J L : List Nat} {e e1 e2 : Expr} {te : TE} {F : FE} {k : Nat} {tgs : TGs} {g : FGs} {ts : List Nat} {pos pos' p : Pos}
end
/-! ### f-strings -/
abbrev FJ := Env → (Str → Env → Prop) → XP → Prop
structure DJ (X : Cx) (Wx : WX) (P I : List Nat) (es : List Expr) (ts : List TE) (F : Str → FJ) (J : List Nat) : Prop where
  pe : PJ X es ts
  ev : ∀ (acc : Str) (W : Wd) (ρ : Env) (σ : St) (Hb H : Hp) (Q : Str → Hp → Prop) (post : Str → Env → Prop) (xp : XP), EnvOk X.K W P I ρ σ Hb H → F acc ρ post xp → XOk X Wx W P σ xp →
    (∀ z ρ' Hb' H', post z ρ' → EnvOk X.K W P J ρ' σ Hb' H' → Sub Hb Hb' → Q z H') → tJs ts acc σ H Q
section
variable {X : Cx} {Wx : WX} {P I J J1 : List Nat} {e v1 v2 : Expr} {es rest : List Expr} {te : TE} {ts : List TE} {F : FE} {B : Str → FJ} {pos pos' : Pos} {x : Str} {j : _}
end
end DL

/-! DG82: {x:>w} for a whole number, text * number. -/
namespace DL
open PySem L2
open PyProof.Rows hiding St
open Builtin Builtin.Float
/-- the spec ">w" -/
structure SpecR (sp : Str) (w : Nat) : Prop where
  hp : ∀ name, parseFormatSpec sp.cps.toList name 62 = .ok { align := 62, width := some w }
  hne : (sp.length == 0) = false
  hasc : ((sp.cps.toList.drop 1).any (· ≥ 128) || (sp.cps.getD 0 0 ≥ 128 && !([60, 62, 61, 94] : List Nat).contains (sp.cps.getD 1 0))) = false
  back : (sp.cps.back? == some 0) = false
  hw : w ≤ 1000
  hz : sp.length ≤ 1000
section
variable {X : Cx}
end
section
variable {X : Cx} {Wx : WX} {P I J J1 : List Nat} {e : Expr} {es : List Expr} {te : TE} {ts : List TE} {F : FE} {B : Str → FJ} {pos pos' p2 p3 : Pos} {sp : Str} {w : Nat} {j : _}
end
end DL

/-! DG83: a def whose last parameter is left to its default, a tuple of whole numbers. -/
namespace DL
open PySem L2
open PyProof.Rows hiding St
/-- a tuple of whole numbers of the module -/
def KT (K : PySem.W.Frag) (l : List Int) (v : Value) : Prop := ∃ (a : Addr) (o : Obj) (its : Array Value) (n : Nat), v = .ref a ∧ K.lookup a = some o ∧ o.cls = .type "tuple" ∧ o.dict = none ∧ o.data = .seq its n ∧ its.size ≤ 100 ∧ Vals (l.map V.int) its.toList
theorem isL_intsK {K : PySem.W.Frag} {H : Hp} : ∀ l : List Int, IsL K H (l.map V.int) (l.map D.int)
  | [] => .nil
  | i :: l => .cons (.int i) (isL_intsK l)
theorem get_snoc : ∀ (ρ : Env) (z : D) (i : Nat) (d : D), get (ρ ++ [some z]) i = some d → (get ρ i = some d ∧ i < ρ.length) ∨ (i = ρ.length ∧ d = z)
  | [], z, 0, d, h => by
    have h : some z = some d := h
    exact .inr ⟨rfl, (Option.some.inj h).symm⟩
  | [], z, i + 1, d, h => by
    have h : (none : Option D) = some d := h
    cases h
  | x :: r, z, 0, d, h => .inl ⟨h, Nat.succ_pos _⟩
  | x :: r, z, i + 1, d, h => by
    rcases get_snoc r z i d h with ⟨a, b⟩ | ⟨a, b⟩
    · exact .inl ⟨a, Nat.succ_lt_succ b⟩
    · exact .inr ⟨by rw [a]; rfl, b⟩
theorem KT.is {K : PySem.W.Frag} {l : List Int} {v : Value} (h : KT K l v) : ∃ x, RelV x v ∧ ∀ H, Is K H x (.ktp (l.map .int)) := by
  obtain ⟨a, o, its, n, rfl, h1, h2, hd, h3, h4, h5⟩ := h
  exact ⟨.ref a, rfl, fun H => .ktp (.inr ⟨o, its, n, h1, h2, hd, h3, Nat.le_trans h4 (by decide), h5⟩) (isL_intsK l)⟩
/-- every parameter but the last is given -/
theorem binds_last {K : PySem.W.Frag} {fd : FuncData} {ps : List Str} {T : Addr} {o : Obj} {x : Value} {n : Nat} (lT : K.lookup T = some o) (oT : o.data = .seq #[x] n)
    (h : ∀ us : List Value, us.length + 1 = ps.length → ∃ k, bindArgs fd ⟨us, []⟩ = seqItems? (.ref T) >>= k ∧ k (some #[x]) = pure (ps.zip (us ++ [x]))) : Binds K fd ps [x] := fun s us X hl => by
  rw [List.length_append] at hl
  obtain ⟨k, e1, e2⟩ := h us hl
  refine BindsTo.of_looks fun M => ?_
  rw [e1]
  exact looks_items X lT oT (.of_pure e2)
section
variable {P : Program} {w : World} {K : PySem.W.Frag} {mg : Str → Option Value} {base : Heap} {k : Nat} {f : Addr} {sp : Sp}
theorem fnG_ofD {x qual : Str} {st : Stmt} {fd : FuncData} {N ps : List Str} {v0 : Value} {x0 : V} (F : FunG K x qual st f fd) (S : FnScope N ps (defScope st)) (B : Binds K fd ps [v0]) (r0 : RelV x0 v0) (len : ∀ vs H Q E, sp vs H Q E → vs.length + 1 = ps.length)
    (body : ∀ (cdv : Value) (A : Around) (o : List PySem.Env) (s : Shared) (H : Hp) (vs : List V) (Q : VK) (E : XK), Room k (A.deeper (envOfC qual (defScope st) s.heap.objs.size f cdv)) → A.guards = some [] → sp vs H Q E →
      ∃ t, PSs (cxOf (L2.CX P w) P w K mg base N qual (defScope st) f cdv A o s H E) (defBody st) t ∧ t { nx := fun _ H' => Q .non H', rt := Q } (L2.start N (vs ++ [x0])) H) : FnG P w K mg base (k + 1) f sp := by
  intro A o s H us vs Q E room hg ev rel0 hsp
  have nlen := len _ _ _ _ hsp
  have rel : Vals (vs ++ [x0]) (us ++ [v0]) := rel0.append (.cons r0 .nil)
  have here : K.In s.heap := ev.mod.kin.keeps fun b u e => (ev.bs b u e).1
  have nolim : s.heap.NoLimit := ev.mod.nolimit.keeps fun b u e => (ev.bs b u e).1
  have nlen2 : (vs ++ [x0]).length = ps.length := by rw [List.length_append]; exact nlen
  have bnd := B s us here (by rw [← rel.length]; exact nlen2)
  obtain ⟨oc, od, dV, kV, doc, pm, an, cdv, ct, osl, rfl, lk, hcd⟩ := F.ex
  have kinds : ∀ y ∈ ps.zip (us ++ [v0]), (defScope st).names.lookup y.1 = some .local ∨ ((defScope st).names.lookup y.1 = some .cell ∧ ((cellsFrom (s.heap.objs.size + 1) (defScope st).names []).lookup y.1).isSome = true) := by
    rintro ⟨n, v⟩ hy
    refine (S.par n (List.of_mem_zip hy).1).imp id fun q => ⟨q, PySem.W.cellsFrom_some _ _ _ (.inl q)⟩
  refine codeAny_call_function room.depth (here _ _ lk) rfl S.co S.gen rfl (PySem.W.codeRec_of here hcd) (bnd _ _ _ _ ?_)
  refine wpAny_newFunctionEnv_cells S.kind kinds fun env same s1 laid => ?_
  subst same
  refine ⟨nolim.keeps laid.toInCall.keep, codeAny_func ?_⟩
  obtain ⟨t, pt, ht⟩ := body cdv A o s H vs Q E (room.deeper _) hg hsp
  refine wpAny_mono (pt.run [] s1 (L2.start N (vs ++ [x0])) H _ (inv_start S room.hd ev nlen2 rel laid) ht) (fun fl s2 q => ?_) fun _ _ q => q
  cases fl with
  | next =>
    obtain ⟨σ2, H2, J, q⟩ := q
    exact ⟨.non, H2, J.os, J.bare, J.base, J.hok, rfl, q⟩
  | ret u =>
    obtain ⟨v, σ2, H2, J, rv, q⟩ := q
    exact ⟨v, H2, J.os, J.bare, J.base, J.hok, rv, q⟩
  | brk =>
    obtain ⟨_, _, _, q⟩ := q
    exact (show False from q).elim
  | cont =>
    obtain ⟨_, _, _, q⟩ := q
    exact (show False from q).elim
theorem entryD {W : Wd} {ρ : Env} {vs : List V} {Hb H : Hp} {x0 : V} {d0 : D} {m : Nat} (E : EnvOk K W [] [] ρ (vs.map some) Hb H) (i0 : Is K Hb x0 d0) : EnvOk K W [] [] (ρ ++ [some d0] ++ List.replicate m none) (vs.map some ++ [some x0] ++ List.replicate m none) Hb H where
  tab := E.tab
  sub := E.sub
  stp := E.stp
  len := by have := E.len; simp only [List.length_append, List.length_replicate, this, List.length_cons, List.length_nil]
  val := fun i d g nP nI => by
    have g := get_append_none _ _ _ _ g
    have lV : (vs.map some).length = ρ.length := E.len
    rcases get_snoc ρ d0 i d g with ⟨g2, z⟩ | ⟨rfl, rfl⟩
    · obtain ⟨v, e, is⟩ := E.val i d g2 nP nI
      exact ⟨v, by rw [List.getElem?_append_left (by rw [List.length_append, lV]; exact Nat.lt_of_lt_of_le z (Nat.le_add_right _ _)), List.getElem?_append_left (by rw [lV]; exact z)]; exact e, is⟩
    · exact ⟨x0, by rw [List.getElem?_append_left (by rw [List.length_append, lV]; exact Nat.lt_succ_self _), List.getElem?_append_right (by rw [lV]; exact Nat.le_refl _), lV, Nat.sub_self]; rfl, i0⟩
  celF := fun i d hi g => by rcases hi with hi | hi <;> cases hi
  sepF := fun i j p q di dj a hi => by rcases hi with hi | hi <;> cases hi
theorem okGD_of {x qual : Str} {st : Stmt} {f : Addr} {fd : FuncData} {N ps : List Str} {k n : Nat} {J : List Nat} {G : DFn} {Fd : FS} {v0 : Value} {l : List Int} (F : FunG K x qual st f fd) (u : KT K l v0) (B : Binds K fd ps [v0]) (S : FnScope N ps (defScope st)) (hn : ps.length = n + 1)
    (hb : ∀ (cdv : Value) (A : Around) (outer : List PySem.Env) (s : Shared) (H : Hp) (E : XK), Room k (A.deeper (envOfC qual (defScope st) s.heap.objs.size f cdv)) → A.guards = some [] →
      DSs (cxOf (L2.CX P w) P w K mg base N qual (defScope st) f cdv A outer s H E) (WofE E) [] [] [] (defBody st) Fd J)
    (hg : ∀ (ρ : DL.Env) (post : Post) (xp : XP), ρ.length = n → G ρ post xp → Fd (ρ ++ [some (.ktp (l.map .int))] ++ List.replicate (N.length - (n + 1)) none) (endS [] n post xp)) : FnG P w K mg base (k + 1) f (spD K n [] G) := by
  obtain ⟨x0, r0, i0⟩ := u.is
  refine fnG_ofD F S B r0 (fun vs H Q E h => by rw [h.1, hn]) fun cdv A outer s H vs Q E hr gu h => ?_
  obtain ⟨hl, ρ, Hb, post, xp, E0, g, q1, q2⟩ := h
  obtain ⟨t, pt, kt⟩ := (hb cdv A outer s H E hr gu).run
  refine ⟨t, pt, ?_⟩
  have hρ : ρ.length = n := by rw [← E0.len, List.length_map, hl]
  have e1 : L2.start N (vs ++ [x0]) = vs.map some ++ [some x0] ++ List.replicate (N.length - (n + 1)) none := by unfold L2.start; rw [List.length_append, hl, List.map_append]; rfl
  rw [e1]
  refine kt ⟨Hb, H, lentAt [] vs ρ H, rootAt [] vs⟩ _ _ Hb H _ _ (entryD E0 (i0 _)) (hg ρ post xp hρ g) ⟨fun ρ' σ' Hb' H' a E' s' => ?_, fun d ρ' σ' v Hb' H' a E' is => ?_, fun _ _ _ _ a => a.elim, fun _ _ _ _ a => a.elim, fun c ρ' cls dx σ' Hb' H' a E' xi => ?_⟩
  · exact q1 _ _ _ _ _ a (E'.masked hl) .non
  · exact q1 _ _ _ _ _ a (E'.masked hl) is
  · exact q2 _ _ _ _ _ _ a (E'.masked hl) xi
end
end DL

/-! DG84: a, l = value, a new list; l[i], l[j] = a pair. -/
namespace DL
open PySem L2
open PyProof.Rows hiding St
section
variable {X : Cx} {Wx : WX} {P L I J J1 J2 : List Nat} {a b value k1 k2 : Expr} {ta tb tc : TE} {F G G2 : FE} {pos px py pt p1 p2 s1 s2 : Pos} {kt : Nat}
end
end DL

/-! DG85: promises about exceptions whose context is None; try: .. except C: raise C2(e) from None. -/
namespace DL
open PySem L2
open PyProof.Rows hiding St
/-- a def's promise as FnG has it; what it raises has None for its context -/
def FnGN (P : Program) (w : World) (K : PySem.W.Frag) (mg : Str → Option Value) (base : Heap) (k : Nat) (f : Addr) (sp : Sp) : Prop :=
  ∀ (A : Around) (frs_ : List PySem.Env) (s : Shared) (H : Hp) (us : List Value) (vs : List V) (Q : VK) (E : XK), Room k A → A.guards = some [] → Env0 P w K mg base A frs_ s H → Vals vs us → sp vs H Q E →
    codeAny (model P w) A (.call (.ref f) ⟨us, []⟩) (CR (L2N.CX P w) frs_ P w H s Q E) s
section
variable {P : Program} {w : World} {K : PySem.W.Frag} {mg : Str → Option Value} {base : Heap} {k : Nat} {f : Addr} {sp : Sp}
theorem FnGN.mono {j : Nat} (F : FnGN P w K mg base j f sp) (h : j ≤ k) : FnGN P w K mg base k f sp := fun A o s H us vs Q E r => F A o s H us vs Q E (r.mono h)
end
section
variable {X : Cx} {Wx : WX} {P L I J J1 : List Nat} {e : Expr} {es : List Expr} {te : TE} {tA : TA} {F : FE} {A : FA} {pos p pos' : Pos} {n f x : Str} {C : Addr} {k i m : Nat} {sp : Sp} {E : St → XK} {t : TA} {G : DFn}
end
section
variable {X : Cx} {Wx : WX} {P I J : List Nat} {e : Expr} {te : TE} {F : FE} {pos p sp_ : Pos} {n x : Str} {C : Addr} {k : Nat} {G : DFn}
end
/-- an exception of a class that the clause names becomes another -/
def SPo.fr (S : SPo) (ts : List (Str × Bool)) (n f : Str) (F : FE) : SPo := { S with ex := fun e ρ1 => kept ts e.C (F ρ1 (fun d ρ2 => S.ex ⟨n, [(f, d)]⟩ ρ2) S.ex) (S.ex e ρ1) }
@[simp ↓] theorem fr_nx (S : SPo) (ts n f F) : (S.fr ts n f F).nx = S.nx := (rfl)
@[simp ↓] theorem fr_rt (S : SPo) (ts n f F) : (S.fr ts n f F).rt = S.rt := (rfl)
@[simp ↓] theorem fr_bk (S : SPo) (ts n f F) : (S.fr ts n f F).bk = S.bk := (rfl)
@[simp ↓] theorem fr_ct (S : SPo) (ts n f F) : (S.fr ts n f F).ct = S.ct := (rfl)
@[simp ↓] theorem fr_ex (S : SPo) (ts n f F m fs ρ) : (S.fr ts n f F).ex ⟨m, fs⟩ ρ = kept ts m (F ρ (fun d ρ2 => S.ex ⟨n, [(f, d)]⟩ ρ2) S.ex) (S.ex ⟨m, fs⟩ ρ) := (rfl)
section
variable {X : Cx} {Wx : WX} {P L I J J1 : List Nat} {e : Expr} {te : TE} {F : FE} {pos p pos' : Pos} {n f x : Str} {C : Addr}
end
end DL

/-! DG86: for k, v in x.items(), x a slot's own dict keyed by tuples; isinstance(x, dict) of such a slot. -/
namespace DL
open PySem L2
open PyProof.Rows hiding St
section
variable {K : PySem.W.Frag} {W : Wd} {P I : List Nat} {ρ : Env} {σ : St} {Hb H : Hp} {i : Nat} {p : Addr} {kvs : List (List Key × D)} {od : Obj} {us : List (List Key × V)}
variable {P' I' : List Nat} {ρ' : Env} {σ' : St} {Hb' H' : Hp} {o : HO}
end
section
variable {X : Cx} {Wx : WX} {P L I P' I' : List Nat} {x : Str} {p2 tpos apos cpos pos : Pos} {kk : Nat} {elts : List Expr} {B : FS} {g : FG} {tg1 : TG} {body : List Stmt}
end
end DL

/-! DG87: sleeping generators stay as they are through code that was walked without knowing them. -/
namespace GenT
open PySem
open Sem (wp)
open PyProof.Rows (AllBare)
/-- a sleeping generator made such that nothing is known of its waking -/
def kill : GenState → GenState
  | .suspended _ l c p fs cl => .suspended (fun _ => .unsupported "") l c p fs cl
  | x => x
def Asleep : GenState → Prop
  | .suspended .. => True
  | _ => False
instance (x : GenState) : Decidable (Asleep x) := by cases x <;> unfold Asleep <;> infer_instance
/-- the frames of a generator that was put to sleep hold no other generator's -/
def Ng : GenState → Prop
  | .suspended _ _ _ _ fs _ => splitAtGen fs = none
  | _ => True
/-- the sleepers D, killed; all others' frames are their own -/
structure GI (D : Nat → Option GenState) (s : Shared) : Prop where
  dead : ∀ i st, D i = some st → Asleep st ∧ s.gens[i]? = some (kill st)
  own : ∀ i x, s.gens[i]? = some x → D i = none → Ng x
/-- the sleepers, alive again -/
def back (D : Nat → Option GenState) (s : Shared) : Shared := { s with gens := s.gens.mapIdx fun i x => (D i).getD x }
theorem GI.push {D : Nat → Option GenState} {s : Shared} (g : GI D s) (c : Code) : GI D { s with gens := s.gens.push (.fresh c) } where
  dead := fun i st h => ⟨(g.dead i st h).1, by
    have k := (g.dead i st h).2
    have hi := (Array.getElem?_eq_some_iff.mp k).1
    show (s.gens.push _)[i]? = _
    rw [Array.getElem?_push, if_neg (by omega)]
    exact k⟩
  own := fun i x h n => by
    have h : (s.gens.push (.fresh c))[i]? = some x := h
    rw [Array.getElem?_push] at h
    split at h
    · cases h; trivial
    · exact g.own i x h n
theorem GI.set {D : Nat → Option GenState} {s : Shared} (g : GI D s) {i : Nat} {x : GenState} (n : D i = none) (hx : Ng x) : GI D (s.setGen i x) where
  dead := fun j st h => ⟨(g.dead j st h).1, by
    have ne : i ≠ j := fun z => by rw [z, h] at n; cases n
    show (s.gens.setIfInBounds i x)[j]? = _
    rw [Array.getElem?_setIfInBounds_ne ne]
    exact (g.dead j st h).2⟩
  own := fun j y h nj => by
    by_cases e : i = j
    · subst e
      have h : (s.gens.setIfInBounds i x)[i]? = some y := h
      rw [Array.getElem?_setIfInBounds] at h
      simp only [if_true] at h
      split at h
      · cases h; exact hx
      · cases h
    · have h : (s.gens.setIfInBounds i x)[j]? = some y := h
      rw [Array.getElem?_setIfInBounds_ne e] at h
      exact g.own j y h nj
theorem GI.heap {D : Nat → Option GenState} {s s' : Shared} (g : GI D s) (e : s'.gens = s.gens) : GI D s' := ⟨fun i st h => by rw [e]; exact g.dead i st h, fun i x h => by rw [e] at h; exact g.own i x h⟩
section
variable {M : Model} {D : Nat → Option GenState}
end
end GenT

/-! freed addresses stay freed -/
namespace GenT
open PySem
open Sem (wp)
def Dead (h h' : Heap) : Prop := h.objs.size ≤ h'.objs.size ∧ ∀ b, b < h.objs.size → h.get? b = none → h'.get? b = none
theorem Dead.refl (h : Heap) : Dead h h := ⟨Nat.le_refl _, fun _ _ e => e⟩
theorem Dead.trans {h h1 h2 : Heap} (a : Dead h h1) (b : Dead h1 h2) : Dead h h2 := ⟨Nat.le_trans a.1 b.1, fun c l e => b.2 c (Nat.lt_of_lt_of_le l a.1) (a.2 c l e)⟩
theorem Dead.push (h : Heap) (o : Obj) : Dead h (h.push o) := by
  refine ⟨by rw [Heap.size_push]; exact Nat.le_succ _, fun b l e => ?_⟩
  obtain ⟨objs, lf⟩ := h
  have l : b < objs.size := l
  unfold Heap.get? at e ⊢
  show (match (objs.push o)[b]? with | some ⟨_, _, .freed, _⟩ => none | o => o) = none
  rw [Array.getElem?_push, if_neg (by omega)]
  exact e
end GenT

/-! DG88: a generator's first segment, its later ones where its body ends in «yield from». -/
namespace GenT
open PySem PySem.Spec L2
open PyProof.Rows hiding St
open Sem (wp)
/-! ### one segment, whatever it ends in -/
def Go (M : Model) (A : Around) (Φ : End → Shared → Prop) (c : Code) (t : Sem PySem.Fin) (fs : List Frame) (s : Shared) : Prop :=
  ∀ Γ p, Γ.code = c → Γ.Woken A → ∃ e s', Runs M Γ p t fs s e s' ∧ Φ e s'
section
variable {M : Model} {A : Around} {Φ : End → Shared → Prop} {c : Code} {fs : List Frame} {s : Shared}
/-- what wakes a generator -/
def Woke (M : Model) (A : Around) (Φ : End → Shared → Prop) (gs : GenState) (s : Shared) : Prop := match gs with
  | .fresh c => Go M A Φ c (M.den c) [] s
  | .suspended k _ c _ fs _ => Go M A Φ c (k (.send .none)) fs s
  | _ => False
end
/-! ### yield from an iterator -/
/-- an iterator at it that hands out xs -/
structure QG (P : Program) (w : World) (it : Addr) (dat : Hp → Prop) (xs : List V) (St : Nat → Heap → Prop) : Prop where
  ty : ∃ T, (∀ j h, St j h → ∃ o, h.get? it = some o ∧ o.cls = .type T) ∧ typeLookup (.type T) "close" = pure none ∧ (Value.type T != Value.type "generator") = true
  nc : ∀ j h, St j h → ∃ o, h.get? it = some o ∧ ∀ v, o.data ≠ .cell v
  frame : ∀ j h h' H', St j h → (∀ o, h.get? it = some o → h'.get? it = some o) → HOk P w H' h' → dat H' → St j h'
  item : ∀ (A : Around) (j : Nat) (x : V) (s : Shared) (Q : Option Value → Shared → Prop) (E : Value → Shared → Prop), A.handled = none → xs[j]? = some x → St j s.heap →
    (∀ v h' tk, RelV x v → St (j + 1) h' → (∀ b o, b ≠ it → s.heap.get? b = some o → h'.get? b = some o) → Q (some v) { s with heap := h', toks := tk }) → wpAny (model P w) A (callSpecial? (.ref it) "__next__") Q E s
  done : ∀ (A : Around) (s : Shared) (Q : Option Value → Shared → Prop) (E : Value → Shared → Prop), A.handled = none → St xs.length s.heap →
    (∀ e h' tk, StopX e h' → (∀ b o, b ≠ it → s.heap.get? b = some o → h'.get? b = some o) → E e { s with heap := h', toks := tk }) → wpAny (model P w) A (callSpecial? (.ref it) "__next__") Q E s
/-- nothing but the iterator was touched -/
def KeepBut (it : Addr) (s s' : Shared) : Prop := ∃ h' tk, s' = { s with heap := h', toks := tk } ∧ ∀ b o, b ≠ it → s.heap.get? b = some o → h'.get? b = some o
theorem KeepBut.refl (it : Addr) (s : Shared) : KeepBut it s s := ⟨s.heap, s.toks, rfl, fun _ _ _ e => e⟩
theorem KeepBut.go {it : Addr} {s s' : Shared} {h' : Heap} {tk : Nat} (k : KeepBut it s s') (h : ∀ b o, b ≠ it → s'.heap.get? b = some o → h'.get? b = some o) : KeepBut it s { s' with heap := h', toks := tk } := by
  obtain ⟨h1, t1, rfl, k1⟩ := k
  exact ⟨h', tk, rfl, fun b o n e => h b o n (k1 b o n e)⟩
def YT (it : Addr) (xs : List V) (St : Nat → Heap → Prop) : Protocol := fun n s₀ v s1 kap =>
  ∃ j x, j + n + 1 = xs.length ∧ xs[j]? = some x ∧ RelV x v ∧ KeepBut it s₀ s1 ∧ St (j + 1) s1.heap ∧ ∀ s', St (j + 1) s'.heap → kap (.send .none) s'
def RT (it : Addr) : GenEnd := fun n s₀ r s1 => n = 0 ∧ r = .ok (.ret .none) ∧ KeepBut it s₀ s1
section
variable {P : Program} {w : World} {A : Around} {fs : List Frame} {it : Addr} {dat : Hp → Prop} {xs : List V} {St : Nat → Heap → Prop}
variable {Φ : End → Shared → Prop}
end
end GenT

/-! DG89: a generator def whose body ends in «yield from», by its body; its call, its first item. -/
namespace GenT
open PySem PySem.Spec L2
open PyProof.Rows hiding St
open Sem (wp)
/-! ### bodies -/
abbrev WantY := List V → (Hp → Prop) → Hp → Prop
abbrev TYg := L2.St → Hp → WantY → Prop
structure YfG (X : Cx) (e : Expr) (t : TYg) : Prop where
  run : ∀ (pins : List (Addr × Obj)) (s : Shared) (σ : L2.St) (H : Hp) (Q : WantY), Inv X pins σ H s → t σ H Q → wpAny (model X.prog X.w) X.A (eval e X.env) (fun v s1 => ∃ T, s1.TypeIs v T ∧ (Value.type T == Value.type "coroutine") = false ∧
    wpAny (model X.prog X.w) X.A (pyIter v) (fun u s2 => ∃ (it : Addr) (H' : Hp) (dat : Hp → Prop) (xs : List V) (St : Nat → Heap → Prop), u = .ref it ∧ Inv X pins σ H' s2 ∧ X.s_0.heap.objs.size ≤ it ∧ it ≠ X.env.locals ∧ (∀ x c, X.env.cells.lookup x = some c → c ≠ it) ∧
      H' it = none ∧ it ∉ X.fs ∧ (∀ p ∈ X.pn ++ pins, p.1 ≠ it) ∧ St 0 s2.heap ∧ QG X.prog X.w it dat xs St ∧ dat H' ∧ Q xs dat H') X.xe s1) X.xe s
/-- where the first item is handed out -/
def FirstOk (X : Cx) (A : Around) (ip : List (Addr × Obj)) (Q : WantY) (v : Value) (k : Resume → Sem PySem.Fin) (c' : Code) (fs' : List Frame) (s' : Shared) : Prop :=
  fs'.any Frame.guarded = false ∧ ∃ (it : Addr) (dat : Hp → Prop) (xs : List V) (St : Nat → Heap → Prop) (x : V) (σ' : L2.St) (H' : Hp), RelV x v ∧ xs[0]? = some x ∧ Inv X ip σ' H' s' ∧ X.s_0.heap.objs.size ≤ it ∧ H' it = none ∧ it ∉ X.fs ∧ (∀ p ∈ X.pn ++ ip, p.1 ≠ it) ∧
    QG X.prog X.w it dat xs St ∧ St 1 s'.heap ∧ dat H' ∧ Q xs dat H' ∧ ∀ s'', St 1 s''.heap → Seg (model X.prog X.w) A (RT it) (YT it xs St) (xs.length - 1) s'' c' (k (.send .none)) fs' s''
/-- what follows the body -/
structure After (X : Cx) (A : Around) (c : Code) (fs : List Frame) (K : Flow → Sem PySem.Fin) (J : Value → Sem PySem.Fin) (Φ : End → Shared → Prop) (ip : List (Addr × Obj)) (Q : WantY) : Prop where
  nx : ∀ s' f, f = .next ∨ f = .ret .none → (∃ σ' H' dat, Inv X ip σ' H' s' ∧ Q [] dat H') → Go (model X.prog X.w) A Φ c (K f) fs s'
  sg : ∀ (R : GenEnd) (Y : Protocol) (n : Nat) (s₀ s : Shared), R n s₀ (.ok (.ret .none)) s → Seg (model X.prog X.w) A R Y n s₀ c (K .next) fs s
  ex : ∀ e s', X.xe e s' → Go (model X.prog X.w) A Φ c (J e) fs s'
  one : ∀ (v : Value) (l : List Value) (k : Resume → Sem PySem.Fin) (c' : Code) (p' : Pos) (fs' : List Frame) (s' : Shared), FirstOk X A ip Q v k c' fs' s' → Φ (.susp v false l k c' p' fs') s'
structure Here (X : Cx) (A : Around) (c : Code) (fs : List Frame) (gd : Bool → Bool) : Prop where
  over : A.over c fs = X.A
  split : splitAtGen fs = none
  guard : fs.any Frame.guarded = false
  gd : gd false = false
  hd : X.A.handled = none
structure GT (X : Cx) (sts : List Stmt) (t : WantY → L2.St → Hp → Prop) : Prop where
  run : ∀ (A : Around) (c : Code) (fs : List Frame) (K : Flow → Sem PySem.Fin) (J : Value → Sem PySem.Fin) (gd : Bool → Bool) (lv : List Value → List Value) (Φ : End → Shared → Prop) (ip : List (Addr × Obj)) (s : Shared) (σ : L2.St) (H : Hp) (Q : WantY),
    Here X A c fs gd → After X A c fs K J Φ ip Q → Inv X ip σ H s → t Q σ H → Go (model X.prog X.w) A Φ c ((execs sts X.env).wrap K J gd lv) fs s
section
variable {X : Cx} {e test : Expr} {yp pos : Pos} {st : Stmt} {rest B C : List Stmt}
/-- the last statement -/
theorem After.last {A : Around} {c : Code} {fs : List Frame} {K : Flow → Sem PySem.Fin} {J : Value → Sem PySem.Fin} {Φ : End → Shared → Prop} {ip : List (Addr × Obj)} {Q : WantY} (a : After X A c fs K J Φ ip Q) (gd : Bool → Bool) (lv : List Value → List Value) :
    After X A c fs (fun f => match f with | .next => (execs [] X.env).wrap K J gd lv | f => K f) J Φ ip Q where
  nx := fun s' f hf h => by
    rcases hf with rfl | rfl
    · exact a.nx s' .next (.inl rfl) h
    · exact a.nx s' (.ret .none) (.inr rfl) h
  sg := fun R Y n s₀ s h => seg_execs_nil (a.sg R Y n s₀ s h)
  ex := a.ex
  one := a.one
end
/-! ### the def -/
/-- how its first segment ends -/
def GPhi (P : Program) (w : World) (A : Around) (outer : List PySem.Env) (H : Hp) (s : Shared) (a : Addr) (g : Nat) (pn : List (Addr × Obj)) (Q : WantY) (e : End) (s1 : Shared) : Prop :=
  s1.os = s.os ∧ AllBare s1.gens ∧ s1.heap.NoLimit ∧ s1.heap.IsGen a g ∧ match e with
  | .ret r => r = .ok (.ret .none) ∧ ∃ H' dat, Un (frs outer) [] H H' s.heap s1.heap ∧ HOk P w H' s1.heap ∧ H' a = none ∧ (∀ p ∈ pn, s1.heap.get? p.1 = some p.2 ∧ H' p.1 = none) ∧ Q [] dat H'
  | .susp v gd l k c' p fs' => (End.susp v gd l k c' p fs').quiet = true ∧ ∃ (it : Addr) (dat : Hp → Prop) (xs : List V) (St : Nat → Heap → Prop) (x : V) (H' : Hp), RelV x v ∧ xs[0]? = some x ∧ Un (frs outer) [] H H' s.heap s1.heap ∧ HOk P w H' s1.heap ∧ H' a = none ∧ (∀ p ∈ pn, s1.heap.get? p.1 = some p.2 ∧ H' p.1 = none ∧ p.1 ≠ it) ∧
      s.heap.objs.size ≤ it ∧ it < s1.heap.objs.size ∧ H' it = none ∧ it ∉ frs outer ∧ a ≠ it ∧ QG P w it dat xs St ∧ St 1 s1.heap ∧ dat H' ∧ Q xs dat H' ∧ ∀ s'', St 1 s''.heap → Seg (model P w) A (RT it) (YT it xs St) (xs.length - 1) s'' c' (k (.send .none)) fs' s''
/-- what a call gives: a generator that has not begun -/
def GNew (P : Program) (w : World) (k : Nat) (outer : List PySem.Env) (H : Hp) (s : Shared) (Q : WantY) (u : Value) (s' : Shared) : Prop :=
  ∃ (a : Addr) (g : Nat) (c : Code), u = .ref a ∧ s.heap.objs.size ≤ a ∧ a < s'.heap.objs.size ∧ s'.heap.IsGen a g ∧ s'.gens[g]? = some (.fresh c) ∧ s'.os = s.os ∧ AllBare s'.gens ∧ s'.heap.NoLimit ∧ (∀ b o, s.heap.get? b = some o → s'.heap.get? b = some o) ∧ Dead s.heap s'.heap ∧
    ∀ (A : Around) (s2 : Shared) (pn : List (Addr × Obj)), Room k A → A.guards = some [] → A.frames = some outer → (∀ b o, s'.heap.get? b = some o → s2.heap.get? b = some o) → s2.os = s.os → AllBare s2.gens →
      (∀ p ∈ pn, s2.heap.get? p.1 = some p.2 ∧ s'.heap.objs.size ≤ p.1 ∧ ∀ v, p.2.data ≠ .cell v) → Go (model P w) A (GPhi P w A outer H s a g pn Q) c ((model P w).den c) [] s2
abbrev SpY := List V → Hp → WantY → Prop
def FnY (P : Program) (w : World) (K : PySem.W.Frag) (mg : Str → Option Value) (base : Heap) (k : Nat) (f : Addr) (sp : SpY) : Prop :=
  ∀ (A : Around) (outer : List PySem.Env) (s : Shared) (H : Hp) (us : List Value) (vs : List V) (Q : WantY), Room k A → Env0 P w K mg base A outer s H → Vals vs us → sp vs H Q →
    codeAny (model P w) A (.call (.ref f) ⟨us, []⟩) (fun r s' => match r with | .ok (.ret u) => GNew P w k outer H s Q u s' | _ => False) s
end GenT

/-! DG90: for loops over generators. -/
namespace GenT
open PySem PySem.Spec L2 GenW
open PyProof.Rows hiding St
open Sem (wp)
section
variable {X : Cx}
end
/-! ### next -/
section
variable {P : Program} {w : World} {A : Around} {E : Value → Shared → Prop} {s : Shared}
/-- it sleeps, j items were handed out -/
structure Slp (P : Program) (w : World) (A : Around) (a it : Addr) (g : Nat) (xs : List V) (St : Nat → Heap → Prop) (j : Nat) (s : Shared) : Prop where
  gen : s.heap.IsGen a g
  st : St j s.heap
  le : j ≤ xs.length
  there : ∃ gs, s.gens[g]? = some gs ∧ Asleep gs ∧ ∀ s'', St j s''.heap → Woke (model P w) A (fun e s1 => SegEnd (RT it) (YT it xs St) (xs.length - j) (Seg.next (model P w) A (RT it) (YT it xs St) (xs.length - j)) s'' e s1) gs s''
end
/-- an expression whose value is a generator that has not begun -/
abbrev TGY := L2.St → Hp → WantY → Prop
structure PGY (X : Cx) (k : Nat) (e : Expr) (tg : TGY) : Prop where
  run : ∀ (pins : List (Addr × Obj)) (s : Shared) (σ : L2.St) (H : Hp) (Q : WantY), Inv X pins σ H s → tg σ H Q → wpAny (model X.prog X.w) X.A (eval e X.env) (fun u s' => ∃ H1 sc, Inv X pins σ H1 sc ∧ GNew X.prog X.w k X.stack H1 sc Q u s') X.xe s
end GenT

/-! DG91: list comprehensions over generators. -/
namespace GenT
open PySem PySem.Spec L2 GenW
open PyProof.Rows hiding St
open Sem (wp)
section
variable {X : Cx}
end
end GenT

/-! DG92: generators over data: for, comprehensions. -/
namespace GenT
open PySem PySem.Spec L2 GenW
open PyProof.Rows hiding St
section
variable {X : Cx}
/-! ### calls that give a generator -/
variable {k : Nat} {f C : Addr} {fd : FuncData} {ps : List Str} {sp : SpY} {x m : Str} {p pos pos' apos : Pos} {o : Expr} {ta : TE}
end
theorem GNew.mono {P : Program} {w : World} {k k' : Nat} {outer : List PySem.Env} {H : Hp} {s s' : Shared} {Q : WantY} {u : Value} (h : GNew P w k outer H s Q u s') (hk : k ≤ k') : GNew P w k' outer H s Q u s' := by
  obtain ⟨a, gi, c, e, ha1, ha2, hgen, hgs, hos, hbare, hlim, hkp, hdd, go⟩ := h
  exact ⟨a, gi, c, e, ha1, ha2, hgen, hgs, hos, hbare, hlim, hkp, hdd, fun A s2 pn hr => go A s2 pn (hr.mono hk)⟩
theorem FnY.mono {P : Program} {w : World} {K : PySem.W.Frag} {mg : Str → Option Value} {base : Heap} {k k' : Nat} {f : Addr} {sp : SpY} (F : FnY P w K mg base k f sp) (hk : k ≤ k') : FnY P w K mg base k' f sp := fun A outer s H us vs Q hr e r hs =>
  codeAny_mono (F A outer s H us vs Q (hr.mono hk) e r hs) fun r s' q => by
    cases r with
    | error e => exact q
    | ok fl =>
      cases fl with
      | ret u => exact GNew.mono q hk
      | next => exact q
      | brk => exact q
      | cont => exact q
end GenT
namespace DL
open PySem PySem.Spec L2 GenT
open PyProof.Rows hiding St
/-- what a generator's data stands for, as long as what was known is known -/
abbrev DatOk (Hb : Hp) (dat : Hp → Prop) : Prop := ∀ Hb' H', Sub Hb Hb' → Sub Hb' H' → dat H'
/-- what «yield from» walks -/
structure DYG (X : Cx) (Wx : WX) (P I : List Nat) (e : Expr) (t : TYg) (F : FA) (J : List Nat) : Prop where
  pe : YfG X e t
  ev : ∀ (W : Wd) (ρ : Env) (σ : St) (Hb H : Hp) (Q : WantY) (post : List D → Env → Prop) (xp : XP), EnvOk X.K W P I ρ σ Hb H → F ρ post xp → XOk X Wx W P σ xp →
    (∀ ds ρ' vs dat Hb' H', post ds ρ' → EnvOk X.K W P J ρ' σ Hb' H' → Sub Hb Hb' → IsL X.K Hb' vs ds → DatOk Hb' dat → Q vs dat H') → t σ H Q
/-- a generator's body -/
structure DGT (X : Cx) (P I : List Nat) (sts : List Stmt) (F : FA) : Prop where
  run : ∃ t, GT X sts t ∧ ∀ (W : Wd) (ρ : Env) (σ : St) (Hb H : Hp) (Q : WantY) (post : List D → Env → Prop), EnvOk X.K W P I ρ σ Hb H → F ρ post noX →
    (∀ ds ρ' σ' vs dat Hb' H', post ds ρ' → EnvOk X.K W P [] ρ' σ' Hb' H' → IsL X.K Hb' vs ds → DatOk Hb' dat → Q vs dat H') → t Q σ H
/-- an expression that gives a generator -/
structure DPY (X : Cx) (Wx : WX) (P I : List Nat) (k : Nat) (e : Expr) (t : TGY) (F : FA) (J : List Nat) : Prop where
  pe : PGY X k e t
  ev : ∀ (W : Wd) (ρ : Env) (σ : St) (Hb H : Hp) (Q : WantY) (post : List D → Env → Prop) (xp : XP), EnvOk X.K W P I ρ σ Hb H → F ρ post xp → XOk X Wx W P σ xp →
    (∀ ds ρ' vs dat Hb' H', post ds ρ' → EnvOk X.K W P J ρ' σ Hb' H' → Sub Hb Hb' → IsL X.K Hb' vs ds → DatOk Hb' dat → Q vs dat H') → t σ H Q
section
variable {X : Cx} {Wx : WX} {P I J J1 : List Nat} {a b e : Expr} {p pos yp : Pos} {tA : TA} {A : FA} {t : TYg} {F : FA}
end
section
variable {P : Program} {w : World} {K : PySem.W.Frag} {mg : Str → Option Value} {base : Heap}
end
section
variable {X : Cx} {Wx : WX} {P L I J : List Nat} {o tgt iter : Expr} {ta : TE} {Fo : FE} {k : Nat} {f C : Addr} {n m : Str} {G : DGen} {p pos pos' apos : Pos} {A : FA} {tg : TGY} {body : List Stmt} {B : FS} {g : FG} {ts : List Nat}
/-- no exception leaves the body -/
def SPo.qt (S : SPo) : SPo := { nx := S.nx, rt := S.rt, bk := S.bk, ct := S.ct, ex := fun _ _ => False }
@[simp ↓] theorem qt_nx (S : SPo) : S.qt.nx = S.nx := (rfl)
@[simp ↓] theorem qt_rt (S : SPo) : S.qt.rt = S.rt := (rfl)
@[simp ↓] theorem qt_bk (S : SPo) : S.qt.bk = S.bk := (rfl)
@[simp ↓] theorem qt_ct (S : SPo) : S.qt.ct = S.ct := (rfl)
@[simp ↓] theorem qt_ex (S : SPo) (e : Exc) (ρ : Env) : S.qt.ex e ρ = False := (rfl)
end
section
variable {X : Cx} {Wx : WX} {P L I J : List Nat} {k : Nat} {elt tgt iter : Expr} {ifs : List Expr} {scope : Scope} {own : List (Str × Nat)} {pos spos py : Pos} {tg : TGY} {g : TG} {tt : TT} {te : TE} {A : FA} {gd : FG} {T : FT} {E : FE} {ts : List Nat}
end
end DL

/-! DG93: repr of plain data with empty dicts in it. -/
namespace DL
open PySem L2
open PyProof.Rows hiding St
section
variable {X : Cx} {pins : List (Addr × Obj)} {σ : St} {H : Hp} {s : Shared}
end
section
variable {X : Cx} {K : PySem.W.Frag}
end
end DL

/-! DG94: yield from a list; list of a generator. -/
namespace GenT
open PySem PySem.Spec L2 GenW
open PyProof.Rows hiding St
open Sem (wp)
/-! ### the list's iterator -/
section
variable {prog : Program} {w : World} {A : Around} {E : Value → Shared → Prop} {s : Shared}
end
/-- what stands while a list is filled: j items are in it -/
structure Dr (P : Program) (w : World) (A : Around) (outer : List PySem.Env) (H H' : Hp) (sc : Shared) (S a it : Addr) (g : Nat) (dat : Hp → Prop) (xs : List V) (St : Nat → Heap → Prop) (j : Nat) (s : Shared) : Prop where
  slp : Slp P w A.in1.in1 a it g xs St j s
  nl : s.heap.NoLimit
  bare : AllBare s.gens
  os : s.os = sc.os
  un : Un (frs outer) [] H H' sc.heap s.heap
  hok : HOk P w H' s.heap
  lst : ∃ acc c, s.heap.get? S = some (lstObj acc c) ∧ Vals (xs.take j) acc.toList
end GenT

/-! DG95: lists of generators over data; calls of generator defs; statements that are not reached. -/
namespace DL
open PySem PySem.Spec L2 GenT
open PyProof.Rows hiding St
section
variable {X : Cx} {Wx : WX} {P I J : List Nat} {e : Expr} {es sts : List Expr} {body : List Stmt} {te : TE} {F : FE} {A : FA} {k n : Nat} {f : Addr} {x nm : Str} {p pos : Pos} {G : DGen} {tg : TGY} {sl : List (Option Nat)} {tA : TA} {Ao : Env → (Env → Env → Prop) → XP → Prop}
end
end DL

/-! DG96: x(lambda: e): the lambda is made, its maker's table told; the callee asks it. -/
namespace DL
open PySem PySem.Spec L2 LamX
open PyProof.Rows hiding St

/-- what a lambda gives, by what is wanted of its value, of its exception -/
abbrev Hole := (D → Prop) → (Exc → Prop) → Prop
/-- what the making of a lambda asks of the part: cd the maker's code, P its table, q the lambda's name -/
structure TabX (K : PySem.W.Frag) (mg : Str → Option Value) (cd : Value) (c P : Addr) (q : Str) : Prop where
  code : cd = .ref c
  hd : PySem.W.codeHdIn K c P = true
  mem : (P, q) ∈ TK K
  uq : ∀ p ∈ TK K, p.1 = P → p.2 = q
  bm : ∃ (bm : Addr) (ob : Obj), mg "__builtins__" = some (.ref bm) ∧ bm ≠ builtinsNs ∧ bm ≠ mainGlobals ∧ bm ≠ P ∧ K.lookup bm = some ob ∧ ob.cls = .type "module" ∧ ob.dict = some builtinsNs ∧ ob.data = .plain
  gP : mainGlobals ≠ P
theorem TabX.tb {K : PySem.W.Frag} {mg : Str → Option Value} {cd : Value} {c P : Addr} {q : Str} {base : Heap} (T : TabX K mg cd c P q) (k : K.In base) : TabB base mg c P := by
  obtain ⟨bm, ob, b1, b2, b3, b4, b5, b6, b7, b8⟩ := T.bm
  exact ⟨PySem.W.codeHd_of_K k T.hd, ⟨bm, ob, b1, b2, b3, b4, k _ _ b5, b6, b7, b8⟩, T.gP⟩

/-! ### the environment when a table grows -/
section
variable {K : PySem.W.Frag} {W : Wd} {P I : List Nat} {ρ : Env} {σ : St} {Hb H : Hp} {p : Addr} {ps qs : Array Value}
end
section
variable {X : Cx} {pins : List (Addr × Obj)} {σ : St} {H Hb : Hp} {s : Shared} {W : Wd} {J I0 : List Nat} {ρ : Env}
end
end DL

/-! DG97: the callee asks the lambda; the call that hands it over. -/
namespace DL
open PySem PySem.Spec L2 LamX
open PyProof.Rows hiding St

section
variable {X : Cx} {pins : List (Addr × Obj)} {σ : L2.St} {H : Hp} {s : Shared}
end
/-- asking, over data -/
def fAct (i : Nat) (f : Addr) (φ : Hp → Prop) (h : Hole) : FE := fun ρ post xp => get ρ i = some (.lam f φ) ∧ h (fun d => post d ρ) (fun e => xp e ρ)
@[simp ↓] theorem fAct_ap (i f φ h) (ρ : DL.Env) (post : Post) (xp : XP) : fAct i f φ h ρ post xp = (get ρ i = some (.lam f φ) ∧ h (fun d => post d ρ) (fun e => xp e ρ)) := (rfl)
/-- what the callee may rely on -/
def ActOk (Z : Cx) (i : Nat) (a : Str) (f : Addr) (φ : Hp → Prop) (h : Hole) : Prop := ∀ (W : WX) (pn : List (Addr × Obj)) (xe : Value → Shared → Prop), Takes (Z.tr pn xe) W → ∀ (P I : List Nat) (p1 p2 : Pos), i ∉ P → i ∉ I → (∀ j ∈ I, j ∉ P) →
  ∃ t, DE (Z.tr pn xe) W P I (.Call (.Name a p1) [] [] p2) t (fAct i f φ h) I
/-- what is known of a lambda -/
def LamF (c' : Addr) (q : Str) (Hb0 : Hp) : Hp → Prop := fun Hx => Hx c' = some (CodeO c' q) ∧ Sub Hb0 Hx
theorem LamF.mono {c' : Addr} {q : Str} {Hb0 Hx : Hp} (h : LamF c' q Hb0 Hx) : ∀ H', Sub Hx H' → LamF c' q Hb0 H' := fun H' s => ⟨s.at h.1, h.2.trans s⟩
section
variable {X : Cx} {pins : List (Addr × Obj)} {σ : L2.St} {H Hb : Hp} {s : Shared} {W0 : Wd} {P0 I0 : List Nat} {ρ : DL.Env}
end
/-! ### a def that is handed a lambda -/
section
variable {P : Program} {w : World} {K : PySem.W.Frag} {mg : Str → Option Value} {base : Heap}
/-- its promise: GT, by the lambda's object, what is known of it, what it gives -/
def FnL (P : Program) (w : World) (K : PySem.W.Frag) (mg : Str → Option Value) (base : Heap) (k : Nat) (g : Addr) (qual : Str) (sc : Scope) (N : List Str) (a : Str) (GT : Addr → (Hp → Prop) → Hole → DFn) : Prop :=
  ∃ cdv : Value, ∀ (A : Around) (frs_ : List PySem.Env) (s : Shared) (H : Hp) (Q : VK) (E : XK) (f : Addr) (φ : Hp → Prop) (h : Hole), Room k A → A.guards = some [] → Env0 P w K mg base A frs_ s H →
    ActOk (cxOf (L2.CX P w) P w K mg base N qual sc g cdv A frs_ s H E) 0 a f φ h → spD K 1 [] (GT f φ h) [.ref f] H Q E →
    codeAny (model P w) A (.call (.ref g) ⟨[.ref f], []⟩) (CR (L2.CX P w) frs_ P w H s Q E) s
theorem FnL.mono {j k : Nat} {g : Addr} {qual a : Str} {sc : Scope} {N : List Str} {GT : Addr → (Hp → Prop) → Hole → DFn} (F : FnL P w K mg base j g qual sc N a GT) (h : j ≤ k) : FnL P w K mg base k g qual sc N a GT := by
  obtain ⟨cdv, F⟩ := F
  exact ⟨cdv, fun A fr s H Q E f φ hh r => F A fr s H Q E f φ hh (r.mono h)⟩
end
section
variable {X : Cx} {Wx : WX} {P I : List Nat}
end
end DL

/-! DG98: a def whose code object is known; the law's end with tables. -/
namespace DL
open PySem L2
open PyProof.Rows hiding St
section
variable {P : Program} {w : World} {K : PySem.W.Frag} {mg : Str → Option Value} {base : Heap}
end
/-- the law's call; tables may stand -/
theorem law_callGT {P : Program} {w : World} {K : PySem.W.Frag} {mg mb : Str → Option Value} {k : Nat} {fa a : Addr} {sp : Sp} {z : Shared} {vs : List Value} {ns : List Int}
    (kin : K.In z.heap) (tabs : ∀ t ∈ TKc K, z.heap.get? t.1 = some { cls := .none, data := .fields #[] } ∧ K.lookup t.1 = none ∧ PySem.W.codeHdIn K t.2.2 t.1 = true)
    (glob : z.heap.Ns mainGlobals mg) (bns : z.heap.Ns builtinsNs mb) (boot : ∀ x : Str, x ≠ "__name__" → mb x = bootBuiltins x) (lim : z.heap.NoLimit) (gens : z.gens = #[])
    (at_ : z.heap.get? a = some { cls := .type "list", data := .seq vs.toArray }) (num : IntsAre vs ns) (short : ns.length ≤ sizeLine) (room : Room k callerA)
    (F : ∀ base : Heap, K.In base → base.Ns mainGlobals mg → FnG P w K mg base k fa sp)
    (hsp : ∀ H : Hp, TabsAt K H → SqL K H a (ns.map V.int) → sp [.ref a] H (fun v _ => v = .bl true) fun _ _ _ => False) :
    codeAny (model P w) callerA (.call (.ref fa) ⟨[.ref a], []⟩) (fun r s2 => r = .ok (.ret (.bool true)) ∧ OldK z.heap s2.heap ∧ s2.os = z.os ∧ AllBare s2.gens) z := by
  classical
  have rel := vals_ints num
  let isT : Addr → Prop := fun b => ∃ t ∈ TKc K, t.1 = b
  have tabO : ∀ {b}, isT b → z.heap.get? b = some { cls := .none, data := .fields #[] } ∧ K.lookup b = none := fun {b} ⟨t, ht, e⟩ => by subst e; exact ⟨(tabs t ht).1, (tabs t ht).2.1⟩
  have aT : ¬ isT a := fun h => by
    have h := (tabO h).1
    rw [at_] at h; cases h
  suffices main : ∀ H : Hp, (∀ b, isT b → H b = some (.tbl #[])) → (∀ b, H b = none ∨ isT b ∨ ∃ ob xs, H b = some (.frz ob (.lst xs))) → SqL K H a (ns.map V.int) → HOk P w H z.heap → (∀ b, H b ≠ none → b = a ∨ isT b) → (H a ≠ none → K.lookup a = none) →
      codeAny (model P w) callerA (.call (.ref fa) ⟨[.ref a], []⟩) (fun r s2 => r = .ok (.ret (.bool true)) ∧ OldK z.heap s2.heap ∧ s2.os = z.os ∧ AllBare s2.gens) z by
    have okT : ∀ {H : Hp} {b}, isT b → ObjOk P w H z.heap b (.tbl #[]) := fun {H b} h => (tabO h).1
    cases look : K.lookup a with
    | some o =>
      have eo := kin a o look
      rw [at_] at eo; cases eo
      let H0 : Hp := fun b => if isT b then some (.tbl #[]) else none
      have hT : ∀ {b}, isT b → H0 b = some (.tbl #[]) := fun h => if_pos h
      have hn : ∀ {b}, ¬ isT b → H0 b = none := fun h => if_neg h
      refine main H0 (fun b h => hT h) (fun b => ?_) (.inr ⟨_, vs.toArray, _, look, rfl, rfl, rfl, by rw [List.size_toArray, num.length]; exact short, by simpa using rel⟩) (fun b u q => ?_) (fun b q => ?_) fun q => absurd (hn aT) q
      · by_cases h : isT b
        · exact .inr (.inl h)
        · exact .inl (hn h)
      · by_cases h : isT b
        · rw [hT h] at q; cases q; exact okT h
        · rw [hn h] at q; cases q
      · by_cases h : isT b
        · exact .inr h
        · exact absurd (hn h) q
    | none =>
      let H0 : Hp := fun b => if isT b then some (.tbl #[]) else if b = a then some (.frz { cls := .type "list", data := .seq vs.toArray } (.lst (ns.map V.int))) else none
      have hT : ∀ {b}, isT b → H0 b = some (.tbl #[]) := fun h => if_pos h
      have ha : H0 a = some (.frz { cls := .type "list", data := .seq vs.toArray } (.lst (ns.map V.int))) := by
        show (if isT a then _ else _) = _
        rw [if_neg aT, if_pos rfl]
      have hn : ∀ {b}, ¬ isT b → b ≠ a → H0 b = none := fun {b} h q => by
        show (if isT b then _ else _) = _
        rw [if_neg h, if_neg q]
      refine main H0 (fun b h => hT h) (fun b => ?_) (.inl (.inr ⟨_, ha⟩)) (fun b u q => ?_) (fun b q => ?_) fun _ => look
      · by_cases h : isT b
        · exact .inr (.inl h)
        · by_cases e : b = a
          · subst e; exact .inr (.inr ⟨_, _, ha⟩)
          · exact .inl (hn h e)
      · by_cases h : isT b
        · rw [hT h] at q; cases q; exact okT h
        · by_cases e : b = a
          · subst e
            rw [ha] at q; cases q
            exact ⟨at_, by rw [List.length_map]; exact short, vs, _, rel, at_⟩
          · rw [hn h e] at q; cases q
      · by_cases h : isT b
        · exact .inr h
        · exact .inl (Classical.byContradiction fun e => q (hn h e))
  intro H hTb only sq ok own nk
  have free : ∀ {b : Addr} {o : Obj}, z.heap.get? b = some o → (∀ n, o.data ≠ .seq vs.toArray n) → o.data ≠ .fields #[] → H b = none := fun {b o} e d d2 => by
    cases q : H b with
    | none => rfl
    | some u =>
      rcases own b (by rw [q]; simp) with e' | e'
      · subst e'
        rw [at_] at e; cases e
        exact absurd rfl (d _)
      · rw [(tabO e').1] at e; cases e
        exact absurd rfl d2
  have dictNs : ∀ {b : Addr} {m : Str → Option Value}, z.heap.Ns b m → (hidT z.heap H).Ns b m := fun {b m} ⟨o, es, ep, e, d, r⟩ => ⟨o, es, ep, hidT_get e (free e (fun n q => by rw [d] at q; cases q) fun q => by rw [d] at q; cases q), d, r⟩
  have kb : K.In (hidT z.heap H) := fun b o e => hidT_get (kin b o e) (by
    cases q : H b with
    | none => rfl
    | some u =>
      rcases own b (by rw [q]; simp) with e' | e'
      · subst e'
        rw [nk (by rw [q]; simp)] at e; cases e
      · rw [(tabO e').2] at e; cases e)
  obtain ⟨mc, l1, l2⟩ := lim
  have env : Env0 P w K mg (hidT z.heap H) callerA [] z H := ⟨rfl, ⟨kb, dictNs glob, ⟨mb, dictNs bns, boot⟩, mc, dictNs l1, l2⟩, fun _ _ e => of_hidT e, Nat.le_of_eq (hidT_size _ _), trivial, fun b q => absurd (show b ∈ ([] : List Addr) from q) List.not_mem_nil, ok, .of_eq gens⟩
  have tA : TabsAt K H := fun p hp => by
    obtain ⟨t, ht, rfl⟩ := List.mem_map.mp hp
    exact hTb _ ⟨t, ht, rfl⟩
  refine codeAny_mono (F _ kb (dictNs glob) callerA [] z H [.ref a] [.ref a] _ _ room rfl env (.cons rfl .nil) (hsp H tA sq)) fun res s2 q => ?_
  match res, q with
  | .error er, q => exact (cx_no q).elim
  | .ok .next, q => exact q.elim
  | .ok .brk, q => exact q.elim
  | .ok .cont, q => exact q.elim
  | .ok (.ret u), ⟨v, H2, os, bare, un, ok2, rv, ev⟩ =>
    have ev : v = .bl true := ev
    subst ev
    have eu : u = Value.bool true := rv
    subst eu
    have still : ∀ b o, ¬ isT b → z.heap.get? b = some o → s2.heap.get? b = some o := fun b o nT e => by
      cases q : H b with
      | none => exact un.keep b o e q (fun n => absurd (show b ∈ ([] : List Addr) from n) List.not_mem_nil) (fun n => absurd n List.not_mem_nil)
      | some y =>
        rcases only b with r | r | ⟨ob, xs, r⟩
        · rw [q] at r; cases r
        · exact absurd r nT
        · obtain ⟨e1, _⟩ := ok b _ r
          obtain ⟨e2, _⟩ := ok2 b _ (un.frzs b ob _ r)
          rw [e] at e1; cases e1
          exact e2
    have more : ∀ b, isT b → ∃ m : Array Value, s2.heap.get? b = some { cls := .none, data := .fields m } := fun b h => by
      obtain ⟨m, e⟩ := un.tbls b #[] (hTb b h)
      exact ⟨_, ok2 b _ e⟩
    refine ⟨rfl, ⟨fun b o e => ?_, fun b o e => ?_⟩, os, bare⟩
    · by_cases h : isT b
      · obtain ⟨m, em⟩ := more b h
        obtain ⟨t, ht, rfl⟩ := h
        obtain ⟨e0, _, hc⟩ := tabs t ht
        have cT := ((PySem.W.codeHd_of_K kin hc).tab e0).isCodeTable
        rw [e0] at e; cases e
        exact .inr (.inl ⟨cT, rfl, #[], m, rfl, by rw [Array.empty_append]; exact em⟩)
      · exact .inl (still b o h e)
    · by_cases h : isT b
      · obtain ⟨m, em⟩ := more b h
        exact ⟨_, em⟩
      · exact ⟨o, still b o h e⟩
end DL

/-! DG99: a nested dict that nothing writes to any more, as plain data. -/
namespace DL
open PySem L2
open PyProof.Rows hiding St
section
variable {X : Cx} {Wx : WX} {P I : List Nat} {pos : Pos}
end
end DL

/-! DG100: try: .. except C as e: v = isinstance(e, D) -/
namespace DL
open PySem L2
open PyProof.Rows hiding St
section
variable {X : Cx} {Wx : WX} {P L I : List Nat} {pos : Pos} {n : Str}
end
end DL

/-! DG101: tuple(xs) of a list as a tuple known to have no dict of its own; dict(t) of such a tuple of pairs. -/
namespace DL
open PySem L2
open PyProof.Rows hiding St
def rTupC (K : PySem.W.Frag) : List V → Hp → VK → Prop := fun xs H Q => ∃ p ys, xs = [.ref p] ∧ SqL K H p ys ∧ ∀ (l : Addr) (o : Obj), o.dict = none → H l = none → Q (.ref l) (upd H l (.frz o (.tup ys)))
theorem call_tupC {X : Cx} : CallR X (.type "tuple") (rTupC X.K) := by
  intro pins s σ H xs us Q I r h
  obtain ⟨p, ys, rfl, hq, q⟩ := h
  obtain ⟨u, rfl, rx⟩ := vals1 r
  cases rx
  obtain ⟨its, r', pl, hz⟩ := I.list hq
  have hlen := r'.length
  refine call_tuple_list pl.isList (fun h' kp => ?_) (by simp only [List.size_toArray] <;> omega)
  have I1 : Inv X pins σ H { s with heap := h' } := I.kept (t' := s.toks) kp
  have I2 : Inv X pins σ (upd H h'.objs.size (.frz { cls := .type "tuple", data := .seq its.toArray } (.tup ys))) { s with heap := h'.push { cls := .type "tuple", data := .seq its.toArray } } :=
    I1.laid (t' := s.toks) (fun b o e => Heap.get?_push_of_some _ e) (Nat.le_refl _) (show ObjOk X.prog X.w _ _ _ (.frz _ (.tup ys)) from ⟨Heap.get?_push_size _ rfl, hz, its, r', IsTup.new _ _⟩)
  exact ⟨.ref h'.objs.size, _, I2, rfl, q _ _ rfl (I1.hok.fresh (Nat.le_refl _))⟩
def gTupC : GN := fun xs k => ∃ d es, xs = [d] ∧ lstD d = some es ∧ k (.ktp es)
@[simp ↓] theorem gTupC_lst (es : List D) (k : D → Prop) : gTupC [.lst es] k = k (.ktp es) :=
  propext ⟨fun ⟨_, _, e, h, r⟩ => by cases e; cases h; exact r, fun r => ⟨_, _, rfl, rfl, r⟩⟩
theorem rv_tupC {K : PySem.W.Frag} : RVN K (rTupC K) gTupC := fun Hb H xs ds k Q s l g q => by
  obtain ⟨d, es, rfl, e, g⟩ := g
  obtain ⟨v, rfl, i⟩ := o_one l
  obtain ⟨a, vs, rfl, h, m⟩ := o_lstD s i e
  exact ⟨a, vs, rfl, h, fun p o ho hp => q _ _ _ _ g (.one hp) (.ktp (.inl ⟨o, upd_same, ho⟩) (m.mono (Sub.new (s.none hp))))⟩
theorem cq_real {X : Cx} {pins : List (Addr × Obj)} {σ : L2.St} {H : Hp} {s : Shared} {a : Addr} {vs : List V} (I : Inv X pins σ H s) (h : CqT X.K H a vs) : ∃ its : List Value, Vals vs its ∧ PlainSeq "tuple" s.heap a its.toArray := by
  rcases h with ⟨o, h, ho⟩ | ⟨o, its, n, hk, hc, hd, hs, hz, r⟩
  · have ok : ObjOk X.prog X.w H s.heap a (.frz o (.tup vs)) := I.hok a _ h
    obtain ⟨hg, hz, its, r, o', hg', hc, n, hd⟩ := ok
    rw [hg] at hg'
    cases hg'
    exact ⟨its, r, o, n, hg, hc, ho, hd⟩
  · exact ⟨its.toList, r, o, n, I.kIn a o hk, hc, hd, by simpa using hs⟩
def rDictK (K : PySem.W.Frag) : List V → Hp → VK → Prop := fun xs H Q => ∃ a vs ps, xs = [.ref a] ∧ CqT K H a vs ∧ PrsV H vs ps ∧ vs.length ≤ 1000000 ∧ ∀ p, H p = none → Q (.ref p) (upd H p (.dT (putAll [] ps)))
theorem call_dictK {X : Cx} (hu : X.A.units + 2 < cLine) (hc : X.calm = true) : CallR X (.type "dict") (rDictK X.K) := by
  intro pins s σ H xs us Q I r q
  obtain ⟨a, vs, ps, rfl, hq, hp, hl, q⟩ := q
  obtain ⟨u, rfl, ra⟩ := vals1 r
  cases ra
  obtain ⟨its, rv, pl⟩ := cq_real I hq
  obtain ⟨ts, qs, e, l, pr, kk, ac⟩ := prs_real I hp rv
  have lp := hp.len
  have lv := rv.length
  subst e
  rw [List.length_map] at lv
  have lq : qs.length ≤ 1000000 := by omega
  refine call_dict_pairsH (knd := tupleKind (mixKind X.prog X.w)) (ps := qs) (PairArg.tuple a (ts.map Value.ref).toArray (fun j => ts.getD j 0) (qs.map fun q => (Value.ref q.2.1, q.2.2))) (I.ok.hd hc) ?_ ⟨?_, ?_, fun j k v hj => ?_⟩ ⟨by simp, fun i key v hj => ?_⟩ ?_ ?_ fun h' tk hd hk => ?_
  · show X.A.units + 1 + 1 < cLine
    omega
  · exact pl
  · simp [l]
  · rw [List.getElem?_map] at hj
    cases eq : qs[j]? with
    | none => rw [eq] at hj; simp at hj
    | some q =>
      rw [eq] at hj
      simp at hj
      obtain ⟨rfl, rfl⟩ := hj
      have jl : j < ts.length := by rw [l]; exact (List.getElem?_eq_some_iff.mp eq).1
      have et : ts[j]? = some (ts.getD j 0) := by rw [List.getD_eq_getElem?_getD, List.getElem?_eq_getElem jl]; rfl
      exact ⟨by rw [List.getElem?_toArray, List.getElem?_map, et]; rfl, pr j _ q et eq⟩
  · have hj : (qs.map fun q => (Value.ref q.2.1, q.2.2))[i]? = some (key, v) := hj
    rw [List.getElem?_map] at hj
    cases eq : qs[i]? with
    | none => rw [eq] at hj; simp at hj
    | some q =>
      rw [eq] at hj
      simp at hj
      obtain ⟨rfl, rfl⟩ := hj
      exact ⟨q.1, q.2.1, rfl, rfl⟩
  · intro h' hk x hx
    exact tupleKind_stays.stays (fun b o _ _ e _ => hk b o (Nat.ne_of_lt (Heap.lt_size e)) (fun z => by cases z) e) (kk x hx)
  · rw [List.length_map]; exact Nat.le_trans lq (by decide)
  · have kt0 := ac [] [] .nil
    have hD := I.hok.fresh (Nat.le_refl s.heap.objs.size)
    have kt : L2.KT (upd H s.heap.objs.size (.dT (putAll [] ps))) (putAll [] ps) (storedAllH [] qs) := kt0.keeps fun c ys ec => by
      have cD : c ≠ s.heap.objs.size := fun z => by rw [z, hD] at ec; cases ec
      rw [upd_ne cD]; exact ec
    have hk2 : ∀ b u, s.heap.get? b = some u → h'.get? b = some u := fun b u e => hk b u (fun z => by cases z) e
    have nsys : (s.heap.objs.size == sysModules) = false := beq_eq_false_iff_ne.mpr (Ne.symm (Nat.ne_of_lt I.big))
    obtain ⟨o, es, ep, w0, w1, w2, w3, w4, w5⟩ := hd
    have lz : (putAll [] ps).length ≤ sizeLine := by
      have := putAll_len ps []
      simp only [List.length_nil, Nat.zero_add] at this
      exact Nat.le_trans this (Nat.le_trans (by omega) (by decide : (1000000 : Nat) ≤ sizeLine))
    exact ⟨.ref s.heap.objs.size, _, I.laid (a := s.heap.objs.size) (o := .dT (putAll [] ps)) (t' := tk) hk2 (Nat.le_refl _) ⟨lz, nsys, storedAllH [] qs, kt, o, es, ep, w0, w1, w2, w3, w5⟩, rfl, q _ hD⟩
/-- dict(t), t a tuple made by tuple(list) -/
def gDictK : GN := fun xs k => ∃ es pd, xs = [.ktp es] ∧ prsD es = some pd ∧ es.length ≤ 1000000 ∧ k (.dt (putAllD [] pd))
theorem o_ktp {K : PySem.W.Frag} {Hb H : Hp} (s : Sub Hb H) {v : V} {es : List D} (h : IsO K Hb H v (.ktp es)) : ∃ a vs, v = .ref a ∧ CqT K H a vs ∧ IsL K Hb vs es := by
  have i : Is K Hb v (.ktp es) := h.elim id fun ⟨_, _, c⟩ => c.elim
  cases i with
  | ktp hc lc => exact ⟨_, _, rfl, s.cqT hc, lc⟩
theorem rv_dictK {K : PySem.W.Frag} : RVN K (rDictK K) gDictK := fun Hb H xs ds k Q s l g q => by
  obtain ⟨es, pd, rfl, ep, hl, g⟩ := g
  obtain ⟨v, rfl, i⟩ := o_one l
  obtain ⟨a, vs, rfl, h, m⟩ := o_ktp s i
  obtain ⟨ps, h1, h2, h3⟩ := prs_of s m ep
  obtain ⟨c1, c2⟩ := putAll_rel (acc := []) (ad := []) h2 h3 rfl .nil
  exact ⟨a, vs, ps, rfl, h, h1, by rw [m.length]; exact hl, fun p hp => q _ _ _ _ g (.one hp) (.dt (.inl upd_same) c1 (c2.mono (Sub.new (s.none hp))))⟩
@[simp ↓] theorem gDictK_ktp (es : List D) (k : D → Prop) : gDictK [.ktp es] k = ∃ pd, prsD es = some pd ∧ es.length ≤ 1000000 ∧ k (.dt (putAllD [] pd)) :=
  propext ⟨fun ⟨_, pd, e, h, r⟩ => by cases e; exact ⟨pd, h, r⟩, fun ⟨pd, r⟩ => ⟨_, pd, rfl, r⟩⟩
end DL

/-! DG102: a tuple times a whole number, 0 as well. -/
namespace DL
open PySem L2
open PyProof.Rows hiding St
theorem tuple_mul0 (l : Addr) (items : Array Value) (n : Nat) (dd : Option Addr) (sl : Array (Option Value)) (u : Tok) (c1 : (items.isEmpty || (0 : Int) == 1) = false) :
    Meets (Builtin.«tuple.__mul__» ⟨[.ref l, .int 0 u], []⟩) (fun _ R s => s.heap.get? l = some { cls := .type "tuple", dict := dd, data := .seq items n, slots := sl } ∧
      R (.ok (.ret (Value.ref s.heap.objs.size))) { s with heap := s.heap.push { cls := Value.type "tuple", data := Data.seq #[] }, toks := s.toks }) :=
  .of_wp fun prog w A R s h => by
    obtain ⟨hp, g, d, tk, os⟩ := s
    obtain ⟨hl, h⟩ := h
    have f1 := AutoSeq1.idx_int
    wp_walk using wpAny_loadPart' hl
    repeat (first
      | (refine wpAny_ite_false (decide_eq_false (by rw [c1]; exact Bool.false_ne_true)) ?_; wp_walk using wpAny_loadPart' hl)
      | (refine wpAny_ite_true (by simp) ?_; wp_walk using wpAny_loadPart' hl)
      | (refine wpAny_ite_false (by simp) ?_; wp_walk using wpAny_loadPart' hl))
    exact ⟨_, rfl, h⟩
def rRep0 (K : PySem.W.Frag) : R2 := fun x y H Q => ∃ l xs, x = .ref l ∧ y = .int 0 ∧ SqT K H l xs ∧ xs ≠ [] ∧ ∀ p, H p = none → Q (.ref p) (upd H p (.tup []))
section
variable {X : Cx}
theorem op_rep0 : OpR X (binaryOp .Mult) (rRep0 X.K) := by
  intro pins s σ H x y v u Q I rx ry h
  obtain ⟨l, xs, rfl, rfl, hT, hne, q⟩ := h
  cases rx
  obtain ⟨t, rfl⟩ := ry
  obtain ⟨its, r, ⟨⟨cls, dd, data, sl⟩, ho, hc, n, hd⟩, hs⟩ := I.tuple hT
  simp only at hc hd
  subst hc hd
  have hle : its.length = xs.length := r.length.symm
  have hn : its ≠ [] := fun e => hne (by
    rw [e] at hle
    exact List.eq_nil_of_length_eq_zero hle.symm)
  have hi : its.toArray.isEmpty = false := by
    cases its with
    | nil => exact absurd rfl hn
    | cons a b => rfl
  have c1 : (its.toArray.isEmpty || (0 : Int) == 1) = false := by
    rw [hi, Bool.false_or]; rfl
  refine wpAny_binaryOp_repeat_ref (T := "tuple") (U := "int") (by decide) ⟨_, ho, rfl⟩ (fun s' => typeIs_int s' 0 t) noFill_tuple_mul F.fills_int_mul F.slot_int_rmul repeat_tuple F.slot_int_index.lookup
    (call_meets F.slot_int_rmul (typeIs_int s 0 t) F.entry_int_rmul (F.args_int_rmul_2 _ _) (int_rmul_tuple 0 t l its.toArray n dd sl)
      ⟨ho, rfl, ⟨_, ho, rfl⟩, call_meets F.slot_tuple_mul ⟨_, ho, rfl⟩ F.entry_tuple_mul (F.args_tuple_mul_2 _ _) (tuple_mul0 l its.toArray n dd sl t c1) ⟨ho, ?_⟩⟩)
  refine ⟨.ref s.heap.objs.size, _, I.laid (t' := s.toks) (o := .tup []) (fun b ob q => Heap.get?_push_of_some _ q) (Nat.le_refl _) ?_, rfl, q _ (I.hok.fresh (Nat.le_refl _))⟩
  exact ⟨Nat.zero_le _, [], .nil, IsTup.new _ _⟩
end
abbrev rMulZ (K : PySem.W.Frag) : R2 := fun x y H Q => rMulU K x y H Q ∨ rRep0 K x y H Q
theorem op_mulZ {X : Cx} : OpR X (binaryOp .Mult) (rMulZ X.K) := op_mulU.or op_rep0
/-- a tuple that is not empty, so many times -/
def gMulZ : G2 := fun x y k => ∃ ds j, x = .tup ds ∧ y = .int j ∧ (ds ≠ [] ∧ ds.length ≤ 1000 ∧ 0 ≤ j ∧ j ≤ 1000) ∧ k (.tup (List.replicate j.toNat ds).flatten)
@[simp ↓] theorem gMulZ_ap (ds : List D) (j : Int) (k : D → Prop) : gMulZ (.tup ds) (.int j) k = ((ds ≠ [] ∧ ds.length ≤ 1000 ∧ 0 ≤ j ∧ j ≤ 1000) ∧ k (.tup (List.replicate j.toNat ds).flatten)) :=
  propext ⟨fun ⟨_, _, e, e', h⟩ => by cases e; cases e'; exact h, fun h => ⟨_, _, rfl, rfl, h⟩⟩
theorem rv_mulZ {K : PySem.W.Frag} : RV2 K (rMulZ K) gMulZ := fun Hb H x y dx dy k Q s ix iy g q => by
  obtain ⟨ds, j, rfl, rfl, ⟨g1, g2, g3, g4⟩, g5⟩ := g
  by_cases hj : j = 0
  · subst hj
    obtain ⟨i1, a, vs, e1, h1, l1⟩ := o_tupD s ix rfl
    obtain rfl := o_int iy
    have hne : vs ≠ [] := fun z => g1 (List.eq_nil_of_length_eq_zero (by rw [← l1.length, z]; rfl))
    exact .inr ⟨a, vs, e1, rfl, h1, hne, fun p hp => q _ _ _ _ g5 (.one hp) (.tup upd_same .nil)⟩
  · exact .inl (rv_mul Hb H x y _ _ k Q s ix iy ⟨⟨g1, g2, by omega, g4⟩, g5⟩ q)
end DL

/-! DP1: places with counts, in plain Lean: merged, sorted, looked up, summed. -/
namespace DL
abbrev Pt := Int × Int
abbrev Cn := List Int
abbrev Pc := Pt × Cn
def ltP (p q : Pt) : Prop := p.1 < q.1 ∨ (p.1 = q.1 ∧ p.2 < q.2)
instance (p q : Pt) : Decidable (ltP p q) := by unfold ltP; infer_instance
theorem ltP.irr {p : Pt} (h : ltP p p) : False := by unfold ltP at h; omega
theorem ltP.tr {p q r : Pt} (h : ltP p q) (k : ltP q r) : ltP p r := by unfold ltP at *; omega
theorem ltP.tri (p q : Pt) : ltP p q ∨ p = q ∨ ltP q p := by
  by_cases e : p = q
  · exact .inr (.inl e)
  · have : p.1 ≠ q.1 ∨ p.2 ≠ q.2 := by
      by_cases a : p.1 = q.1
      · exact .inr fun b => e (Prod.ext a b)
      · exact .inl a
    unfold ltP; omega
/-- counts added -/
def addC (a b : Cn) : Cn := List.zipWith (· + ·) a b
def zero (n : Nat) : Cn := List.replicate n 0
theorem addC_len {a b : Cn} {n : Nat} (h : a.length = n) (k : b.length = n) : (addC a b).length = n := by unfold addC; simp [h, k]
theorem zero_len (n : Nat) : (zero n).length = n := by simp [zero]
theorem addC_get {a b : Cn} {n : Nat} (h : a.length = n) (k : b.length = n) (j : Nat) : (addC a b).getD j 0 = a.getD j 0 + b.getD j 0 := by
  unfold addC
  rw [List.getD_eq_getElem?_getD, List.getD_eq_getElem?_getD, List.getD_eq_getElem?_getD, List.getElem?_zipWith]
  by_cases hj : j < n
  · rw [List.getElem?_eq_getElem (by omega), List.getElem?_eq_getElem (by omega)]; rfl
  · rw [List.getElem?_eq_none (by omega), List.getElem?_eq_none (by omega)]; rfl
theorem zero_get (n j : Nat) : (zero n).getD j 0 = 0 := by
  unfold zero
  rw [List.getD_eq_getElem?_getD]
  by_cases hj : j < n
  · rw [List.getElem?_eq_getElem (by simpa using hj)]; simp
  · rw [List.getElem?_eq_none (by simpa using hj)]; rfl
theorem cn_ext {a b : Cn} {n : Nat} (h : a.length = n) (k : b.length = n) (e : ∀ j, j < n → a.getD j 0 = b.getD j 0) : a = b := by
  refine List.ext_getElem (by omega) fun j h1 h2 => ?_
  have := e j (by omega)
  rw [List.getD_eq_getElem?_getD, List.getD_eq_getElem?_getD, List.getElem?_eq_getElem h1, List.getElem?_eq_getElem h2] at this
  exact this
theorem zero_add {c : Cn} {n : Nat} (h : c.length = n) : addC (zero n) c = c :=
  cn_ext (addC_len (zero_len n) h) h fun j _ => by rw [addC_get (zero_len n) h, zero_get]; omega
theorem add_zero {c : Cn} {n : Nat} (h : c.length = n) : addC c (zero n) = c :=
  cn_ext (addC_len h (zero_len n)) h fun j _ => by rw [addC_get h (zero_len n), zero_get]; omega
/-! ### lists of places with counts -/
def look (L : List Pc) (p : Pt) : Option Cn := (L.find? fun q => decide (q.1 = p)).map (·.2)
def putP (L : List Pc) (p : Pt) (c : Cn) : List Pc := if (L.any fun q => decide (q.1 = p)) = true then L.map fun q => if q.1 = p then (q.1, c) else q else L ++ [(p, c)]
/-- the counts at a place -/
def at_ (n : Nat) (L : List Pc) (p : Pt) : Cn := (look L p).getD (zero n)
/-- the sum of all pieces at a place -/
def sumAt (n : Nat) (ps : List Pc) (p : Pt) : Cn := ps.foldl (fun a q => if q.1 = p then addC a q.2 else a) (zero n)
def WF (n : Nat) (L : List Pc) : Prop := ∀ q ∈ L, q.2.length = n
def nz (c : Cn) : Bool := c.any fun i => i != 0
theorem look_nil (p : Pt) : look [] p = none := rfl
theorem look_cons (q : Pc) (L : List Pc) (p : Pt) : look (q :: L) p = if q.1 = p then some q.2 else look L p := by
  unfold look
  by_cases e : q.1 = p
  · simp [List.find?_cons, e]
  · simp [List.find?_cons, e]
theorem look_append (L M : List Pc) (p : Pt) : look (L ++ M) p = (look L p).or (look M p) := by
  induction L with
  | nil => simp [look_nil]
  | cons q L ih =>
    rw [List.cons_append, look_cons, look_cons, ih]
    split <;> simp
theorem look_isSome (L : List Pc) (p : Pt) : (look L p).isSome = (L.any fun q => decide (q.1 = p)) := by
  induction L with
  | nil => rfl
  | cons q L ih =>
    rw [look_cons, List.any_cons]
    by_cases e : q.1 = p
    · simp [e]
    · simp [e, ih]
theorem look_mem {L : List Pc} {p : Pt} {c : Cn} (h : look L p = some c) : (p, c) ∈ L := by
  induction L with
  | nil => simp [look_nil] at h
  | cons q L ih =>
    rw [look_cons] at h
    split at h
    · rename_i e
      have h := Option.some.inj h
      have : q = (p, c) := Prod.ext e h
      rw [this]; exact List.mem_cons_self
    · exact List.mem_cons_of_mem _ (ih h)
theorem look_put (L : List Pc) (p r : Pt) (c : Cn) : look (putP L p c) r = if p = r then some c else look L r := by
  unfold putP
  split
  · rename_i h
    rw [← look_isSome] at h
    induction L with
    | nil => simp [look_nil] at h
    | cons q L ih =>
      rw [List.map_cons, look_cons, look_cons]
      by_cases e : q.1 = p
      · simp only [if_pos e]
        by_cases e2 : p = r
        · simp [e, e2]
        · have e3 : ¬ q.1 = r := fun z => e2 (e.symm.trans z)
          simp only [if_neg e2, if_neg e3]
          by_cases h2 : (look L p).isSome = true
          · rw [ih h2, if_neg e2]
          · have : (L.map fun q => if q.1 = p then (q.1, c) else q) = L := by
              rw [look_isSome] at h2
              have h3 : ∀ q ∈ L, ¬ q.1 = p := fun q hq e => h2 (List.any_eq_true.mpr ⟨q, hq, by simp [e]⟩)
              clear ih h h2
              induction L with
              | nil => rfl
              | cons a L ih2 => rw [List.map_cons, if_neg (h3 a List.mem_cons_self), ih2 fun q hq => h3 q (List.mem_cons_of_mem _ hq)]
            rw [this]
      · simp only [if_neg e]
        have h2 : (look L p).isSome = true := by rw [look_cons, if_neg e] at h; exact h
        rw [ih h2]
        by_cases e2 : p = r
        · have e3 : ¬ q.1 = r := fun z => e (z.trans e2.symm)
          simp [e2, e3]
        · simp only [if_neg e2]
  · rename_i h
    rw [look_append, look_cons, look_nil]
    by_cases e : p = r
    · subst e
      have : look L p = none := by
        rw [← look_isSome] at h
        cases z : look L p with
        | none => rfl
        | some c => rw [z] at h; simp at h
      simp [this]
    · simp [e]
theorem put_keys (L : List Pc) (p : Pt) (c : Cn) : (putP L p c).map (·.1) = if (L.any fun q => decide (q.1 = p)) = true then L.map (·.1) else L.map (·.1) ++ [p] := by
  unfold putP
  split
  · rw [List.map_map]
    refine List.map_congr_left fun q _ => ?_
    show (if q.1 = p then (q.1, c) else q).1 = q.1
    split <;> rfl
  · simp
theorem put_nodup {L : List Pc} {p : Pt} {c : Cn} (h : (L.map (·.1)).Nodup) : ((putP L p c).map (·.1)).Nodup := by
  rw [put_keys]
  split
  · exact h
  · rename_i g
    rw [List.nodup_append]
    refine ⟨h, by simp, fun a ha b hb => ?_⟩
    simp at hb
    subst hb
    rintro rfl
    obtain ⟨q, hq, e⟩ := List.mem_map.mp ha
    exact g (List.any_eq_true.mpr ⟨q, hq, by simp [e]⟩)
theorem put_wf {n : Nat} {L : List Pc} {p : Pt} {c : Cn} (h : WF n L) (hc : c.length = n) : WF n (putP L p c) := by
  unfold putP
  split
  · intro q hq
    obtain ⟨r, hr, rfl⟩ := List.mem_map.mp hq
    split
    · exact hc
    · exact h r hr
  · intro q hq
    rcases List.mem_append.mp hq with hq | hq
    · exact h q hq
    · rw [List.mem_singleton] at hq; subst hq; exact hc
theorem put_len (L : List Pc) (p : Pt) (c : Cn) : (putP L p c).length ≤ L.length + 1 := by
  unfold putP; split <;> simp
theorem look_len {n : Nat} {L : List Pc} {p : Pt} {c : Cn} (h : WF n L) (e : look L p = some c) : c.length = n := h _ (look_mem e)
theorem at_len {n : Nat} {L : List Pc} (h : WF n L) (p : Pt) : (at_ n L p).length = n := by
  unfold at_
  cases e : look L p with
  | none => exact zero_len n
  | some c => exact look_len h e
/-! ### merging -/
def mstep (n : Nat) (L : List Pc) (q : Pc) : List Pc := putP L q.1 (addC (at_ n L q.1) q.2)
def mrg (n : Nat) (ps : List Pc) : List Pc := ps.foldl (mstep n) []
theorem mrg_inv {n : Nat} : ∀ (ps : List Pc), WF n ps → ∀ (L : List Pc), WF n L → (L.map (·.1)).Nodup →
    WF n (ps.foldl (mstep n) L) ∧ ((ps.foldl (mstep n) L).map (·.1)).Nodup ∧ (ps.foldl (mstep n) L).length ≤ L.length + ps.length ∧
    ∀ p, at_ n (ps.foldl (mstep n) L) p = ps.foldl (fun a q => if q.1 = p then addC a q.2 else a) (at_ n L p)
  | [], _, L, h, d => ⟨h, d, by simp, fun _ => rfl⟩
  | q :: ps, hp, L, h, d => by
    have hq : q.2.length = n := hp q List.mem_cons_self
    have h1 : WF n (mstep n L q) := put_wf h (addC_len (at_len h _) hq)
    obtain ⟨a1, a2, a3, a4⟩ := mrg_inv ps (fun r hr => hp r (List.mem_cons_of_mem _ hr)) (mstep n L q) h1 (put_nodup d)
    refine ⟨a1, a2, ?_, fun p => ?_⟩
    · have := put_len L q.1 (addC (at_ n L q.1) q.2)
      have e : (mstep n L q).length = (putP L q.1 (addC (at_ n L q.1) q.2)).length := rfl
      rw [List.foldl_cons, List.length_cons]
      omega
    · rw [List.foldl_cons, a4, List.foldl_cons]
      congr 1
      unfold mstep at_
      rw [look_put]
      by_cases e : q.1 = p
      · subst e; simp
      · simp [e]
theorem mrg_wf {n : Nat} {ps : List Pc} (h : WF n ps) : WF n (mrg n ps) := (mrg_inv ps h [] (fun _ q => by cases q) .nil).1
theorem mrg_nodup {n : Nat} {ps : List Pc} (h : WF n ps) : ((mrg n ps).map (·.1)).Nodup := (mrg_inv ps h [] (fun _ q => by cases q) .nil).2.1
theorem mrg_at {n : Nat} {ps : List Pc} (h : WF n ps) (p : Pt) : at_ n (mrg n ps) p = sumAt n ps p := (mrg_inv ps h [] (fun _ q => by cases q) .nil).2.2.2 p
theorem mrg_len {n : Nat} {ps : List Pc} (h : WF n ps) : (mrg n ps).length ≤ ps.length := by have := (mrg_inv ps h [] (fun _ q => by cases q) .nil).2.2.1; unfold mrg; simpa using this

/-! ### the canonical list -/
def Asc (L : List Pc) : Prop := L.Pairwise fun a b => ltP a.1 b.1
structure Can (n : Nat) (L : List Pc) : Prop where
  wf : WF n L
  nz : ∀ q ∈ L, nz q.2 = true
  asc : Asc L
theorem nz_ne {n : Nat} {c : Cn} (h : c.length = n) : nz c = true ↔ c ≠ zero n := by
  constructor
  · rintro h2 rfl
    unfold nz zero at h2
    rw [List.any_replicate] at h2
    simp at h2
  · intro h2
    cases z : nz c with
    | true => rfl
    | false =>
      exfalso
      refine h2 (cn_ext h (zero_len n) fun j hj => ?_)
      rw [zero_get]
      unfold nz at z
      rw [List.any_eq_false] at z
      have hj' : j < c.length := by omega
      have := z c[j] (List.getElem_mem hj')
      rw [List.getD_eq_getElem?_getD, List.getElem?_eq_getElem hj']
      simpa using this
theorem nz_zero (n : Nat) : nz (zero n) = false := by
  cases z : nz (zero n) with
  | false => rfl
  | true => exact absurd rfl ((nz_ne (zero_len n)).1 z)
theorem Asc.look {L : List Pc} (a : Asc L) {q : Pc} (h : q ∈ L) : look L q.1 = some q.2 := by
  induction L with
  | nil => cases h
  | cons r L ih =>
    rw [look_cons]
    unfold Asc at a
    rw [List.pairwise_cons] at a
    rcases List.mem_cons.mp h with rfl | h
    · simp
    · have := a.1 q h
      rw [if_neg fun e => by rw [e] at this; exact this.irr, ih a.2 h]
theorem nodup_look {L : List Pc} (a : (L.map (·.1)).Nodup) {q : Pc} (h : q ∈ L) : look L q.1 = some q.2 := by
  induction L with
  | nil => cases h
  | cons r L ih =>
    rw [look_cons]
    rw [List.map_cons, List.nodup_cons] at a
    rcases List.mem_cons.mp h with rfl | h
    · simp
    · rw [if_neg fun e => a.1 (by rw [e]; exact List.mem_map.mpr ⟨q, h, rfl⟩), ih a.2 h]
theorem Asc.nodup {L : List Pc} (a : Asc L) : (L.map (·.1)).Nodup := by
  rw [List.Nodup, List.pairwise_map]
  exact a.imp fun h e => by rw [e] at h; exact h.irr
/-- what stands at places tells the list -/
theorem Can.mem {n : Nat} {L : List Pc} (h : Can n L) (q : Pc) : q ∈ L ↔ (DL.nz q.2 = true ∧ at_ n L q.1 = q.2) := by
  constructor
  · intro hq
    exact ⟨h.nz q hq, by unfold at_; rw [h.asc.look hq]; rfl⟩
  · rintro ⟨hn, e⟩
    unfold at_ at e
    cases z : DL.look L q.1 with
    | none =>
      rw [z] at e
      have e : zero n = q.2 := e
      rw [← e, nz_zero] at hn
      cases hn
    | some c =>
      rw [z] at e
      have e : c = q.2 := e
      have := look_mem z
      rw [e] at this
      exact this
theorem asc_ext : ∀ {L M : List Pc}, Asc L → Asc M → (∀ q, q ∈ L ↔ q ∈ M) → L = M
  | [], [], _, _, _ => rfl
  | [], q :: _, _, _, h => by have := (h q).2 List.mem_cons_self; cases this
  | q :: _, [], _, _, h => by have := (h q).1 List.mem_cons_self; cases this
  | q :: L, r :: M, a, b, h => by
    unfold Asc at a b
    rw [List.pairwise_cons] at a b
    have e : q = r := by
      rcases List.mem_cons.mp ((h q).1 List.mem_cons_self) with e | h1
      · exact e
      · rcases List.mem_cons.mp ((h r).2 List.mem_cons_self) with e | h2
        · exact e.symm
        · exact absurd ((b.1 q h1).tr (a.1 r h2)) fun z => z.irr
    subst e
    refine congrArg (q :: ·) (asc_ext a.2 b.2 fun s => ?_)
    constructor
    · intro hs
      rcases List.mem_cons.mp ((h s).1 (List.mem_cons_of_mem _ hs)) with e | h1
      · rw [e] at hs; exact absurd (a.1 q hs) fun z => z.irr
      · exact h1
    · intro hs
      rcases List.mem_cons.mp ((h s).2 (List.mem_cons_of_mem _ hs)) with e | h1
      · rw [e] at hs; exact absurd (b.1 q hs) fun z => z.irr
      · exact h1
theorem Can.ext {n : Nat} {L M : List Pc} (h : Can n L) (k : Can n M) (e : ∀ p, at_ n L p = at_ n M p) : L = M :=
  asc_ext h.asc k.asc fun q => by rw [h.mem, k.mem, e]
/-- any arrangement of the merged ones that are not all 0, by place -/
theorem can_of {n : Nat} {ps L : List Pc} (h : WF n ps) (p : L.Perm ((mrg n ps).filter fun q => DL.nz q.2)) (a : Asc L) : Can n L ∧ ∀ r, at_ n L r = sumAt n ps r := by
  have m : ∀ q, q ∈ L ↔ (q ∈ mrg n ps ∧ DL.nz q.2 = true) := fun q => by rw [p.mem_iff, List.mem_filter]
  have c : Can n L := ⟨fun q hq => mrg_wf h q ((m q).1 hq).1, fun q hq => ((m q).1 hq).2, a⟩
  refine ⟨c, fun r => ?_⟩
  rw [← mrg_at h r]
  have nd := mrg_nodup h
  unfold at_
  cases z : DL.look (mrg n ps) r with
  | none =>
    cases y : DL.look L r with
    | none => rfl
    | some d =>
      have := nodup_look nd ((m _).1 (look_mem y)).1
      simp only at this
      rw [z] at this; cases this
  | some d =>
    have hm := look_mem z
    cases y : DL.look L r with
    | none =>
      have dn : DL.nz d = false := by
        cases w : DL.nz d with
        | false => rfl
        | true =>
          have := a.look ((m (r, d)).2 ⟨hm, w⟩)
          simp only at this
          rw [y] at this; cases this
      have dl := mrg_wf h _ hm
      have : ¬ d ≠ zero n := fun z => by rw [(nz_ne dl).2 z] at dn; cases dn
      show zero n = d
      exact (Classical.not_not.mp this).symm
    | some e =>
      have := nodup_look nd ((m _).1 (look_mem y)).1
      simp only at this
      rw [z] at this
      show e = d
      exact (Option.some.inj this).symm
/-- a list that is in its form already -/
theorem sumAt_can_aux {n : Nat} (p : Pt) : ∀ {L : List Pc}, Asc L → WF n L → ∀ a : Cn, a.length = n → L.foldl (fun a q => if q.1 = p then addC a q.2 else a) a = addC a (at_ n L p)
  | [], _, _, a, ha => by unfold at_; rw [look_nil]; exact (add_zero ha).symm
  | q :: L, h, w, a, ha => by
    have h0 := h
    unfold Asc at h
    rw [List.pairwise_cons] at h
    have wL : WF n L := fun r hr => w r (List.mem_cons_of_mem _ hr)
    have hq := w q List.mem_cons_self
    rw [List.foldl_cons]
    unfold at_
    rw [look_cons]
    by_cases e : q.1 = p
    · rw [if_pos e, if_pos e, sumAt_can_aux p h.2 wL _ (addC_len ha hq)]
      have : look L p = none := by
        cases z : look L p with
        | none => rfl
        | some c =>
          have := h.1 _ (look_mem z)
          rw [e] at this
          exact absurd this fun z => z.irr
      unfold at_
      rw [this]
      exact add_zero (addC_len ha hq)
    · rw [if_neg e, if_neg e]
      exact sumAt_can_aux p h.2 wL a ha
theorem sumAt_can {n : Nat} {L : List Pc} (h : Can n L) (p : Pt) : sumAt n L p = at_ n L p := by
  unfold sumAt
  rw [sumAt_can_aux p h.asc h.wf _ (zero_len n), zero_add (at_len h.wf p)]

/-! ### sums over all pieces -/
def tot (n : Nat) (L : List Pc) : Cn := L.foldl (fun a q => addC a q.2) (zero n)
def csum (j : Nat) (L : List Pc) : Int := (L.map fun q => q.2.getD j 0).sum
theorem tot_aux {n : Nat} : ∀ {L : List Pc}, WF n L → ∀ a : Cn, a.length = n → (L.foldl (fun a q => addC a q.2) a).length = n ∧ ∀ j, (L.foldl (fun a q => addC a q.2) a).getD j 0 = a.getD j 0 + csum j L
  | [], _, a, h => ⟨h, fun j => by simp [csum]⟩
  | q :: L, w, a, h => by
    have hq := w q List.mem_cons_self
    obtain ⟨h1, h2⟩ := tot_aux (fun r hr => w r (List.mem_cons_of_mem _ hr)) (addC a q.2) (addC_len h hq)
    refine ⟨h1, fun j => ?_⟩
    rw [List.foldl_cons, h2, addC_get h hq]
    unfold csum
    rw [List.map_cons, List.sum_cons]
    omega
theorem tot_len {n : Nat} {L : List Pc} (w : WF n L) : (tot n L).length = n := (tot_aux w _ (zero_len n)).1
theorem tot_get {n : Nat} {L : List Pc} (w : WF n L) (j : Nat) : (tot n L).getD j 0 = csum j L := by
  unfold tot
  rw [(tot_aux w _ (zero_len n)).2, zero_get]; omega
theorem csum_perm {j : Nat} {L M : List Pc} (p : L.Perm M) : csum j L = csum j M := by
  unfold csum
  induction p with
  | nil => rfl
  | cons x _ ih => simp only [List.map_cons, List.sum_cons, ih]
  | swap x y l => simp only [List.map_cons, List.sum_cons]; omega
  | trans _ _ a b => exact a.trans b
theorem csum_append (j : Nat) (L M : List Pc) : csum j (L ++ M) = csum j L + csum j M := by unfold csum; rw [List.map_append, List.sum_append]
theorem csum_put {n : Nat} {j : Nat} {p : Pt} {c : Cn} (hc : c.length = n) : ∀ {L : List Pc}, WF n L → (L.map (·.1)).Nodup → csum j (putP L p (addC (at_ n L p) c)) = csum j L + c.getD j 0
  | L, w, nd => by
    have key : ∀ (M : List Pc), WF n M → (M.map (·.1)).Nodup → ∀ d : Cn, (M.any fun q => decide (q.1 = p)) = true → csum j (M.map fun q => if q.1 = p then (q.1, d) else q) + (at_ n M p).getD j 0 = csum j M + d.getD j 0 := by
      intro M
      induction M with
      | nil => intro _ _ d h; simp at h
      | cons q M ih =>
        intro w nd d h
        rw [List.map_cons, List.nodup_cons] at nd
        unfold at_
        rw [look_cons]
        by_cases e : q.1 = p
        · have no : ∀ r ∈ M, ¬ r.1 = p := fun r hr z => nd.1 (by rw [e, ← z]; exact List.mem_map.mpr ⟨r, hr, rfl⟩)
          have same : (M.map fun q => if q.1 = p then (q.1, d) else q) = M := by
            have : ∀ r ∈ M, (if r.1 = p then (r.1, d) else r) = r := fun r hr => if_neg (no r hr)
            exact (List.map_congr_left this).trans (List.map_id' M)
          rw [if_pos e]
          simp only [List.map_cons, if_pos e]
          rw [same]
          unfold csum
          simp only [List.map_cons, List.sum_cons, Option.getD_some]
          omega
        · rw [if_neg e]
          rw [List.any_cons] at h
          have h2 : (M.any fun q => decide (q.1 = p)) = true := by simpa [e] using h
          have := ih (fun r hr => w r (List.mem_cons_of_mem _ hr)) nd.2 d h2
          unfold at_ at this
          simp only [List.map_cons, if_neg e]
          unfold csum at this ⊢
          simp only [List.map_cons, List.sum_cons]
          omega
    have hl := at_len w p
    have ga := addC_get hl hc j
    unfold putP
    split
    · rename_i h
      have := key L w nd (addC (at_ n L p) c) h
      omega
    · rename_i h
      have hz : at_ n L p = zero n := by
        unfold at_
        rw [← look_isSome] at h
        cases z : look L p with
        | none => rfl
        | some d => rw [z] at h; simp at h
      rw [csum_append, hz, zero_add hc]
      unfold csum
      simp
theorem csum_mrg_aux {n j : Nat} : ∀ {ps : List Pc}, WF n ps → ∀ {L : List Pc}, WF n L → (L.map (·.1)).Nodup → csum j (ps.foldl (mstep n) L) = csum j L + csum j ps
  | [], _, L, _, _ => by simp [csum]
  | q :: ps, w, L, h, nd => by
    have hq := w q List.mem_cons_self
    rw [List.foldl_cons, csum_mrg_aux (fun r hr => w r (List.mem_cons_of_mem _ hr)) (L := mstep n L q) (put_wf h (addC_len (at_len h _) hq)) (put_nodup nd)]
    have : csum j (mstep n L q) = csum j L + q.2.getD j 0 := csum_put hq h nd
    rw [this]
    unfold csum
    rw [List.map_cons, List.sum_cons]
    omega
theorem csum_mrg {n j : Nat} {ps : List Pc} (h : WF n ps) : csum j (mrg n ps) = csum j ps := by
  unfold mrg
  rw [csum_mrg_aux h (L := []) (fun _ q => by cases q) .nil]
  simp [csum]
theorem csum_filter {n j : Nat} : ∀ {L : List Pc}, WF n L → csum j (L.filter fun q => DL.nz q.2) = csum j L
  | [], _ => rfl
  | q :: L, w => by
    have ih := csum_filter (j := j) fun r hr => w r (List.mem_cons_of_mem _ hr)
    have hq := w q List.mem_cons_self
    rw [List.filter_cons]
    split
    · unfold csum at ih ⊢
      rw [List.map_cons, List.map_cons, List.sum_cons, List.sum_cons, ih]
    · rename_i h
      have e : q.2 = zero n := Classical.not_not.mp fun z => h ((nz_ne hq).2 z)
      rw [ih]
      unfold csum
      rw [List.map_cons, List.sum_cons, e, zero_get]
      omega
theorem csum_can {n j : Nat} {ps L : List Pc} (h : WF n ps) (p : L.Perm ((mrg n ps).filter fun q => DL.nz q.2)) : csum j L = csum j ps := by
  rw [csum_perm p, csum_filter (mrg_wf h), csum_mrg h]
theorem tot_can {n : Nat} {ps L : List Pc} (h : WF n ps) (w : WF n L) (p : L.Perm ((mrg n ps).filter fun q => DL.nz q.2)) : tot n L = tot n ps :=
  cn_ext (tot_len w) (tot_len h) fun j _ => by rw [tot_get w, tot_get h, csum_can h p]
/-! ### moved -/
def mvP (d p : Pt) : Pt := (p.1 + d.1, p.2 + d.2)
def mvL (d : Pt) (L : List Pc) : List Pc := L.map fun q => (mvP d q.1, q.2)
theorem mv_can {n : Nat} {L : List Pc} (d : Pt) (h : Can n L) : Can n (mvL d L) := by
  refine ⟨fun q hq => ?_, fun q hq => ?_, ?_⟩
  · obtain ⟨r, hr, rfl⟩ := List.mem_map.mp hq
    exact h.wf r hr
  · obtain ⟨r, hr, rfl⟩ := List.mem_map.mp hq
    exact h.nz r hr
  · unfold Asc mvL
    rw [List.pairwise_map]
    refine h.asc.imp fun {a b} h => ?_
    show ltP (mvP d a.1) (mvP d b.1)
    unfold ltP mvP at *
    simp only
    omega
end DL

/-! DP2: the canonical list as a function; counts by pulls. -/
namespace DL
def leB (a b : Pc) : Bool := decide (ltP a.1 b.1 ∨ a.1 = b.1)
theorem leB_tr (a b c : Pc) (h : leB a b = true) (k : leB b c = true) : leB a c = true := by
  unfold leB at *
  simp only [decide_eq_true_eq] at *
  rcases h with h | h
  · rcases k with k | k
    · exact .inl (h.tr k)
    · exact .inl (k ▸ h)
  · rw [h]; exact k
theorem leB_tot (a b : Pc) : (leB a b || leB b a) = true := by
  unfold leB
  simp only [Bool.or_eq_true, decide_eq_true_eq]
  rcases ltP.tri a.1 b.1 with h | h | h
  · exact .inl (.inl h)
  · exact .inl (.inr h)
  · exact .inr (.inl h)
def canon (n : Nat) (ps : List Pc) : List Pc := ((mrg n ps).filter fun q => nz q.2).mergeSort leB
theorem canon_perm (n : Nat) (ps : List Pc) : (canon n ps).Perm ((mrg n ps).filter fun q => nz q.2) := List.mergeSort_perm _ _
theorem canon_asc {n : Nat} {ps : List Pc} (h : WF n ps) : Asc (canon n ps) := by
  have s : (canon n ps).Pairwise fun a b => leB a b = true := List.pairwise_mergeSort leB_tr leB_tot _
  have nd : ((canon n ps).map (·.1)).Nodup := by
    have p := (canon_perm n ps).map (·.1)
    refine p.nodup_iff.2 ?_
    exact List.Nodup.sublist (List.Sublist.map _ List.filter_sublist) (mrg_nodup h)
  rw [List.Nodup, List.pairwise_map] at nd
  refine (s.and nd).imp fun {a b} h => ?_
  obtain ⟨h1, h2⟩ := h
  unfold leB at h1
  simp only [decide_eq_true_eq] at h1
  exact h1.resolve_right h2
theorem canon_can {n : Nat} {ps : List Pc} (h : WF n ps) : Can n (canon n ps) := (can_of h (canon_perm n ps) (canon_asc h)).1
theorem canon_at {n : Nat} {ps : List Pc} (h : WF n ps) (p : Pt) : at_ n (canon n ps) p = sumAt n ps p := (can_of h (canon_perm n ps) (canon_asc h)).2 p
theorem canon_tot {n : Nat} {ps : List Pc} (h : WF n ps) : tot n (canon n ps) = tot n ps := tot_can h (canon_can h).wf (canon_perm n ps)
theorem canon_uniq {n : Nat} {ps L : List Pc} (h : WF n ps) (p : L.Perm ((mrg n ps).filter fun q => nz q.2)) (a : Asc L) : L = canon n ps := by
  obtain ⟨c, e⟩ := can_of h p a
  exact c.ext (canon_can h) fun r => by rw [e, canon_at h]
theorem canon_self {n : Nat} {L : List Pc} (h : Can n L) : canon n L = L :=
  (canon_can h.wf).ext h fun r => by rw [canon_at h.wf, sumAt_can h]
theorem canon_ext {n : Nat} {ps qs : List Pc} (h : WF n ps) (k : WF n qs) (e : ∀ p, sumAt n ps p = sumAt n qs p) : canon n ps = canon n qs :=
  (canon_can h).ext (canon_can k) fun r => by rw [canon_at h, canon_at k, e]
theorem canon_len {n : Nat} {ps : List Pc} (h : WF n ps) : (canon n ps).length ≤ ps.length := by
  rw [(canon_perm n ps).length_eq]
  exact Nat.le_trans (List.length_filter_le _ _) (mrg_len h)
theorem sumAt_len {n : Nat} : ∀ {ps : List Pc}, WF n ps → ∀ p : Pt, (sumAt n ps p).length = n := fun h p => by rw [← canon_at h]; exact at_len (canon_can h).wf p
/-! ### counts by numbers -/
def dot (c A : List Int) : Int := (List.zipWith (· * ·) c A).sum
theorem dot_add : ∀ {a b A : List Int}, a.length = A.length → b.length = A.length → dot (addC a b) A = dot a A + dot b A
  | [], _, [], _, _ => by unfold dot addC; simp
  | [], _, _ :: _, h, _ => by simp at h
  | _ :: _, [], [], h, _ => by simp at h
  | _ :: _, [], _ :: _, _, k => by simp at k
  | _ :: _, _ :: _, [], h, _ => by simp at h
  | x :: a, y :: b, z :: A, h, k => by
    have ih := dot_add (a := a) (b := b) (A := A) (by simpa using h) (by simpa using k)
    unfold dot addC at ih ⊢
    simp only [List.zipWith_cons_cons, List.sum_cons]
    rw [ih, Int.add_mul]
    omega
theorem tot_snoc (n : Nat) (L : List Pc) (q : Pc) : tot n (L ++ [q]) = addC (tot n L) q.2 := by unfold tot; rw [List.foldl_append]; rfl
/-- counts of one piece -/
def one (n k : Nat) : Cn := (List.range n).map fun j => if k = j then 1 else 0
end DL

/-! DP3: sums at a place, rearranged, with more pieces. -/
namespace DL
def cat (j : Nat) (p : Pt) (L : List Pc) : Int := (L.map fun q => if q.1 = p then q.2.getD j 0 else 0).sum
theorem sumAt_get_aux {n : Nat} (p : Pt) (j : Nat) : ∀ {ps : List Pc}, WF n ps → ∀ a : Cn, a.length = n → (ps.foldl (fun a q => if q.1 = p then addC a q.2 else a) a).getD j 0 = a.getD j 0 + cat j p ps
  | [], _, a, _ => by simp [cat]
  | q :: ps, w, a, h => by
    have hq := w q List.mem_cons_self
    have wp : WF n ps := fun r hr => w r (List.mem_cons_of_mem _ hr)
    rw [List.foldl_cons]
    unfold cat
    rw [List.map_cons, List.sum_cons]
    by_cases e : q.1 = p
    · rw [if_pos e, if_pos e, sumAt_get_aux p j wp _ (addC_len h hq), addC_get h hq]
      unfold cat
      omega
    · rw [if_neg e, if_neg e, sumAt_get_aux p j wp a h]
      unfold cat
      omega
theorem sumAt_get {n : Nat} {ps : List Pc} (w : WF n ps) (p : Pt) (j : Nat) : (sumAt n ps p).getD j 0 = cat j p ps := by
  unfold sumAt
  rw [sumAt_get_aux p j w _ (zero_len n), zero_get]
  omega
theorem cat_perm {j : Nat} {p : Pt} {L M : List Pc} (h : L.Perm M) : cat j p L = cat j p M := by
  unfold cat
  induction h with
  | nil => rfl
  | cons x _ ih => simp only [List.map_cons, List.sum_cons, ih]
  | swap x y l => simp only [List.map_cons, List.sum_cons]; omega
  | trans _ _ a b => exact a.trans b
theorem wf_perm {n : Nat} {L M : List Pc} (h : L.Perm M) (w : WF n L) : WF n M := fun q hq => w q (h.mem_iff.2 hq)
theorem wf_append {n : Nat} {L M : List Pc} (w : WF n L) (v : WF n M) : WF n (L ++ M) := fun q hq => (List.mem_append.mp hq).elim (w q) (v q)
theorem canon_perm_eq {n : Nat} {L M : List Pc} (h : L.Perm M) (w : WF n L) : canon n L = canon n M := by
  have v := wf_perm h w
  exact canon_ext w v fun p => cn_ext (sumAt_len w p) (sumAt_len v p) fun j _ => by rw [sumAt_get w, sumAt_get v, cat_perm h]
end DL

/-! DP4: places with counts as data. -/
namespace DL
open PySem L2
def vt (p : Pt) : D := .tup [.int p.1, .int p.2]
def ct (c : Cn) : D := .tup (c.map .int)
def pt (q : Pc) : D := .tup [vt q.1, ct q.2]
def keyP (p : Pt) : List Key := [.inl p.1, .inl p.2]
def kd (q : Pc) : List Key × D := (keyP q.1, ct q.2)
theorem keyP_inj {p q : Pt} : keyP p = keyP q ↔ p = q := by
  obtain ⟨a, b⟩ := p
  obtain ⟨c, d⟩ := q
  simp [keyP]
theorem keysOf_vt (p : Pt) : keysOf [.int p.1, .int p.2] = some (keyP p) := rfl
theorem keyTD_vt (p : Pt) : keyTD (vt p) = some (keyP p) := rfl
theorem valD_kd (p : Pt) : ∀ L : List Pc, valD (L.map kd) (keyP p) = (look L p).map ct
  | [] => rfl
  | q :: L => by
    rw [List.map_cons, valD_cons, look_cons, valD_kd p L]
    show (if keyP q.1 = keyP p then some (ct q.2) else _) = _
    by_cases e : q.1 = p
    · rw [if_pos (keyP_inj.2 e), if_pos e]; rfl
    · rw [if_neg (fun z => e (keyP_inj.1 z)), if_neg e]
theorem any_kd (p : Pt) : ∀ L : List Pc, ((L.map kd).any fun kv => decide (kv.1 = keyP p)) = (L.any fun q => decide (q.1 = p))
  | [] => rfl
  | q :: L => by
    rw [List.map_cons, List.any_cons, List.any_cons, any_kd p L]
    congr 1
    exact decide_eq_decide.2 keyP_inj
theorem putD_kd (p : Pt) (c : Cn) (L : List Pc) : putD (L.map kd) (keyP p) (ct c) = (putP L p c).map kd := by
  unfold putD putP
  rw [any_kd]
  split
  · rw [List.map_map, List.map_map]
    refine List.map_congr_left fun q _ => ?_
    show (if keyP q.1 = keyP p then (keyP q.1, ct c) else (keyP q.1, ct q.2)) = kd (if q.1 = p then (q.1, c) else q)
    by_cases e : q.1 = p
    · rw [if_pos (keyP_inj.2 e), if_pos e]; rfl
    · rw [if_neg (fun z => e (keyP_inj.1 z)), if_neg e]; rfl
  · simp [kd]
theorem getK_kd (L : List Pc) (p : Pt) : getK (.dt (L.map kd)) (vt p) = some ((look L p).map ct) := by
  show (keysOf [.int p.1, .int p.2]).map (valD (L.map kd) ·) = _
  rw [keysOf_vt, Option.map_some, valD_kd]
theorem putKD_kd (L : List Pc) (p : Pt) (c : Cn) : putKD (.dt (L.map kd)) (vt p) (ct c) = some (.dt ((putP L p c).map kd)) := by
  show ((keysOf [.int p.1, .int p.2]).map fun k => D.dt (putD (L.map kd) k (ct c))) = _
  rw [keysOf_vt, Option.map_some, putD_kd]
theorem dInts_map : ∀ c : List Int, dInts (c.map .int) = some c
  | [] => rfl
  | i :: c => by
    rw [List.map_cons]
    show (dInts (c.map .int)).map (i :: ·) = _
    rw [dInts_map c]; rfl
theorem dBools_map : ∀ c : List Bool, dBools (c.map .bl) = some c
  | [] => rfl
  | i :: c => by
    rw [List.map_cons]
    show (dBools (c.map .bl)).map (i :: ·) = _
    rw [dBools_map c]; rfl
theorem keyD_pt (q : Pc) : keyD (pt q) = some q.1 := rfl
theorem pairKs_kd (L : List Pc) : pairKs (L.map kd) := fun e he => by
  obtain ⟨q, _, rfl⟩ := List.mem_map.mp he
  rfl
theorem lexB_ltP {p q : Pt} : SrtO.lexB p q = true ↔ ltP p q := SrtO.lexB_iff
theorem ltK_pt {q r : Pc} : ltK (pt q) (pt r) ↔ ltP q.1 r.1 := by
  constructor
  · rintro ⟨a, b, h1, h2, h⟩
    rw [keyD_pt] at h1 h2
    cases h1; cases h2
    exact lexB_ltP.1 h
  · intro h
    exact ⟨_, _, keyD_pt q, keyD_pt r, lexB_ltP.2 h⟩
/-- any arrangement by place of pieces is the arrangement of them -/
theorem perm_pt {es : List D} {L : List Pc} (h : es.Perm (L.map pt)) : ∃ M : List Pc, es = M.map pt ∧ M.Perm L := by
  have key : ∀ {es fs : List D}, es.Perm fs → ∀ L : List Pc, fs = L.map pt → ∃ M : List Pc, es = M.map pt ∧ M.Perm L := by
    intro es fs h
    induction h with
    | nil => intro L e; have : L = [] := by simpa using e.symm
             subst this; exact ⟨[], rfl, .nil⟩
    | cons x _ ih =>
      intro L e
      cases L with
      | nil => simp at e
      | cons q L =>
        rw [List.map_cons, List.cons.injEq] at e
        obtain ⟨rfl, e⟩ := e
        obtain ⟨M, rfl, p⟩ := ih L e
        exact ⟨q :: M, rfl, p.cons q⟩
    | swap x y l =>
      intro L e
      cases L with
      | nil => simp at e
      | cons q L =>
        cases L with
        | nil => simp at e
        | cons r L =>
          rw [List.map_cons, List.map_cons, List.cons.injEq, List.cons.injEq] at e
          obtain ⟨rfl, rfl, rfl⟩ := e
          exact ⟨r :: q :: L, rfl, .swap q r L⟩
    | trans _ _ a b =>
      intro L e
      obtain ⟨M, rfl, p⟩ := b L e
      obtain ⟨N, rfl, p'⟩ := a M rfl
      exact ⟨N, rfl, p'.trans p⟩
  exact key h L rfl
theorem asc_pt {M : List Pc} (h : (M.map pt).Pairwise ltK) : Asc M := by
  rw [List.pairwise_map] at h
  exact h.imp fun h => ltK_pt.1 h
end DL

/-! DP5: more readings evaluated; comprehensions over encoded lists. -/
namespace DL
open PySem L2
@[simp ↓] theorem gMax2_int (i j : Int) (k) : gMax2 [.int i, .int j] k = k (.int (if j > i then j else i)) := (rfl)
@[simp ↓] theorem gMul_tupI (a : List D) (j : Int) (k) : gMul (.tup a) (.int j) k = ((a ≠ [] ∧ a.length ≤ 1000 ∧ 1 ≤ j ∧ j ≤ 1000) ∧ k (.tup (List.replicate j.toNat a).flatten)) := (rfl)
@[simp ↓] theorem gLen_ct (c : Cn) (k) : gLen [ct c] k = k (.int c.length) := by
  show k (.int (c.map D.int).length) = _
  rw [List.length_map]
theorem gAll_bls {bs : List Bool} {k : D → Prop} (h : k (.bl (bs.all id))) : gAll [.lst (bs.map .bl)] k := ⟨_, _, _, rfl, rfl, dBools_map bs, h⟩
theorem gAnyI_ints {c : List Int} {k : D → Prop} (h : k (.bl (c.any fun n => n != 0))) : gAnyI [.lst (c.map .int)] k := ⟨_, _, _, rfl, rfl, dInts_map c, h⟩
theorem gSum_ints {c : List Int} {k : D → Prop} (h : k (.int c.sum)) : gSum [.lst (c.map .int)] k := ⟨_, _, _, rfl, rfl, dInts_map c, h⟩
theorem gList_ct {c : Cn} {k : D → Prop} (h : k (.lst (c.map .int))) : gList [ct c] k := ⟨_, _, rfl, .inl rfl, h⟩
theorem zipD_map {α β : Type} (f : α → D) (g : β → D) (a : List α) (b : List β) : zipD (a.map f) (b.map g) = (List.zip a b).map fun p => D.tup [f p.1, g p.2] := by
  unfold zipD
  rw [List.zipWith_map, List.zip, List.map_zipWith]
theorem compL_of {α : Type} {vs : List Nat} {g : FG} {T : FT} {E : FE} {post : Post} {ρ : Env} (enc : α → D) (p : α → Bool) (f : α → D) : ∀ (xs : List α) (acc : List D), acc.length + xs.length ≤ 1000000 →
    (∀ x ∈ xs, ∀ (Pst : D → Env → Prop) (N : Env → Prop), (p x = true → ∀ ρ3, unwipe ρ ρ3 vs = ρ → Pst (f x) ρ3) → (p x = false → ∀ ρ2, unwipe ρ ρ2 vs = ρ → N ρ2) →
      g (enc x) (wipeE ρ vs) fun ρ1 => T ρ1 (fun b ρ2 => if b = true then E ρ2 Pst noX else N ρ2) noX) →
    post (.lst (acc ++ (xs.filter p).map f)) ρ → compL vs g T E post (xs.map enc) acc ρ
  | [], acc, _, _, q => by simpa [compL] using q
  | d :: ds, acc, hl, h, q => by
    rw [List.map_cons]
    unfold compL
    simp only [List.length_cons] at hl
    refine h d List.mem_cons_self _ _ (fun hp ρ3 e => ⟨by omega, ?_⟩) (fun hp ρ2 e => ?_)
    · rw [e]
      refine compL_of enc p f ds (acc ++ [f d]) (by simp; omega) (fun x hx => h x (List.mem_cons_of_mem _ hx)) ?_
      rw [List.filter_cons, if_pos hp, List.map_cons] at q
      simpa using q
    · rw [e]
      refine compL_of enc p f ds acc (by omega) (fun x hx => h x (List.mem_cons_of_mem _ hx)) ?_
      rw [List.filter_cons, if_neg (by rw [hp]; simp)] at q
      exact q
/-- without a test -/
theorem compL_as {α : Type} {vs : List Nat} {g : FG} {E : FE} {post : Post} {ρ : Env} (enc : α → D) (f : α → D) (xs : List α) (hl : xs.length ≤ 1000000)
    (h : ∀ x ∈ xs, ∀ (Pst : D → Env → Prop), (∀ ρ3, unwipe ρ ρ3 vs = ρ → Pst (f x) ρ3) → g (enc x) (wipeE ρ vs) fun ρ1 => E ρ1 Pst noX)
    (q : post (.lst (xs.map f)) ρ) : compL vs g tYesD E post (xs.map enc) [] ρ := by
  refine compL_of enc (fun _ => true) f xs [] (by simpa using hl) (fun d hd Pst N h1 h2 => ?_) (by rw [List.nil_append, List.filter_eq_self.2 (fun _ _ => rfl)]; exact q)
  have := h d hd Pst (h1 rfl)
  simpa [tYesD] using this
theorem dcL_of {α : Type} {vs : List Nat} {g : FG} {T : FT} {Ek Ev : FE} {post : Post} {ρ : Env} (enc : α → D) (p : α → Bool) (fk : α → List Key) (fv : α → D) : ∀ (xs : List α) (acc : List (List Key × D)), acc.length + xs.length ≤ 1000000 →
    (∀ x ∈ xs, ∀ (R : List Key → D → Env → Prop) (N : Env → Prop), (p x = true → ∀ ρ3, unwipe ρ ρ3 vs = ρ → R (fk x) (fv x) ρ3) → (p x = false → ∀ ρ2, unwipe ρ ρ2 vs = ρ → N ρ2) →
      g (enc x) (wipeE ρ vs) fun ρ1 => T ρ1 (fun b ρ2 => if b = true then Ek ρ2 (fun kd ρ3 => Ev ρ3 (fun y ρ4 => ∃ k, keyTD kd = some k ∧ R k y ρ4) noX) noX else N ρ2) noX) →
    post (.dt ((xs.filter p).foldl (fun a d => putD a (fk d) (fv d)) acc)) ρ → dcL vs g T Ek Ev post (xs.map enc) acc ρ
  | [], acc, _, _, q => by simpa [dcL] using q
  | d :: ds, acc, hl, h, q => by
    rw [List.map_cons]
    unfold dcL
    simp only [List.length_cons] at hl
    refine h d List.mem_cons_self (fun k y ρ4 => acc.length < 1000000 ∧ dcL vs g T Ek Ev post (ds.map enc) (putD acc k y) (unwipe ρ ρ4 vs)) _ (fun hp ρ3 e => ⟨by omega, ?_⟩) (fun hp ρ2 e => ?_)
    · rw [e]
      have lp : (putD acc (fk d) (fv d)).length ≤ acc.length + 1 := by unfold putD; split <;> simp
      refine dcL_of enc p fk fv ds _ (by omega) (fun x hx => h x (List.mem_cons_of_mem _ hx)) ?_
      rw [List.filter_cons, if_pos hp, List.foldl_cons] at q
      exact q
    · rw [e]
      refine dcL_of enc p fk fv ds acc (by omega) (fun x hx => h x (List.mem_cons_of_mem _ hx)) ?_
      rw [List.filter_cons, if_neg (by rw [hp]; simp)] at q
      exact q
end DL

/-! DP6: counts compared, pieces sorted. -/
namespace DL
open PySem L2
theorem pdL_ints : ∀ c : List Int, pdL (c.map D.int) = some (c.map PyData.int)
  | [] => by simp [pdL]
  | i :: c => by simp [pdL, pd, pdL_ints c]
theorem pd_ct (c : Cn) : pd (ct c) = some (.tuple (c.map .int)) := by
  show (pdL (c.map D.int)).map PyData.tuple = _
  rw [pdL_ints]; rfl
theorem lay_ints : ∀ c : List Int, PyData.canLayAll0 (c.map PyData.int) = true
  | [] => by simp [PyData.canLayAll0]
  | i :: c => by simp [PyData.canLayAll0, PyData.canLay0, lay_ints c]
theorem depth_ints : ∀ c : List Int, PyData.depthAll (c.map PyData.int) ≤ 1
  | [] => by simp [PyData.depthAll]
  | i :: c => by have := depth_ints c; simp [PyData.depthAll, PyData.depth]; omega
theorem shaped_ct (c : Cn) : SeqAt.shaped (.tuple (c.map .int)) = true := by
  have := depth_ints c
  simp [SeqAt.shaped, PyData.canLay0, PyData.depth, lay_ints]
  omega
theorem eqv_ints : ∀ a b : List Int, PyData.eqvAll (a.map .int) (b.map .int) = decide (a = b)
  | [], [] => by simp [PyData.eqvAll]
  | [], _ :: _ => by simp [PyData.eqvAll]
  | _ :: _, [] => by simp [PyData.eqvAll]
  | x :: a, y :: b => by
    simp only [List.map_cons, PyData.eqvAll, PyData.eqv, eqv_ints a b]
    by_cases h : x = y <;> simp [h]
theorem eqv_ct (a b : Cn) : PyData.eqv (.tuple (a.map .int)) (.tuple (b.map .int)) = decide (a = b) := by simp only [PyData.eqv, eqv_ints]
theorem empty_ct (a b : Cn) : empty2 (ct a) (ct b) = if a = [] ∨ b = [] then some (decide (a = b)) else none := by
  show (if a.map D.int = [] ∨ b.map D.int = [] then some (decide ((a.map D.int).length = (b.map D.int).length)) else none) = _
  cases a <;> cases b <;> simp
theorem ne_ct (a b : Cn) (k) : gNeU (ct a) (ct b) k = k (.bl (!decide (a = b))) := by
  unfold gNeU
  rw [empty_ct]
  by_cases h : a = [] ∨ b = []
  · rw [if_pos h]
  · rw [if_neg h]
    show gNe _ _ _ = _
    rw [gNe_of (pd_ct a) (pd_ct b) (shaped_ct a) (shaped_ct b), eqv_ct]
theorem sort_pt {L : List Pc} {k : D → Prop} (nd : (L.map (·.1)).Nodup) (h : ∀ M : List Pc, M.Perm L → Asc M → k (.lst (M.map pt))) : gSortI [.lst (L.map pt)] k := by
  refine ⟨_, _, rfl, rfl, fun e he => ?_, ?_, fun es p s => ?_⟩
  · obtain ⟨q, _, rfl⟩ := List.mem_map.mp he
    rfl
  · rw [List.map_map]
    have e : (L.map (keyD ∘ pt)) = (L.map (·.1)).map some := by rw [List.map_map]; rfl
    rw [e]
    rw [List.Nodup, List.pairwise_map] at *
    rw [List.pairwise_map]
    exact nd.imp fun h z => h (Option.some.inj z)
  · obtain ⟨M, rfl, pm⟩ := perm_pt p
    exact h M pm (asc_pt s)
end DL

namespace DL
open PySem L2
def Bd (m : Nat) (L : List Pc) : Prop := ∀ q ∈ L, ∀ i ∈ q.2, i.natAbs ≤ m
theorem ro_ct {c : Cn} {k : Nat} (hk : 0 < k) (hk2 : k ≤ 500) (h : ∀ i ∈ c, i.natAbs < 10 ^ k) : RO (ct c) 1 (c.length * (k + 3) + 3) := by
  have := RO.tup (ds := c.map .int) (dp := 0) (n := k + 1) fun d hd => by
    obtain ⟨i, hi, rfl⟩ := List.mem_map.mp hd
    exact RO.int hk hk2 (h i hi)
  simpa [ct] using this
theorem ro_vt {p : Pt} {k : Nat} (hk : 0 < k) (hk2 : k ≤ 500) (h : p.1.natAbs < 10 ^ k) (h' : p.2.natAbs < 10 ^ k) : RO (vt p) 1 (2 * (k + 3) + 3) := by
  have := RO.tup (ds := [.int p.1, .int p.2]) (dp := 0) (n := k + 1) fun d hd => by
    rcases List.mem_cons.mp hd with rfl | hd
    · exact RO.int hk hk2 h
    · rw [List.mem_singleton] at hd; subst hd; exact RO.int hk hk2 h'
  simpa [vt] using this
theorem ro_pair {a b : D} {dp n : Nat} (h : RO a dp n) (h' : RO b dp n) : RO (.tup [a, b]) (dp + 1) (2 * (n + 2) + 3) := by
  have := RO.tup (ds := [a, b]) (dp := dp) (n := n) fun d hd => by
    rcases List.mem_cons.mp hd with rfl | hd
    · exact h
    · rw [List.mem_singleton] at hd; subst hd; exact h'
  simpa using this
theorem ro_pt {q : Pc} {n k : Nat} (hn : q.2.length = n) (hn2 : n ≤ 4) (hk : 0 < k) (hk2 : k ≤ 500) (h : q.1.1.natAbs < 10 ^ k) (h' : q.1.2.natAbs < 10 ^ k) (hc : ∀ i ∈ q.2, i.natAbs < 10 ^ k) : RO (pt q) 2 (8 * k + 37) := by
  have := ro_pair ((ro_vt hk hk2 h h').mono (Nat.le_refl _) (n := 4 * k + 15) (by omega)) ((ro_ct hk hk2 hc).mono (Nat.le_refl _) (n := 4 * k + 15) (by
    have : q.2.length * (k + 3) ≤ 4 * (k + 3) := Nat.mul_le_mul (by omega) (Nat.le_refl _)
    omega))
  exact this.mono (Nat.le_refl _) (by omega)
theorem canon_bd {n m : Nat} {ps : List Pc} (w : WF n ps) (h : Bd m ps) : Bd (ps.length * m) (canon n ps) := fun q hq i hi => by
  have e := ((canon_can w).mem q).1 hq
  have e2 : q.2 = sumAt n ps q.1 := by rw [← canon_at w]; exact e.2.symm
  obtain ⟨j, hj, ej⟩ := List.mem_iff_getElem.mp hi
  have g : q.2.getD j 0 = i := by rw [List.getD_eq_getElem?_getD, List.getElem?_eq_getElem hj]; simpa using ej
  rw [e2, sumAt_get w] at g
  rw [← g]
  clear hq hi e e2 hj ej g w
  induction ps with
  | nil => simp [cat]
  | cons p ps ih =>
    have ih := ih fun q hq => h q (List.mem_cons_of_mem _ hq)
    have e : cat j q.1 (p :: ps) = (if p.1 = q.1 then p.2.getD j 0 else 0) + cat j q.1 ps := by simp [cat]
    have hq : (p.2.getD j 0).natAbs ≤ m := by
      rw [List.getD_eq_getElem?_getD]
      by_cases z : j < p.2.length
      · rw [List.getElem?_eq_getElem z]
        exact h p List.mem_cons_self _ (List.getElem_mem z)
      · rw [List.getElem?_eq_none (by omega)]; simp
    rw [e, List.length_cons, Nat.succ_mul]
    split <;> omega
@[simp ↓] theorem gTp_vt (r : FGs) (p : Pt) (ρ k) : gTp r (vt p) ρ k = r [.int p.1, .int p.2] ρ k := (rfl)
@[simp ↓] theorem gTp_pt (r : FGs) (q : Pc) (ρ k) : gTp r (pt q) ρ k = r [vt q.1, ct q.2] ρ k := (rfl)
@[simp ↓] theorem gIx_vt0 (p : Pt) (k) : gIx (vt p) (.int 0) k = k (.int p.1) := by show gIx (.tup _) _ _ = _; simp
@[simp ↓] theorem gIx_vt1 (p : Pt) (k) : gIx (vt p) (.int 1) k = k (.int p.2) := by show gIx (.tup _) _ _ = _; simp
@[simp] theorem plD_vt (n : Nat) (p : Pt) : plD n (vt p) = decide (1 ≤ n) := by simp [vt]
@[simp] theorem plD_ct (n : Nat) (c : Cn) : plD n (ct c) = decide (1 ≤ n) := by
  have : ((c.map D.int).all (plD (n - 1))) = true := by simp
  simp only [ct, plD_tup, this, Bool.and_true]
@[simp] theorem plD_pt (n : Nat) (q : Pc) : plD n (pt q) = decide (2 ≤ n) := by
  simp only [pt, plD_tup, List.all_cons, List.all_nil, plD_vt, plD_ct, Bool.and_true, Bool.and_self]
  rw [← Bool.decide_and, decide_eq_decide]; omega
@[simp high] theorem all_vt (n : Nat) (V : List Pt) : (V.map vt).all (plD (n + 1)) = true := by simp
@[simp high] theorem all_pt (n : Nat) (L : List Pc) : (L.map pt).all (plD (n + 2)) = true := by simp
@[simp high] theorem all_ct (n : Nat) (L : List Cn) : (L.map ct).all (plD (n + 1)) = true := by simp
@[simp high] theorem all_int (n : Nat) (L : List Int) : (L.map D.int).all (plD n) = true := by simp
@[simp] theorem vt_inj (p q : Pt) : (vt p = vt q) = (p = q) := by
  obtain ⟨a, b⟩ := p
  obtain ⟨c, d⟩ := q
  simp [vt]
theorem map_inj {α β : Type} {f : α → β} (h : ∀ a b, f a = f b → a = b) : ∀ a b : List α, (a.map f = b.map f) = (a = b)
  | [], [] => by simp
  | [], _ :: _ => by simp
  | _ :: _, [] => by simp
  | x :: a, y :: b => by
    have ih := map_inj h a b
    simp only [List.map_cons, List.cons.injEq, ih]
    exact propext ⟨fun z => ⟨h _ _ z.1, z.2⟩, fun z => ⟨by rw [z.1], z.2⟩⟩
@[simp] theorem ct_inj (p q : Cn) : (ct p = ct q) = (p = q) := by
  unfold ct
  rw [D.tup.injEq, map_inj (by simp)]
@[simp] theorem pt_inj (p q : Pc) : (pt p = pt q) = (p = q) := by
  obtain ⟨a, b⟩ := p
  obtain ⟨c, d⟩ := q
  simp [pt]
@[simp] theorem map_vt_inj (a b : List Pt) : (a.map vt = b.map vt) = (a = b) := map_inj (by simp) a b
@[simp] theorem map_ct_inj (a b : List Cn) : (a.map ct = b.map ct) = (a = b) := map_inj (by simp) a b
@[simp] theorem map_pt_inj (a b : List Pc) : (a.map pt = b.map pt) = (a = b) := map_inj (by simp) a b
@[simp] theorem vt_eq_tup (p : Pt) (x y : Int) : (vt p = .tup [.int x, .int y]) = (p.1 = x ∧ p.2 = y) := by simp [vt]
@[simp] theorem tup_eq_vt (p : Pt) (x y : Int) : (D.tup [.int x, .int y] = vt p) = (x = p.1 ∧ y = p.2) := by simp [vt]
end DL

namespace DL
open PySem L2
theorem loop_each {α : Type} {g : FG} {B : FS} {S : SPo} {l : LockS S} {ρ : Env} (enc : α → D) (I : List α → Env → Prop) {xs : List α} (h0 : I xs ρ)
    (hs : ∀ x r ρ (N : Env → Prop), (∀ ρ', I r ρ' → N ρ') → I (x :: r) ρ → g (enc x) ρ fun ρ1 => B ρ1 (S.lp N)) (he : ∀ ρ, I [] ρ → S.nx ρ) : loopK g B S l (xs.map enc) ρ := by
  refine loop_inv (fun ds ρ => ∃ r, ds = List.map enc r ∧ I r ρ) (fun ρ ⟨r, e, i⟩ => ?_) (fun d ds ρ N hN ⟨r, e, i⟩ => ?_) _ _ ⟨xs, rfl, h0⟩
  · have : r = [] := by simpa using e.symm
    subst this; exact he ρ i
  · cases r with
    | nil => cases e
    | cons x r =>
      simp only [List.map_cons, List.cons.injEq] at e
      obtain ⟨rfl, rfl⟩ := e
      exact hs x r ρ N (fun ρ' q => hN ρ' ⟨r, rfl, q⟩) i
theorem loop_range {g : FG} {B : FS} {S : SPo} {l : LockS S} {ρ : Env} {n : Nat} (I : Nat → Env → Prop) (h0 : I 0 ρ)
    (hs : ∀ (j : Nat) ρ (N : Env → Prop), j < n → (∀ ρ', I (j + 1) ρ' → N ρ') → I j ρ → g (.int j) ρ fun ρ1 => B ρ1 (S.lp N)) (he : ∀ ρ, I n ρ → S.nx ρ) :
    loopK g B S l ((List.range n).map fun k : Nat => D.int (k : Int)) ρ := by
  refine loop_each (fun k : Nat => D.int (k : Int)) (fun r ρ => ∃ j, r = List.range' j r.length ∧ j + r.length = n ∧ I j ρ) ⟨0, by simp [List.range_eq_range'], by simp, h0⟩ (fun x r ρ N hN ⟨j, e, hj, i⟩ => ?_) (fun ρ ⟨j, e, hj, i⟩ => ?_)
  · simp only [List.length_cons, List.range'_succ, List.cons.injEq] at e hj
    obtain ⟨rfl, e⟩ := e
    exact hs x ρ N (by omega) (fun ρ' q => hN ρ' ⟨x + 1, e, by omega, q⟩) i
  · simp at hj
    subst hj
    exact he ρ i
@[simp ↓] theorem gList_tupS (a : List D) (k : D → Prop) : gList [.tup a] k = k (.lst a) := propext ⟨fun ⟨d, es, e, h, q⟩ => by
  cases e
  rcases h with h | h
  · cases h; exact q
  · (cases h), gList_tup a k⟩
@[simp ↓] theorem gList_lstS (a : List D) (k : D → Prop) : gList [.lst a] k = k (.lst a) := propext ⟨fun ⟨d, es, e, h, q⟩ => by
  cases e
  rcases h with h | h
  · cases h
  · cases h; exact q, gList_lst a k⟩
end DL

/-! DP10: two rows of whole numbers with one repr are one. -/
namespace DL
open PySem
def cl (x : Str) : List Nat := x.cps.toList
end DL

/-! DP11: whole square roots by halving, whole roots of a curve. -/
namespace DL
/-! ### roots -/
/-- all q from 0 on with Z q: none for all, or the ascending list -/
def RtsD (Z : Int → Prop) (d : D) : Prop := (d = .non ∧ ∀ q, 0 ≤ q → Z q) ∨ ∃ ms : List Int, d = .lst (ms.map .int) ∧ ms.Pairwise (· < ·) ∧ ms.length ≤ 2 ∧ ∀ q, q ∈ ms ↔ 0 ≤ q ∧ Z q
theorem RtsD.congr {Z Z' : Int → Prop} {d : D} (h : RtsD Z d) (e : ∀ q, 0 ≤ q → (Z q ↔ Z' q)) : RtsD Z' d := by
  rcases h with ⟨h1, h2⟩ | ⟨ms, h1, h2, h3, h4⟩
  · exact .inl ⟨h1, fun q hq => (e q hq).1 (h2 q hq)⟩
  · exact .inr ⟨ms, h1, h2, h3, fun q => (h4 q).trans ⟨fun h => ⟨h.1, (e q h.1).1 h.2⟩, fun h => ⟨h.1, (e q h.1).2 h.2⟩⟩⟩
end DL

/-! DP12: how often a place is hit at one seat of a round. -/
namespace DL
end DL

/-! DP13: zeros of a curve found by halving. -/
namespace DL
/-- what tells the zeros from 0 to last -/
def ZsD (Z : Int → Prop) (last : Int) (d : D) : Prop := (d = .non ∧ ∀ q, 0 ≤ q → Z q) ∨ ∃ ms : List Int, d = .lst (ms.map .int) ∧ ms.Pairwise (· < ·) ∧ ms.length ≤ 2 ∧ ∀ q, q ∈ ms ↔ 0 ≤ q ∧ q ≤ last ∧ Z q
theorem ZsD.congr {Z Z' : Int → Prop} {last : Int} {d : D} (h : ZsD Z last d) (e : ∀ q, 0 ≤ q → (Z q ↔ Z' q)) : ZsD Z' last d := by
  rcases h with ⟨h1, h2⟩ | ⟨ms, h1, h2, h3, h4⟩
  · exact .inl ⟨h1, fun q hq => (e q hq).1 (h2 q hq)⟩
  · exact .inr ⟨ms, h1, h2, h3, fun q => by rw [h4 q]; exact ⟨fun z => ⟨z.1, z.2.1, (e q z.1).1 z.2.2⟩, fun z => ⟨z.1, z.2.1, (e q z.1).2 z.2.2⟩⟩⟩
end DL

namespace DL
open PySem L2
open PyProof.Rows hiding St
/-- the law's walk over a part of the heap that the Hook found -/
theorem walk_ofGE {l : PySem.W.OpenLaw} {k : Nat} {q : Program} {loose : List Str} {XP : (Str → Option Value) → Heap → Prop} {YP : World → Heap → Prop} {d : DefRec}
    (hn : l.most = some 63) (nodf : d.params.defaults = []) (room : Room k callerA)
    (F : ∀ (w : World) (mg : Str → Option Value) (fa : Addr) (h : Heap), YP w h → h.Ns mainGlobals mg → mg d.name = some (.ref fa) → ∃ K : PySem.W.Frag, K.In h ∧ DH.TabsThere K h ∧ ∀ base : Heap, K.In base → base.Ns mainGlobals mg → FnG l.prog w K mg base k fa (spLaw K)) :
    PySem.W.WalkO q loose XP YP l.row.toRowW d [] (fun f vs => PySem.call f vs) :=
  Att.attach_call hn nodf fun w s₀ s₁ mg mb fa o pm cd doc a vs ns G Y ho hd hcd hmg hobj hints hlen hg => by
    obtain ⟨K, KX, hT, hF⟩ := F w mg fa _ Y G.T.g hmg
    exact law_callGT KX hT G.T.g G.T.b G.T.builtins G.T.nolimit hg hobj hints (Nat.le_trans hlen (by decide)) room hF fun H hO hS => ⟨a, ns, rfl, hS, hlen, hO, fun _ => rfl⟩
end DL

/-! the walk, printed by gen.py -/
namespace LAW
open PySem L2 DL
open PyProof.Rows hiding St
structure Tx (K : PySem.W.Frag) (mg : Str → Option Value) where
  C_Field : Addr
  ic_Field : IsCl K "Field" C_Field
  cl_Field : Cls K C_Field
  mc_Field : mg "Field" = some (.ref C_Field)
  cr_Field : ClX.CRead K C_Field (.type "type")
  u_Field_GREATEST : Value
  cv_Field_GREATEST : ClX.CVal K C_Field (.type "type") "GREATEST" (.int 9) u_Field_GREATEST
  u_Field_MOST_KINDS : Value
  cv_Field_MOST_KINDS : ClX.CVal K C_Field (.type "type") "MOST_KINDS" (.int 4) u_Field_MOST_KINDS
  if_Field : IsiF K C_Field
  na_Field_vectors : NoAttr K C_Field "vectors"
  C_State : Addr
  ic_State : IsCl K "State" C_State
  cl_State : Cls K C_State
  mc_State : mg "State" = some (.ref C_State)
  cr_State : ClX.CRead K C_State (.type "type")
  if_State : IsiF K C_State
  na_State_ground : NoAttr K C_State "ground"
  na_State_key : NoAttr K C_State "key"
  na_State_laid : NoAttr K C_State "laid"
  na_State_rows : NoAttr K C_State "rows"
  na_State_stand : NoAttr K C_State "stand"
  a_l_pen : Addr
  fd_l_pen : FuncData
  F_l_pen : FunG K "_law_pen" "_law_pen" s_l_pen a_l_pen fd_l_pen
  b_l_pen : Binds K fd_l_pen ["_law_script"] []
  m_l_pen : mg "_law_pen" = some (.ref a_l_pen)
  k_l_pen : PySem.W.keepIn K (.ref a_l_pen) = true
  a_l_draw : Addr
  fd_l_draw : FuncData
  F_l_draw : FunG K "_law_draw" "_law_draw" s_l_draw a_l_draw fd_l_draw
  b_l_draw : Binds K fd_l_draw ["_law_pen_here", "_law_many"] []
  m_l_draw : mg "_law_draw" = some (.ref a_l_draw)
  k_l_draw : PySem.W.keepIn K (.ref a_l_draw) = true
  a_l_pulls : Addr
  fd_l_pulls : FuncData
  F_l_pulls : FunG K "_law_pulls" "_law_pulls" s_l_pulls a_l_pulls fd_l_pulls
  b_l_pulls : Binds K fd_l_pulls ["_law_pen_here", "_law_most"] []
  m_l_pulls : mg "_law_pulls" = some (.ref a_l_pulls)
  k_l_pulls : PySem.W.keepIn K (.ref a_l_pulls) = true
  a_l_place : Addr
  fd_l_place : FuncData
  F_l_place : FunG K "_law_place" "_law_place" s_l_place a_l_place fd_l_place
  b_l_place : Binds K fd_l_place ["_law_pen_here", "_law_wide"] []
  m_l_place : mg "_law_place" = some (.ref a_l_place)
  k_l_place : PySem.W.keepIn K (.ref a_l_place) = true
  a_l_counts : Addr
  fd_l_counts : FuncData
  F_l_counts : FunG K "_law_counts" "_law_counts" s_l_counts a_l_counts fd_l_counts
  b_l_counts : Binds K fd_l_counts ["_law_pen_here", "_law_many", "_law_most"] []
  m_l_counts : mg "_law_counts" = some (.ref a_l_counts)
  k_l_counts : PySem.W.keepIn K (.ref a_l_counts) = true
  a_l_deal : Addr
  fd_l_deal : FuncData
  F_l_deal : FunG K "_law_deal" "_law_deal" s_l_deal a_l_deal fd_l_deal
  b_l_deal : Binds K fd_l_deal ["_law_pen_here", "_law_many", "_law_most"] []
  m_l_deal : mg "_law_deal" = some (.ref a_l_deal)
  k_l_deal : PySem.W.keepIn K (.ref a_l_deal) = true
  a_is_integer : Addr
  fd_is_integer : FuncData
  F_is_integer : FunG K "is_integer" "is_integer" s_is_integer a_is_integer fd_is_integer
  b_is_integer : Binds K fd_is_integer ["value"] []
  m_is_integer : mg "is_integer" = some (.ref a_is_integer)
  k_is_integer : PySem.W.keepIn K (.ref a_is_integer) = true
  a_is_pair : Addr
  fd_is_pair : FuncData
  F_is_pair : FunG K "is_pair" "is_pair" s_is_pair a_is_pair fd_is_pair
  b_is_pair : Binds K fd_is_pair ["value"] []
  m_is_pair : mg "is_pair" = some (.ref a_is_pair)
  k_is_pair : PySem.W.keepIn K (.ref a_is_pair) = true
  a_is_pull : Addr
  fd_is_pull : FuncData
  F_is_pull : FunG K "is_pull" "is_pull" s_is_pull a_is_pull fd_is_pull
  b_is_pull : Binds K fd_is_pull ["value"] []
  m_is_pull : mg "is_pull" = some (.ref a_is_pull)
  k_is_pull : PySem.W.keepIn K (.ref a_is_pull) = true
  a_Field___init__ : Addr
  fd_Field___init__ : FuncData
  F_Field___init__ : FunG K "__init__" "Field.__init__" s_Field___init__ a_Field___init__ fd_Field___init__
  b_Field___init__ : ∀ us rest : List Value, us.length = (["self"] : List Str).length → bindArgs fd_Field___init__ ⟨us ++ rest, []⟩ = (newTuple rest >>= fun t => pure (List.zip (["self"] : List Str) us ++ [(("pulls" : Str), t)]))
  mk_Field : Mk K C_Field a_Field___init__
  a_l_field : Addr
  fd_l_field : FuncData
  F_l_field : FunG K "_law_field" "_law_field" s_l_field a_l_field fd_l_field
  b_l_field : Binds K fd_l_field ["_law_pulls_here"] []
  m_l_field : mg "_law_field" = some (.ref a_l_field)
  k_l_field : PySem.W.keepIn K (.ref a_l_field) = true
  a_Field_kinds : Addr
  fd_Field_kinds : FuncData
  F_Field_kinds : FunG K "kinds" "Field.kinds" s_Field_kinds a_Field_kinds fd_Field_kinds
  b_Field_kinds : Binds K fd_Field_kinds ["self"] []
  q_Field_kinds : Addr
  pr_Field_kinds : PropOf K C_Field "kinds" q_Field_kinds a_Field_kinds
  a_are_counts : Addr
  fd_are_counts : FuncData
  F_are_counts : FunG K "are_counts" "are_counts" s_are_counts a_are_counts fd_are_counts
  b_are_counts : Binds K fd_are_counts ["field", "value"] []
  m_are_counts : mg "are_counts" = some (.ref a_are_counts)
  k_are_counts : PySem.W.keepIn K (.ref a_are_counts) = true
  a_is_piece : Addr
  fd_is_piece : FuncData
  F_is_piece : FunG K "is_piece" "is_piece" s_is_piece a_is_piece fd_is_piece
  b_is_piece : Binds K fd_is_piece ["field", "value"] []
  m_is_piece : mg "is_piece" = some (.ref a_is_piece)
  k_is_piece : PySem.W.keepIn K (.ref a_is_piece) = true
  a_added : Addr
  fd_added : FuncData
  F_added : FunG K "added" "added" s_added a_added fd_added
  b_added : Binds K fd_added ["one", "other"] []
  m_added : mg "added" = some (.ref a_added)
  k_added : PySem.W.keepIn K (.ref a_added) = true
  a_merged : Addr
  fd_merged : FuncData
  F_merged : FunG K "merged" "merged" s_merged a_merged fd_merged
  b_merged : Binds K fd_merged ["pieces"] []
  m_merged : mg "merged" = some (.ref a_merged)
  k_merged : PySem.W.keepIn K (.ref a_merged) = true
  a_State___init__ : Addr
  fd_State___init__ : FuncData
  F_State___init__ : FunG K "__init__" "State.__init__" s_State___init__ a_State___init__ fd_State___init__
  b_State___init__ : ∀ us rest : List Value, us.length = (["self", "field", "position"] : List Str).length → bindArgs fd_State___init__ ⟨us ++ rest, []⟩ = (newTuple rest >>= fun t => pure (List.zip (["self", "field", "position"] : List Str) us ++ [(("pieces" : Str), t)]))
  mk_State : Mk K C_State a_State___init__
  a_l_made : Addr
  fd_l_made : FuncData
  F_l_made : FunG K "_law_made" "_law_made" s_l_made a_l_made fd_l_made
  b_l_made : Binds K fd_l_made ["_law_ground", "_law_spot", "_law_heap"] []
  m_l_made : mg "_law_made" = some (.ref a_l_made)
  k_l_made : PySem.W.keepIn K (.ref a_l_made) = true
  a_l_laid : Addr
  fd_l_laid : FuncData
  F_l_laid : FunG K "_law_laid" "_law_laid" s_l_laid a_l_laid fd_l_laid
  b_l_laid : Binds K fd_l_laid ["_law_pieces"] []
  m_l_laid : mg "_law_laid" = some (.ref a_l_laid)
  k_l_laid : PySem.W.keepIn K (.ref a_l_laid) = true
  a_State_parts : Addr
  fd_State_parts : FuncData
  F_State_parts : FunG K "parts" "State.parts" s_State_parts a_State_parts fd_State_parts
  b_State_parts : Binds K fd_State_parts ["self"] []
  q_State_parts : Addr
  pr_State_parts : PropOf K C_State "parts" q_State_parts a_State_parts
  a_State_position : Addr
  fd_State_position : FuncData
  F_State_position : FunG K "position" "State.position" s_State_position a_State_position fd_State_position
  b_State_position : Binds K fd_State_position ["self"] []
  q_State_position : Addr
  pr_State_position : PropOf K C_State "position" q_State_position a_State_position
  a_State_pieces : Addr
  fd_State_pieces : FuncData
  F_State_pieces : FunG K "pieces" "State.pieces" s_State_pieces a_State_pieces fd_State_pieces
  b_State_pieces : Binds K fd_State_pieces ["self"] []
  q_State_pieces : Addr
  pr_State_pieces : PropOf K C_State "pieces" q_State_pieces a_State_pieces
  a_State___len__ : Addr
  fd_State___len__ : FuncData
  F_State___len__ : FunG K "__len__" "State.__len__" s_State___len__ a_State___len__ fd_State___len__
  b_State___len__ : Binds K fd_State___len__ ["self"] []
  mt_State___len__ : Meth K C_State "__len__" a_State___len__
  gs_State___len__ : PySem.W.findIn K (.ref C_State) "__len__" = some (some (.ref a_State___len__))
  gi_State___len__ : PySem.W.isFn K (.ref a_State___len__) = true
  a_Field___eq__ : Addr
  fd_Field___eq__ : FuncData
  F_Field___eq__ : FunG K "__eq__" "Field.__eq__" s_Field___eq__ a_Field___eq__ fd_Field___eq__
  b_Field___eq__ : Binds K fd_Field___eq__ ["self", "other"] []
  mt_Field___eq__ : Meth K C_Field "__eq__" a_Field___eq__
  ef_Field : EqFacts K C_Field a_Field___eq__
  a_State_field : Addr
  fd_State_field : FuncData
  F_State_field : FunG K "field" "State.field" s_State_field a_State_field fd_State_field
  b_State_field : Binds K fd_State_field ["self"] []
  q_State_field : Addr
  pr_State_field : PropOf K C_State "field" q_State_field a_State_field
  a_State___getitem__ : Addr
  fd_State___getitem__ : FuncData
  F_State___getitem__ : FunG K "__getitem__" "State.__getitem__" s_State___getitem__ a_State___getitem__ fd_State___getitem__
  b_State___getitem__ : Binds K fd_State___getitem__ ["self", "place"] []
  mt_State___getitem__ : Meth K C_State "__getitem__" a_State___getitem__
  gs_State___getitem__ : PySem.W.findIn K (.ref C_State) "__getitem__" = some (some (.ref a_State___getitem__))
  gf_State___getitem__ : PySem.W.fnIn K a_State___getitem__ = true
  gi_State___getitem__ : PySem.W.isFn K (.ref a_State___getitem__) = true
  a_State___contains__ : Addr
  fd_State___contains__ : FuncData
  F_State___contains__ : FunG K "__contains__" "State.__contains__" s_State___contains__ a_State___contains__ fd_State___contains__
  b_State___contains__ : Binds K fd_State___contains__ ["self", "place"] []
  mt_State___contains__ : Meth K C_State "__contains__" a_State___contains__
  a_l_places_right : Addr
  fd_l_places_right : FuncData
  F_l_places_right : FunG K "_law_places_right" "_law_places_right" s_l_places_right a_l_places_right fd_l_places_right
  b_l_places_right : Binds K fd_l_places_right ["_law_state", "_law_due", "_law_pulls_here", "_law_some"] []
  m_l_places_right : mg "_law_places_right" = some (.ref a_l_places_right)
  k_l_places_right : PySem.W.keepIn K (.ref a_l_places_right) = true
  a_State___eq__ : Addr
  fd_State___eq__ : FuncData
  F_State___eq__ : FunG K "__eq__" "State.__eq__" s_State___eq__ a_State___eq__ fd_State___eq__
  b_State___eq__ : Binds K fd_State___eq__ ["self", "other"] []
  mt_State___eq__ : Meth K C_State "__eq__" a_State___eq__
  ef_State : EqFacts K C_State a_State___eq__
  a_State_totals : Addr
  fd_State_totals : FuncData
  F_State_totals : FunG K "totals" "State.totals" s_State_totals a_State_totals fd_State_totals
  b_State_totals : Binds K fd_State_totals ["self"] []
  q_State_totals : Addr
  pr_State_totals : PropOf K C_State "totals" q_State_totals a_State_totals
  a_State_velocity : Addr
  fd_State_velocity : FuncData
  F_State_velocity : FunG K "velocity" "State.velocity" s_State_velocity a_State_velocity fd_State_velocity
  b_State_velocity : Binds K fd_State_velocity ["self"] []
  q_State_velocity : Addr
  pr_State_velocity : PropOf K C_State "velocity" q_State_velocity a_State_velocity
  a_State_shifted : Addr
  fd_State_shifted : FuncData
  F_State_shifted : FunG K "shifted" "State.shifted" s_State_shifted a_State_shifted fd_State_shifted
  b_State_shifted : Binds K fd_State_shifted ["self", "by"] []
  mt_State_shifted : Meth K C_State "shifted" a_State_shifted
  a_l_moved : Addr
  fd_l_moved : FuncData
  F_l_moved : FunG K "_law_moved" "_law_moved" s_l_moved a_l_moved fd_l_moved
  b_l_moved : Binds K fd_l_moved ["_law_due", "_law_by"] []
  m_l_moved : mg "_law_moved" = some (.ref a_l_moved)
  k_l_moved : PySem.W.keepIn K (.ref a_l_moved) = true
  a_State_empty : Addr
  fd_State_empty : FuncData
  F_State_empty : FunG K "empty" "State.empty" s_State_empty a_State_empty fd_State_empty
  v0_State_empty : Value
  u_State_empty : KT K [0, 0] v0_State_empty
  b_State_empty : Binds K fd_State_empty ["cls", "field", "position"] [v0_State_empty]
  bf_State_empty : Binds K fd_State_empty ["cls", "field", "position"] []
  p_State_empty : Addr
  cm_State_empty : ClX.CMet K C_State (.type "type") "empty" p_State_empty a_State_empty
  a_l_right : Addr
  fd_l_right : FuncData
  F_l_right : FunG K "_law_right" "_law_right" s_l_right a_l_right fd_l_right
  b_l_right : Binds K fd_l_right ["_law_pulls_here", "_law_spot", "_law_heap", "_law_by"] []
  m_l_right : mg "_law_right" = some (.ref a_l_right)
  k_l_right : PySem.W.keepIn K (.ref a_l_right) = true
  n_abs : mg "abs" = none
  n_all : mg "all" = none
  n_any : mg "any" = none
  n_bool : mg "bool" = none
  n_dict : mg "dict" = none
  n_int : mg "int" = none
  n_isinstance : mg "isinstance" = none
  n_len : mg "len" = none
  n_list : mg "list" = none
  n_max : mg "max" = none
  n_range : mg "range" = none
  n_repr : mg "repr" = none
  n_sorted : mg "sorted" = none
  n_sum : mg "sum" = none
  n_tuple : mg "tuple" = none
  n_zip : mg "zip" = none
/-- _law_pen(_law_script); slots: 0 _law_script -/
def F_l_pen : FE :=
  (fDict (fKvs (fC (.str "cells")) (fCut (fVar 0) oNone (oSome (fC (.int 63)))) (fKvs (fC (.str "at")) (fC (.int 0)) (fKvs (fC (.str "rest")) (fC (.int 0)) fKvs0))))
def G_l_pen : DFn := fun ρ post xp => F_l_pen (ρ ++ List.replicate 0 none) (fun d ρ1 => post d (maskF [] 0 1 ρ1)) (fun c ρ1 => xp c (maskF [] 0 1 ρ1))
/-- _law_draw(_law_pen_here, _law_many); slots: 0 _law_pen_here, 1 _law_many, 2 _law_digit, 3 _law_at, 4 _law_cell, 5 _law_great, 6 _law_mixed -/
def F_l_draw : FS :=
  (fSeq (fIfS (fTest (fBin gGtU (fBinL gIx 0 (fC (.str "rest"))) (fC (.int 0))))
    (fSeq (fSet 2 (fBin gFmod (fBinL gIx 0 (fC (.str "rest"))) (fVar 1)))
    (fSeq (fPutO 0 (fBin gFdiv (fBinL gIx 0 (fC (.str "rest"))) (fVar 1)) (fC (.str "rest")))
    (fRet (fVar 2))))
    fNext)
    (fSeq (fSet 3 (fBinL gIx 0 (fC (.str "at"))))
    (fSeq (fPutO 0 (fBin gAdd (fVar 3) (fC (.int 1))) (fC (.str "at")))
    (fSeq (fSet 4 (fBin gAdd (fBin gMul (fC (.int 30269)) (fVar 3)) (fC (.int 97))))
    (fSeq (fIfS (fTest (fBin gNeU (fBinL gIx 0 (fC (.str "cells"))) (fLstE fNil)))
    (fSet 4 (fBin gIx (fBinL gIx 0 (fC (.str "cells"))) (fBin gFmod (fVar 3) (fN gLen (fCons (fBinL gIx 0 (fC (.str "cells"))) fNil)))))
    fNext)
    (fSeq (fIfS (fAnd (fTest (fBin gLt (fVar 3) (fN gLen (fCons (fBinL gIx 0 (fC (.str "cells"))) fNil)))) (fTest (fBin gGe (fN gAbs (fCons (fVar 4) fNil)) (fBin gPow (fC (.int 10)) (fC (.int 18))))))
    (fSeq (fSet 5 (fBin gAdd (fBin gMul (fC (.int 2)) (fN gAbs (fCons (fVar 4) fNil))) (fN gInt (fCons (fBin gLt (fVar 4) (fC (.int 0))) fNil))))
    (fSeq (fPutO 0 (fBin gFdiv (fVar 5) (fVar 1)) (fC (.str "rest")))
    (fRet (fBin gFmod (fVar 5) (fVar 1)))))
    fNext)
    (fSeq (fSet 6 (fBin gFmod (fBin gPow (fBin gAdd (fBin gAdd (fBin gFmod (fVar 4) (fC (.int 2147483587))) (fBin gMul (fC (.int 40093)) (fVar 3))) (fC (.int 11))) (fC (.int 5))) (fC (.int 2147483647))))
    (fSeq (fSet 6 (fBin gFmod (fBin gPow (fBin gAdd (fBin gMul (fVar 6) (fBin gAdd (fVar 3) (fC (.int 50021)))) (fBin gMul (fBin gMul (fC (.int 70051)) (fVar 3)) (fVar 3))) (fC (.int 3))) (fC (.int 2147483629))))
    (fRet (fBin gFmod (fBin gFdiv (fVar 6) (fC (.int 64))) (fVar 1)))))))))))
def G_l_draw : DFn := fun ρ post xp => F_l_draw (ρ ++ List.replicate 5 none) (endS [0] 2 post xp)
/-- _law_pulls(_law_pen_here, _law_most); slots: 0 _law_pen_here, 1 _law_most, 2 _law_way, 3 _law_many, 4 _law_a, 5 _law_b, 6 _law_found, 7 _law_k, 8 _law_x, 9 _law_y, 10 _law_times, 11 _law_some -/
def F_l_pulls : FS :=
  (fSeq (fSet 2 (fCall G_l_draw [some 0, none] (oOwn 0 (oVal (fC (.int 4)) oNil))))
    (fSeq (fSet 3 (fBin gAdd (fC (.int 1)) (fCall G_l_draw [some 0, none] (oOwn 0 (oVal (fC (.int 4)) oNil)))))
    (fSeq (fPar 4 5 (fCons (fBin gSub (fCall G_l_draw [some 0, none] (oOwn 0 (oVal (fBin gAdd (fBin gMul (fC (.int 2)) (fVar 1)) (fC (.int 1))) oNil))) (fVar 1)) (fCons (fBin gSub (fCall G_l_draw [some 0, none] (oOwn 0 (oVal (fBin gAdd (fBin gMul (fC (.int 2)) (fVar 1)) (fC (.int 1))) oNil))) (fVar 1)) fNil)))
    (fSeq (fSetN 6 (fLstE fNil))
    (fSeq (fFor (fRange1 (fCons (fVar 3) fNil)) (gNm 7)
    (fSeq (fPar 8 9 (fCons (fBin gSub (fCall G_l_draw [some 0, none] (oOwn 0 (oVal (fBin gAdd (fBin gMul (fC (.int 2)) (fVar 1)) (fC (.int 1))) oNil))) (fVar 1)) (fCons (fBin gSub (fCall G_l_draw [some 0, none] (oOwn 0 (oVal (fBin gAdd (fBin gMul (fC (.int 2)) (fVar 1)) (fC (.int 1))) oNil))) (fVar 1)) fNil)))
    (fSeq (fSet 10 (fBin gSub (fBin gMul (fCall G_l_draw [some 0, none] (oOwn 0 (oVal (fC (.int 2)) oNil))) (fC (.int 2))) (fC (.int 1))))
    (fSeq (fSet 11 (fBin gIx (fLstE (fCons (fTupE (fCons (fVar 8) (fCons (fVar 9) fNil))) (fCons (fBin gIx (fLstE (fCons (fTupE (fCons (fC (.int 1)) (fCons (fC (.int 0)) fNil))) (fCons (fTupE (fCons (fC (.int 0)) (fCons (fC (.int 1)) fNil))) (fCons (fTupE (fCons (fUn gNeg (fC (.int 1))) (fCons (fC (.int 0)) fNil))) (fCons (fTupE (fCons (fC (.int 1)) (fCons (fC (.int 1)) fNil))) fNil))))) (fVar 7)) (fCons (fTupE (fCons (fBin gMul (fVar 10) (fVar 4)) (fCons (fBin gMul (fVar 10) (fVar 5)) fNil))) (fCons (fTupE (fCons (fVar 4) (fCons (fVar 5) fNil))) fNil))))) (fVar 2)))
    (fAppend 6 (fIf (fTest (fBin gNeU (fVar 11) (fTupE (fCons (fC (.int 0)) (fCons (fC (.int 0)) fNil))))) (fVar 11) (fTupE (fCons (fC (.int 1)) (fCons (fBin gSub (fC (.int 0)) (fVar 1)) fNil)))))))))
    (fRet (fN gTuple (fCons (fVar 6) fNil))))))))
def G_l_pulls : DFn := fun ρ post xp => F_l_pulls (ρ ++ List.replicate 10 none) (endS [0] 2 post xp)
/-- _law_place(_law_pen_here, _law_wide); slots: 0 _law_pen_here, 1 _law_wide, 2 _law_x, 3 _law_y, 4 _law_far -/
def F_l_place : FS :=
  (fSeq (fPar 2 3 (fCons (fBin gSub (fCall G_l_draw [some 0, none] (oOwn 0 (oVal (fBin gAdd (fBin gMul (fC (.int 2)) (fVar 1)) (fC (.int 1))) oNil))) (fVar 1)) (fCons (fBin gSub (fCall G_l_draw [some 0, none] (oOwn 0 (oVal (fBin gAdd (fBin gMul (fC (.int 2)) (fVar 1)) (fC (.int 1))) oNil))) (fVar 1)) fNil)))
    (fSeq (fSet 4 (fBin gIx (fLstE (fCons (fC (.int 1)) (fCons (fBin gFdiv (fBin gPow (fC (.int 10)) (fC (.int 11))) (fN gMax2 (fCons (fC (.int 1)) (fCons (fVar 1) fNil)))) fNil))) (fN gInt (fCons (fBin gEqU (fCall G_l_draw [some 0, none] (oOwn 0 (oVal (fC (.int 6)) oNil))) (fC (.int 0))) fNil))))
    (fRet (fTupE (fCons (fBin gMul (fVar 2) (fVar 4)) (fCons (fBin gMul (fVar 3) (fVar 4)) fNil))))))
def G_l_place : DFn := fun ρ post xp => F_l_place (ρ ++ List.replicate 3 none) (endS [0] 2 post xp)
/-- _law_counts(_law_pen_here, _law_many, _law_most); slots: 0 _law_pen_here, 1 _law_many, 2 _law_most, 3 _law_found, 4 _law_k, 5 _law_some -/
def F_l_counts : FS :=
  (fSeq (fSetN 3 (fLstE fNil))
    (fSeq (fFor (fRange1 (fCons (fVar 1) fNil)) (gNm 4)
    (fSeq (fSet 5 (fLstE (fCons (fC (.int 0)) (fCons (fBin gSub (fCall G_l_draw [some 0, none] (oOwn 0 (oVal (fBin gAdd (fBin gMul (fC (.int 2)) (fVar 2)) (fC (.int 1))) oNil))) (fVar 2)) fNil))))
    (fAppend 3 (fBin gIx (fVar 5) (fCall G_l_draw [some 0, none] (oOwn 0 (oVal (fC (.int 2)) oNil)))))))
    (fRet (fN gTuple (fCons (fVar 3) fNil)))))
def G_l_counts : DFn := fun ρ post xp => F_l_counts (ρ ++ List.replicate 3 none) (endS [0] 3 post xp)
/-- _law_deal(_law_pen_here, _law_many, _law_most); slots: 0 _law_pen_here, 1 _law_many, 2 _law_most, 3 _law_way, 4 _law_wide, 5 _law_pulls_here, 6 _law_spot, 7 _law_heap, 8 _law_k, 9 _law_count -/
def F_l_deal : FS :=
  (fSeq (fSet 3 (fCall G_l_draw [some 0, none] (oOwn 0 (oVal (fC (.int 4)) oNil))))
    (fSeq (fSet 4 (fBin gIx (fLstE (fCons (fC (.int 0)) (fCons (fC (.int 1)) (fCons (fC (.int 4)) (fCons (fC (.int 30)) fNil))))) (fCall G_l_draw [some 0, none] (oOwn 0 (oVal (fC (.int 4)) oNil)))))
    (fSeq (fSet 5 (fCall G_l_pulls [some 0, none] (oOwn 0 (oVal (fBin gIx (fLstE (fCons (fC (.int 1)) (fCons (fC (.int 2)) (fCons (fC (.int 9)) fNil)))) (fCall G_l_draw [some 0, none] (oOwn 0 (oVal (fC (.int 3)) oNil)))) oNil))))
    (fSeq (fSet 6 (fCall G_l_place [some 0, none] (oOwn 0 (oVal (fVar 4) oNil))))
    (fSeq (fSetN 7 (fLstE fNil))
    (fSeq (fFor (fRange1 (fCons (fCall G_l_draw [some 0, none] (oOwn 0 (oVal (fBin gAdd (fVar 1) (fC (.int 1))) oNil))) fNil)) (gNm 8)
    (fAppend 7 (fTupE (fCons (fCall G_l_place [some 0, none] (oOwn 0 (oVal (fVar 4) oNil))) (fCons (fCall G_l_counts [some 0, none, none] (oOwn 0 (oVal (fN gLen (fCons (fVar 5) fNil)) (oVal (fVar 2) oNil)))) fNil)))))
    (fSeq (fIfS (fAnd (fTest (fBin gEqU (fVar 3) (fC (.int 0)))) (fTest (fBinL gNeU 7 (fLstE fNil))))
    (fAppend 7 (fTupE (fCons (fBin gIx (fBinL gIx 7 (fC (.int 0))) (fC (.int 0))) (fCons (fN gTuple (fCons (fLc (fSeqI (fBin gIx (fBinL gIx 7 (fC (.int 0))) (fC (.int 1)))) [9] (gNm 9) tYesD (fBin gSub (fC (.int 0)) (fVar 9))) fNil)) fNil))))
    fNext)
    (fRet (fTupE (fCons (fVar 5) (fCons (fVar 6) (fCons (fVar 7) fNil))))))))))))
def G_l_deal : DFn := fun ρ post xp => F_l_deal (ρ ++ List.replicate 7 none) (endS [0] 3 post xp)
/-- is_integer(value); slots: 0 value -/
def F_is_integer : FS :=
  (fRet (fAndV (fN (gIsi .int) (fCons (fVar 0) (fCons (fC (.ty "int")) fNil))) (fNotV (fN (gIsi .bool) (fCons (fVar 0) (fCons (fC (.ty "bool")) fNil))))))
def G_is_integer : DFn := fun ρ post xp => F_is_integer (ρ ++ List.replicate 0 none) (endS [] 1 post xp)
/-- is_pair(value); slots: 0 value -/
def F_is_pair : FS :=
  (fRet (fAndV (fN (gIsi .tuple) (fCons (fVar 0) (fCons (fC (.ty "tuple")) fNil))) (fAndV (fBin gEqU (fN gLen (fCons (fVar 0) fNil)) (fC (.int 2))) (fAndV (fCall G_is_integer [none] (oVal (fBin gIx (fVar 0) (fC (.int 0))) oNil)) (fCall G_is_integer [none] (oVal (fBin gIx (fVar 0) (fC (.int 1))) oNil))))))
def G_is_pair : DFn := fun ρ post xp => F_is_pair (ρ ++ List.replicate 0 none) (endS [] 1 post xp)
/-- is_pull(value); slots: 0 value -/
def F_is_pull : FS :=
  (fSeq (fIfS (fOr (fNot (fTest (fCall G_is_pair [none] (oVal (fVar 0) oNil)))) (fTest (fBin gEqU (fVar 0) (fTupE (fCons (fC (.int 0)) (fCons (fC (.int 0)) fNil))))))
    (fRet (fC (.bl false)))
    fNext)
    (fRet (fAndV (fBin gLe (fN gAbs (fCons (fBin gIx (fVar 0) (fC (.int 0))) fNil)) (fC (.int 9))) (fBin gLe (fN gAbs (fCons (fBin gIx (fVar 0) (fC (.int 1))) fNil)) (fC (.int 9))))))
def G_is_pull : DFn := fun ρ post xp => F_is_pull (ρ ++ List.replicate 0 none) (endS [] 1 post xp)
/-- Field.__init__(self, pulls); slots: 0 self, 1 pulls, 2 value -/
def F_Field___init__ : FS :=
  (fSeq (fIfS (fOr (fNot (fTest (fChain gLe gLe (fC (.int 1)) (fN gLen (fCons (fVar 1) fNil)) (fC (.int 4))))) (fNot (fTest (fN gAll (fCons (fLc (fSeqI (fVar 1)) [2] (gNm 2) tYesD (fCall G_is_pull [none] (oVal (fVar 2) oNil))) fNil)))))
    fDeadS
    fNext)
    (fPutF 0 "Field" "vectors" (fVar 1)))
def G_Field___init__ : DFn := fun ρ post xp => F_Field___init__ (ρ ++ List.replicate 1 none) (endS [0] 2 post xp)
/-- _law_field(_law_pulls_here); slots: 0 _law_pulls_here -/
def F_l_field : FS :=
  (fSeq (fIfS (fTest (fBin gEqU (fN gLen (fCons (fVar 0) fNil)) (fC (.int 1))))
    (fRet (fMakeS "Field" G_Field___init__ (fCons (fBin gIx (fVar 0) (fC (.int 0))) fNil)))
    fNext)
    (fSeq (fIfS (fTest (fBin gEqU (fN gLen (fCons (fVar 0) fNil)) (fC (.int 2))))
    (fRet (fMakeS "Field" G_Field___init__ (fCons (fBin gIx (fVar 0) (fC (.int 0))) (fCons (fBin gIx (fVar 0) (fC (.int 1))) fNil))))
    fNext)
    (fSeq (fIfS (fTest (fBin gEqU (fN gLen (fCons (fVar 0) fNil)) (fC (.int 3))))
    (fRet (fMakeS "Field" G_Field___init__ (fCons (fBin gIx (fVar 0) (fC (.int 0))) (fCons (fBin gIx (fVar 0) (fC (.int 1))) (fCons (fBin gIx (fVar 0) (fC (.int 2))) fNil)))))
    fNext)
    (fRet (fMakeS "Field" G_Field___init__ (fCons (fBin gIx (fVar 0) (fC (.int 0))) (fCons (fBin gIx (fVar 0) (fC (.int 1))) (fCons (fBin gIx (fVar 0) (fC (.int 2))) (fCons (fBin gIx (fVar 0) (fC (.int 3))) fNil)))))))))
def G_l_field : DFn := fun ρ post xp => F_l_field (ρ ++ List.replicate 0 none) (endS [] 1 post xp)
/-- Field.kinds(self); slots: 0 self -/
def F_Field_kinds : FS :=
  (fRet (fN gLen (fCons (fUn (gFld "Field" "vectors") (fVar 0)) fNil)))
def G_Field_kinds : DFn := fun ρ post xp => F_Field_kinds (ρ ++ List.replicate 0 none) (endS [] 1 post xp)
/-- are_counts(field, value); slots: 0 field, 1 value, 2 count -/
def F_are_counts : FS :=
  (fRet (fAndV (fN (gIsi .tuple) (fCons (fVar 1) (fCons (fC (.ty "tuple")) fNil))) (fAndV (fBin gEqU (fN gLen (fCons (fVar 1) fNil)) (fProp "Field" G_Field_kinds (fVar 0))) (fN gAll (fCons (fLc (fSeqI (fVar 1)) [2] (gNm 2) tYesD (fCall G_is_integer [none] (oVal (fVar 2) oNil))) fNil)))))
def G_are_counts : DFn := fun ρ post xp => F_are_counts (ρ ++ List.replicate 1 none) (endS [] 2 post xp)
/-- is_piece(field, value); slots: 0 field, 1 value -/
def F_is_piece : FS :=
  (fRet (fAndV (fN (gIsi .tuple) (fCons (fVar 1) (fCons (fC (.ty "tuple")) fNil))) (fAndV (fBin gEqU (fN gLen (fCons (fVar 1) fNil)) (fC (.int 2))) (fAndV (fCall G_is_pair [none] (oVal (fBin gIx (fVar 1) (fC (.int 0))) oNil)) (fCall G_are_counts [none, none] (oVal (fVar 0) (oVal (fBin gIx (fVar 1) (fC (.int 1))) oNil)))))))
def G_is_piece : DFn := fun ρ post xp => F_is_piece (ρ ++ List.replicate 0 none) (endS [] 2 post xp)
/-- added(one, other); slots: 0 one, 1 other, 2 count, 3 more -/
def F_added : FS :=
  (fRet (fN gTuple (fCons (fLc (fZip (fCons (fVar 0) (fCons (fVar 1) fNil))) [2, 3] (gTp (gCn (gNm 2) (gCn (gNm 3) gNl))) tYesD (fBin gAdd (fVar 2) (fVar 3))) fNil)))
def G_added : DFn := fun ρ post xp => F_added (ρ ++ List.replicate 2 none) (endS [] 2 post xp)
/-- merged(pieces); slots: 0 pieces, 1 found, 2 place, 3 counts -/
def F_merged : FS :=
  (fSeq (fSetN 1 (fC (.dt [])))
    (fSeq (fFor (fSeqI (fVar 0)) (gTp (gCn (gNm 2) (gCn (gNm 3) gNl)))
    (fPutO 1 (fIf (fTest (fBin gIn (fVar 2) (fVar 1))) (fCall G_added [none, none] (oVal (fBinL gIx 1 (fVar 2)) (oVal (fVar 3) oNil))) (fVar 3)) (fVar 2)))
    (fRet (fDc (fItemsT (fVar 1)) [2, 3] (gTp (gCn (gNm 2) (gCn (gNm 3) gNl))) (fTest (fN gAnyI (fCons (fN gList (fCons (fVar 3) fNil)) fNil))) (fVar 2) (fVar 3)))))
def G_merged : DFn := fun ρ post xp => F_merged (ρ ++ List.replicate 3 none) (endS [] 1 post xp)
/-- State.__init__(self, field, position, pieces); slots: 0 self, 1 field, 2 position, 3 pieces, 4 piece -/
def F_State___init__ : FS :=
  (fSeq (fIfS (fOr (fNot (fTest (fCall G_is_pair [none] (oVal (fVar 2) oNil)))) (fNot (fTest (fN gAll (fCons (fLc (fSeqI (fVar 3)) [4] (gNm 4) tYesD (fCall G_is_piece [none, none] (oVal (fVar 1) (oVal (fVar 4) oNil)))) fNil)))))
    fDeadS
    fNext)
    (fSeq (fPutF 0 "State" "ground" (fVar 1))
    (fSeq (fPutF 0 "State" "stand" (fVar 2))
    (fSeq (fPutF 0 "State" "laid" (fCall G_merged [none] (oVal (fVar 3) oNil)))
    (fSeq (fPutF 0 "State" "rows" (fN gTuple (fCons (fSortIt (fUn (gFld "State" "laid") (fVar 0))) fNil)))
    (fPutF 0 "State" "key" (fTupE (fCons (fVar 2) (fCons (fUn (gFld "State" "rows") (fVar 0)) fNil)))))))))
def G_State___init__ : DFn := fun ρ post xp => F_State___init__ (ρ ++ List.replicate 1 none) (endS [0] 4 post xp)
/-- _law_made(_law_ground, _law_spot, _law_heap); slots: 0 _law_ground, 1 _law_spot, 2 _law_heap -/
def F_l_made : FS :=
  (fSeq (fIfS (fTest (fBin gEqU (fN gLen (fCons (fVar 2) fNil)) (fC (.int 0))))
    (fRet (fMakeSn "State" 2 G_State___init__ (fCons (fVar 0) (fCons (fVar 1) fNil))))
    fNext)
    (fSeq (fIfS (fTest (fBin gEqU (fN gLen (fCons (fVar 2) fNil)) (fC (.int 1))))
    (fRet (fMakeSn "State" 2 G_State___init__ (fCons (fVar 0) (fCons (fVar 1) (fCons (fBin gIx (fVar 2) (fC (.int 0))) fNil)))))
    fNext)
    (fSeq (fIfS (fTest (fBin gEqU (fN gLen (fCons (fVar 2) fNil)) (fC (.int 2))))
    (fRet (fMakeSn "State" 2 G_State___init__ (fCons (fVar 0) (fCons (fVar 1) (fCons (fBin gIx (fVar 2) (fC (.int 0))) (fCons (fBin gIx (fVar 2) (fC (.int 1))) fNil))))))
    fNext)
    (fSeq (fIfS (fTest (fBin gEqU (fN gLen (fCons (fVar 2) fNil)) (fC (.int 3))))
    (fRet (fMakeSn "State" 2 G_State___init__ (fCons (fVar 0) (fCons (fVar 1) (fCons (fBin gIx (fVar 2) (fC (.int 0))) (fCons (fBin gIx (fVar 2) (fC (.int 1))) (fCons (fBin gIx (fVar 2) (fC (.int 2))) fNil)))))))
    fNext)
    (fSeq (fIfS (fTest (fBin gEqU (fN gLen (fCons (fVar 2) fNil)) (fC (.int 4))))
    (fRet (fMakeSn "State" 2 G_State___init__ (fCons (fVar 0) (fCons (fVar 1) (fCons (fBin gIx (fVar 2) (fC (.int 0))) (fCons (fBin gIx (fVar 2) (fC (.int 1))) (fCons (fBin gIx (fVar 2) (fC (.int 2))) (fCons (fBin gIx (fVar 2) (fC (.int 3))) fNil))))))))
    fNext)
    (fSeq (fIfS (fTest (fBin gEqU (fN gLen (fCons (fVar 2) fNil)) (fC (.int 5))))
    (fRet (fMakeSn "State" 2 G_State___init__ (fCons (fVar 0) (fCons (fVar 1) (fCons (fBin gIx (fVar 2) (fC (.int 0))) (fCons (fBin gIx (fVar 2) (fC (.int 1))) (fCons (fBin gIx (fVar 2) (fC (.int 2))) (fCons (fBin gIx (fVar 2) (fC (.int 3))) (fCons (fBin gIx (fVar 2) (fC (.int 4))) fNil)))))))))
    fNext)
    (fRet (fMakeSn "State" 2 G_State___init__ (fCons (fVar 0) (fCons (fVar 1) (fCons (fBin gIx (fVar 2) (fC (.int 0))) (fCons (fBin gIx (fVar 2) (fC (.int 1))) (fCons (fBin gIx (fVar 2) (fC (.int 2))) (fCons (fBin gIx (fVar 2) (fC (.int 3))) (fCons (fBin gIx (fVar 2) (fC (.int 4))) (fCons (fBin gIx (fVar 2) (fC (.int 5))) fNil))))))))))))))))
def G_l_made : DFn := fun ρ post xp => F_l_made (ρ ++ List.replicate 0 none) (endS [] 3 post xp)
/-- _law_laid(_law_pieces); slots: 0 _law_pieces, 1 _law_found, 2 _law_place_here, 3 _law_counts_here, 4 _law_old, 5 _law_k -/
def F_l_laid : FS :=
  (fSeq (fSetN 1 (fC (.dt [])))
    (fSeq (fFor (fSeqI (fVar 0)) (gTp (gCn (gNm 2) (gCn (gNm 3) gNl)))
    (fSeq (fSet 4 (fGetO 1 (fVar 2) (fBin gMul (fTupE (fCons (fC (.int 0)) fNil)) (fN gLen (fCons (fVar 3) fNil)))))
    (fPutO 1 (fN gTuple (fCons (fLc (fRange1 (fCons (fN gLen (fCons (fVar 3) fNil)) fNil)) [5] (gNm 5) tYesD (fBin gAdd (fBin gIx (fVar 4) (fVar 5)) (fBin gIx (fVar 3) (fVar 5)))) fNil)) (fVar 2))))
    (fRet (fN gTupC (fCons (fN gSortI (fCons (fLc (fKeysI (fVar 1)) [2] (gNm 2) (fTest (fBin gNeU (fBin gIx (fVar 1) (fVar 2)) (fBin gMul (fTupE (fCons (fC (.int 0)) fNil)) (fN gLen (fCons (fBin gIx (fVar 1) (fVar 2)) fNil))))) (fTupE (fCons (fVar 2) (fCons (fBin gIx (fVar 1) (fVar 2)) fNil)))) fNil)) fNil)))))
def G_l_laid : DFn := fun ρ post xp => F_l_laid (ρ ++ List.replicate 5 none) (endS [] 1 post xp)
/-- State.parts(self); slots: 0 self -/
def F_State_parts : FS :=
  (fRet (fUn (gFld "State" "key") (fVar 0)))
def G_State_parts : DFn := fun ρ post xp => F_State_parts (ρ ++ List.replicate 0 none) (endS [] 1 post xp)
/-- State.position(self); slots: 0 self -/
def F_State_position : FS :=
  (fRet (fUn (gFld "State" "stand") (fVar 0)))
def G_State_position : DFn := fun ρ post xp => F_State_position (ρ ++ List.replicate 0 none) (endS [] 1 post xp)
/-- State.pieces(self); slots: 0 self -/
def F_State_pieces : FS :=
  (fRet (fUn (gFld "State" "rows") (fVar 0)))
def G_State_pieces : DFn := fun ρ post xp => F_State_pieces (ρ ++ List.replicate 0 none) (endS [] 1 post xp)
/-- State.__len__(self); slots: 0 self -/
def F_State___len__ : FS :=
  (fRet (fN gLen (fCons (fUn (gFld "State" "rows") (fVar 0)) fNil)))
def G_State___len__ : DFn := fun ρ post xp => F_State___len__ (ρ ++ List.replicate 0 none) (endS [] 1 post xp)
/-- Field.__eq__(self, other); slots: 0 self, 1 other -/
def F_Field___eq__ : FS :=
  (fRet (fAndV (fIsiOwn "Field" (fVar 1)) (fBin gEqU (fUn (gFld "Field" "vectors") (fVar 0)) (fUn (gFld "Field" "vectors") (fVar 1)))))
def G_Field___eq__ : DFn := fun ρ post xp => F_Field___eq__ (ρ ++ List.replicate 0 none) (endS [] 2 post xp)
/-- State.field(self); slots: 0 self -/
def F_State_field : FS :=
  (fRet (fUn (gFld "State" "ground") (fVar 0)))
def G_State_field : DFn := fun ρ post xp => F_State_field (ρ ++ List.replicate 0 none) (endS [] 1 post xp)
/-- State.__getitem__(self, place); slots: 0 self, 1 place, 2 x, 3 y -/
def F_State___getitem__ : FS :=
  (fSeq (fAsg (gTp (gCn (gNm 2) (gCn (gNm 3) gNl))) (fVar 1))
    (fRet (fGet2 (fUn (gFld "State" "laid") (fVar 0)) (fTupE (fCons (fVar 2) (fCons (fVar 3) fNil))) (fBin gMul (fTupE (fCons (fC (.int 0)) fNil)) (fProp "Field" G_Field_kinds (fUn (gFld "State" "ground") (fVar 0)))))))
def G_State___getitem__ : DFn := fun ρ post xp => F_State___getitem__ (ρ ++ List.replicate 2 none) (endS [] 2 post xp)
/-- State.__contains__(self, place); slots: 0 self, 1 place -/
def F_State___contains__ : FS :=
  (fRet (fBin gIn (fVar 1) (fUn (gFld "State" "laid") (fVar 0))))
def G_State___contains__ : DFn := fun ρ post xp => F_State___contains__ (ρ ++ List.replicate 0 none) (endS [] 2 post xp)
/-- _law_places_right(_law_state, _law_due, _law_pulls_here, _law_some); slots: 0 _law_state, 1 _law_due, 2 _law_pulls_here, 3 _law_some, 4 _law_lying, 5 _law_place_here -/
def F_l_places_right : FS :=
  (fSeq (fSet 4 (fN gDictK (fCons (fVar 1) fNil)))
    (fSeq (fFor (fSeqI (fVar 3)) (gNm 5)
    (fIfS (fOr (fTest (fBin gNeU (fN gRepr (fCons (fIxOwn "State" G_State___getitem__ (fVar 0) (fVar 5)) fNil)) (fN gRepr (fCons (fGet2 (fVar 4) (fVar 5) (fBin gMul (fTupE (fCons (fC (.int 0)) fNil)) (fN gLen (fCons (fVar 2) fNil)))) fNil)))) (fTest (fBin gNeU (fInOwn "State" false G_State___contains__ (fVar 5) (fVar 0)) (fBin gIn (fVar 5) (fVar 4)))))
    (fRet (fC (.bl false)))
    fNext))
    (fRet (fC (.bl true)))))
def G_l_places_right : DFn := fun ρ post xp => F_l_places_right (ρ ++ List.replicate 2 none) (endS [] 4 post xp)
/-- State.__eq__(self, other); slots: 0 self, 1 other -/
def F_State___eq__ : FS :=
  (fRet (fAndV (fIsiOwn "State" (fVar 1)) (fAndV (fEqOwn "Field" false G_Field___eq__ (fUn (gFld "State" "ground") (fVar 0)) (fUn (gFld "State" "ground") (fVar 1))) (fBin gEqU (fUn (gFld "State" "key") (fVar 0)) (fUn (gFld "State" "key") (fVar 1))))))
def G_State___eq__ : DFn := fun ρ post xp => F_State___eq__ (ρ ++ List.replicate 0 none) (endS [] 2 post xp)
/-- State.totals(self); slots: 0 self, 1 found, 2 place, 3 counts -/
def F_State_totals : FS :=
  (fSeq (fSet 1 (fBin gMul (fTupE (fCons (fC (.int 0)) fNil)) (fProp "Field" G_Field_kinds (fUn (gFld "State" "ground") (fVar 0)))))
    (fSeq (fFor (fSeqI (fUn (gFld "State" "rows") (fVar 0))) (gTp (gCn (gNm 2) (gCn (gNm 3) gNl)))
    (fSet 1 (fCall G_added [none, none] (oVal (fVar 1) (oVal (fVar 3) oNil)))))
    (fRet (fVar 1))))
def G_State_totals : DFn := fun ρ post xp => F_State_totals (ρ ++ List.replicate 3 none) (endS [] 1 post xp)
/-- State.velocity(self); slots: 0 self, 1 weights, 2 x, 3 y, 4 count, 5 a, 6 b -/
def F_State_velocity : FS :=
  (fSeq (fSet 1 (fProp "State" G_State_totals (fVar 0)))
    (fSeq (fSet 2 (fN gSum (fCons (fLc (fZip (fCons (fVar 1) (fCons (fUn (gFld "Field" "vectors") (fUn (gFld "State" "ground") (fVar 0))) fNil))) [4, 5, 6] (gTp (gCn (gNm 4) (gCn (gTp (gCn (gNm 5) (gCn (gNm 6) gNl))) gNl))) tYesD (fBin gMul (fVar 4) (fVar 5))) fNil)))
    (fSeq (fSet 3 (fN gSum (fCons (fLc (fZip (fCons (fVar 1) (fCons (fUn (gFld "Field" "vectors") (fUn (gFld "State" "ground") (fVar 0))) fNil))) [4, 5, 6] (gTp (gCn (gNm 4) (gCn (gTp (gCn (gNm 5) (gCn (gNm 6) gNl))) gNl))) tYesD (fBin gMul (fVar 4) (fVar 6))) fNil)))
    (fRet (fTupE (fCons (fVar 2) (fCons (fVar 3) fNil)))))))
def G_State_velocity : DFn := fun ρ post xp => F_State_velocity (ρ ++ List.replicate 6 none) (endS [] 1 post xp)
/-- State.shifted(self, by); slots: 0 self, 1 by, 2 dx, 3 dy, 4 found, 5 counts, 6 x, 7 y -/
def F_State_shifted : FS :=
  (fSeq (fAsg (gTp (gCn (gNm 2) (gCn (gNm 3) gNl))) (fVar 1))
    (fSeq (fSet 4 (fLc (fSeqI (fUn (gFld "State" "rows") (fVar 0))) [5, 6, 7] (gTp (gCn (gTp (gCn (gNm 6) (gCn (gNm 7) gNl))) (gCn (gNm 5) gNl))) tYesD (fTupE (fCons (fTupE (fCons (fBin gAdd (fVar 6) (fVar 2)) (fCons (fBin gAdd (fVar 7) (fVar 3)) fNil))) (fCons (fVar 5) fNil)))))
    (fRet (fMakeSn "State" 2 G_State___init__ (fCons (fUn (gFld "State" "ground") (fVar 0)) (fCons (fTupE (fCons (fBin gAdd (fBin gIx (fUn (gFld "State" "stand") (fVar 0)) (fC (.int 0))) (fVar 2)) (fCons (fBin gAdd (fBin gIx (fUn (gFld "State" "stand") (fVar 0)) (fC (.int 1))) (fVar 3)) fNil))) (fStar (fVar 4))))))))
def G_State_shifted : DFn := fun ρ post xp => F_State_shifted (ρ ++ List.replicate 6 none) (endS [] 2 post xp)
/-- _law_moved(_law_due, _law_by); slots: 0 _law_due, 1 _law_by, 2 _law_place_here, 3 _law_counts_here -/
def F_l_moved : FS :=
  (fRet (fN gTuple (fCons (fN gSortI (fCons (fLc (fSeqI (fVar 0)) [2, 3] (gTp (gCn (gNm 2) (gCn (gNm 3) gNl))) tYesD (fTupE (fCons (fTupE (fCons (fBin gAdd (fBin gIx (fVar 2) (fC (.int 0))) (fBin gIx (fVar 1) (fC (.int 0)))) (fCons (fBin gAdd (fBin gIx (fVar 2) (fC (.int 1))) (fBin gIx (fVar 1) (fC (.int 1)))) fNil))) (fCons (fVar 3) fNil)))) fNil)) fNil)))
def G_l_moved : DFn := fun ρ post xp => F_l_moved (ρ ++ List.replicate 2 none) (endS [] 2 post xp)
/-- State.empty(cls, field); slots: 0 cls, 1 field, 2 position -/
def F_State_empty : FS :=
  (fRet (fMakeL 0 "State" 2 G_State___init__ (fCons (fVar 1) (fCons (fVar 2) fNil))))
def G_State_empty_fl : DFn := fun ρ post xp => F_State_empty (ρ ++ List.replicate 0 none) (endS [] 3 post xp)
def G_State_empty : DFn := fun ρ post xp => F_State_empty (ρ ++ [some (.ktp [.int 0, .int 0])] ++ List.replicate 0 none) (endS [] 2 post xp)
/-- _law_right(_law_pulls_here, _law_spot, _law_heap, _law_by); slots: 0 _law_pulls_here, 1 _law_spot, 2 _law_heap, 3 _law_by, 4 _law_ground, 5 _law_before, 6 _law_state, 7 _law_due, 8 _law_some, 9 _law_one, 10 _law_far, 11 _law_later, 12 _law_blank, 13 _law_place_here, 14 _law_counts_here, 15 _law_a, 16 _law_b -/
def F_l_right : FS :=
  (fSeq (fSet 4 (fCall G_l_field [none] (oVal (fVar 0) oNil)))
    (fSeq (fSet 5 (fN gRepr (fCons (fVar 2) fNil)))
    (fSeq (fPar 6 7 (fCons (fCall G_l_made [none, none, none] (oVal (fVar 4) (oVal (fVar 1) (oVal (fVar 2) oNil)))) (fCons (fCall G_l_laid [none] (oVal (fVar 2) oNil)) fNil)))
    (fSeq (fIfS (fOr (fTest (fBin gNeU (fN gRepr (fCons (fProp "State" G_State_parts (fVar 6)) fNil)) (fN gRepr (fCons (fTupE (fCons (fVar 1) (fCons (fVar 7) fNil))) fNil)))) (fTest (fBin gNeU (fN gRepr (fCons (fTupE (fCons (fProp "State" G_State_position (fVar 6)) (fCons (fProp "State" G_State_pieces (fVar 6)) fNil))) fNil)) (fN gRepr (fCons (fTupE (fCons (fVar 1) (fCons (fVar 7) fNil))) fNil)))))
    (fRet (fC (.bl false)))
    fNext)
    (fSeq (fIfS (fOr (fTest (fBin gNeU (fN gRepr (fCons (fLenOwn "State" G_State___len__ (fVar 6)) fNil)) (fN gRepr (fCons (fN gLen (fCons (fVar 7) fNil)) fNil)))) (fNot (fTest (fEqOwn "Field" false G_Field___eq__ (fProp "State" G_State_field (fVar 6)) (fVar 4)))))
    (fRet (fC (.bl false)))
    fNext)
    (fSeq (fSet 8 (fBin gAdd (fLc (fSeqI (fVar 2)) [13, 14] (gTp (gCn (gNm 13) (gCn (gNm 14) gNl))) tYesD (fVar 13)) (fLstE (fCons (fVar 1) (fCons (fTupE (fCons (fC (.int 0)) (fCons (fC (.int 0)) fNil))) (fCons (fVar 3) (fCons (fTupE (fCons (fBin gAdd (fBin gIx (fVar 1) (fC (.int 0))) (fC (.int 1))) (fCons (fBin gIx (fVar 1) (fC (.int 1))) fNil))) fNil)))))))
    (fSeq (fIfS (fNot (fTest (fCall G_l_places_right [none, none, none, none] (oVal (fVar 6) (oVal (fVar 7) (oVal (fVar 0) (oVal (fVar 8) oNil)))))))
    (fRet (fC (.bl false)))
    fNext)
    (fSeq (fIfS (fOr (fNot (fTest (fEqOwn "State" false G_State___eq__ (fVar 6) (fCall G_l_made [none, none, none] (oVal (fVar 4) (oVal (fVar 1) (oVal (fBack (fVar 2) (oSome (fUn gNeg (fC (.int 1))))) oNil))))))) (fOr (fTest (fEqOwn "State" false G_State___eq__ (fVar 6) (fTupE (fCons (fVar 1) (fCons (fVar 7) fNil))))) (fTest (fEqOwn "State" false G_State___eq__ (fVar 6) (fC .non)))))
    (fRet (fC (.bl false)))
    fNext)
    (fSeq (fSet 9 (fBin gAdd (fBin gMulZ (fTupE (fCons (fC (.int 0)) fNil)) (fBin gSub (fN gLen (fCons (fVar 0) fNil)) (fC (.int 1)))) (fTupE (fCons (fC (.int 1)) fNil))))
    (fSeq (fIfS (fAnd (fTest (fEqOwn "State" false G_State___eq__ (fVar 6) (fCall G_l_made [none, none, none] (oVal (fVar 4) (oVal (fVar 1) (oVal (fBin gAdd (fCut (fVar 2) oNone (oSome (fC (.int 5)))) (fLstE (fCons (fTupE (fCons (fVar 3) (fCons (fVar 9) fNil))) fNil))) oNil)))))) (fTest (fBin gLt (fN gLen (fCons (fVar 2) fNil)) (fC (.int 6)))))
    (fRet (fC (.bl false)))
    fNext)
    (fSeq (fIfS (fTest (fEqOwn "State" false G_State___eq__ (fVar 6) (fCall G_l_made [none, none, none] (oVal (fVar 4) (oVal (fTupE (fCons (fBin gIx (fVar 1) (fC (.int 0))) (fCons (fBin gAdd (fBin gIx (fVar 1) (fC (.int 1))) (fC (.int 1))) fNil))) (oVal (fVar 2) oNil))))))
    (fRet (fC (.bl false)))
    fNext)
    (fSeq (fSet 10 (fCall G_l_made [none, none, none] (oVal (fCall G_l_field [none] (oVal (fN gTuple (fCons (fLc (fSeqI (fVar 0)) [15, 16] (gTp (gCn (gNm 15) (gCn (gNm 16) gNl))) tYesD (fTupE (fCons (fBin gSub (fC (.int 0)) (fVar 15)) (fCons (fBin gSub (fC (.int 0)) (fVar 16)) fNil)))) fNil)) oNil)) (oVal (fVar 1) (oVal (fVar 2) oNil)))))
    (fSeq (fIfS (fOr (fTest (fEqOwn "State" false G_State___eq__ (fVar 6) (fVar 10))) (fTest (fBin gNeU (fProp "State" G_State_velocity (fVar 10)) (fTupE (fCons (fBin gSub (fC (.int 0)) (fBin gIx (fProp "State" G_State_velocity (fVar 6)) (fC (.int 0)))) (fCons (fBin gSub (fC (.int 0)) (fBin gIx (fProp "State" G_State_velocity (fVar 6)) (fC (.int 1)))) fNil))))))
    (fRet (fC (.bl false)))
    fNext)
    (fSeq (fIfS (fTest (fBin gNeU (fEqOwn "State" false G_State___eq__ (fVar 6) (fCall G_l_made [none, none, none] (oVal (fMakeS "Field" G_Field___init__ (fCons (fTupE (fCons (fC (.int 9)) (fCons (fC (.int 8)) fNil))) fNil)) (oVal (fVar 1) (oVal (fLstE fNil) oNil))))) (fAndV (fBin gEqU (fVar 0) (fTupE (fCons (fTupE (fCons (fC (.int 9)) (fCons (fC (.int 8)) fNil))) fNil))) (fBin gEqU (fVar 7) (fTupE fNil)))))
    (fRet (fC (.bl false)))
    fNext)
    (fSeq (fSet 11 (fCall G_State_shifted [none, none] (oSelf "State" "shifted" (fVar 6) (oVal (fVar 3) oNil))))
    (fSeq (fIfS (fTest (fBin gNeU (fN gRepr (fCons (fProp "State" G_State_parts (fVar 11)) fNil)) (fN gRepr (fCons (fTupE (fCons (fTupE (fCons (fBin gAdd (fBin gIx (fVar 1) (fC (.int 0))) (fBin gIx (fVar 3) (fC (.int 0)))) (fCons (fBin gAdd (fBin gIx (fVar 1) (fC (.int 1))) (fBin gIx (fVar 3) (fC (.int 1)))) fNil))) (fCons (fCall G_l_moved [none, none] (oVal (fVar 7) (oVal (fVar 3) oNil))) fNil))) fNil))))
    (fRet (fC (.bl false)))
    fNext)
    (fSeq (fSet 12 (fCall G_State_empty_fl [none, none, none] (oVal (fC (.cl "State")) (oVal (fVar 4) (oVal (fVar 1) oNil)))))
    (fRet (fAndV (fBin gEqU (fProp "State" G_State_parts (fVar 12)) (fTupE (fCons (fVar 1) (fCons (fTupE fNil) fNil)))) (fAndV (fBin gEqU (fLenOwn "State" G_State___len__ (fVar 12)) (fC (.int 0))) (fAndV (fBin gEqU (fN gRepr (fCons (fVar 2) fNil)) (fVar 5)) (fBin gEqU (fProp "State" G_State_parts (fVar 6)) (fTupE (fCons (fVar 1) (fCons (fVar 7) fNil)))))))))))))))))))))))))
def G_l_right : DFn := fun ρ post xp => F_l_right (ρ ++ List.replicate 13 none) (endS [] 4 post xp)
/-- law(_law_script); slots: 0 _law_script, 1 _law_pen_here, 2 _law_turn, 3 _law_pulls_here, 4 _law_spot, 5 _law_heap, 6 _law_by -/
def F_law : FS :=
  (fSeq (fSetN 1 (fCall G_l_pen [none] (oVal (fVar 0) oNil)))
    (fSeq (fFor (fRange1 (fCons (fC (.int 5)) fNil)) (gNm 2)
    (fSeq (fAsg (gTp (gCn (gNm 3) (gCn (gNm 4) (gCn (gNm 5) gNl)))) (fCall G_l_deal [some 1, none, none] (oOwn 1 (oVal (fC (.int 5)) (oVal (fC (.int 2)) oNil)))))
    (fSeq (fSet 6 (fCall G_l_place [some 1, none] (oOwn 1 (oVal (fC (.int 3)) oNil))))
    (fIfS (fNot (fTest (fCall G_l_right [none, none, none, none] (oVal (fVar 3) (oVal (fVar 4) (oVal (fVar 5) (oVal (fVar 6) oNil)))))))
    (fRet (fC (.bl false)))
    fNext))))
    (fRet (fBin gEqU (fProp "State" G_State_parts (fCall G_State_empty [none, none] (oVal (fC (.cl "State")) (oVal (fMakeS "Field" G_Field___init__ (fCons (fTupE (fCons (fC (.int 1)) (fCons (fC (.int 2)) fNil))) fNil)) oNil)))) (fTupE (fCons (fTupE (fCons (fC (.int 0)) (fCons (fC (.int 0)) fNil))) (fCons (fTupE fNil) fNil)))))))
def G_law : DFn := fun ρ post xp => F_law (ρ ++ List.replicate 6 none) (endS [] 1 post xp)
def pen (cs : List D) (a r : Int) : D := .dk [(.inr "cells", .lst cs), (.inr "at", .int a), (.inr "rest", .int r)]
theorem pen_ok {ns : List Int} {post : Post} {xp : XP} (hn : ns.length ≤ 63) (q : post (pen (ns.map .int) 0 0) [none]) : G_l_pen [some (.slst (ns.map .int))] post xp := by
  have hcut : cutL (List.map D.int ns) none (some 63) = List.map D.int ns := cutL_all (n := 63) (by simpa using hn)
  unfold G_l_pen F_l_pen
  simp [hcut]
  exact q
theorem draw_ok {ns : List Int} {a r m : Int} {post : Post} {xp : XP} (ha : 0 ≤ a) (ha2 : a ≤ 1000000) (hr : 0 ≤ r) (hm : 1 ≤ m) (hm2 : m ≤ 1000000)
    (h : ∀ k a' r', 0 ≤ k → k < m → a ≤ a' → a' ≤ a + 1 → 0 ≤ r' → post (.int k) [some (pen (ns.map .int) a' r'), none]) : G_l_draw [some (pen (ns.map .int) a r), some (.int m)] post xp := by
  have m0 : m ≠ 0 := by omega
  have mp : 0 < m := by omega
  have ml := log_small hm hm2
  have n0 : ns ≠ [] → (ns.length : Int) ≠ 0 := fun q z => q (List.eq_nil_of_length_eq_zero (by omega))
  have n1 : ns ≠ [] → 0 < (ns.length : Int) := fun q => by have := n0 q; omega
  have fin : ∀ (x r' a' : Int), a ≤ a' → a' ≤ a + 1 → 0 ≤ r' → post (.int (x.fmod m)) [some (.dk [(.inr "cells", .lst (ns.map .int)), (.inr "at", .int a'), (.inr "rest", .int r')]), none] := fun x r' a' h1 h2 h3 => h _ _ _ (fmod_nn mp) (fmod_lt mp) h1 h2 h3
  unfold G_l_draw F_l_draw pen
  by_cases hr0 : 0 < r
  · simp [hr0, m0, ml]
    exact fin _ _ _ (by omega) (by omega) (fdiv_nn hr mp)
  · have bad : CMulO 40093 a ∧ ∀ x : Int, (x.fmod 2147483587 + 40093 * a + 11).natAbs < 18446744073709551616 ∧ CMulO (((x.fmod 2147483587 + 40093 * a + 11) ^ 5).fmod 2147483647) (a + 50021) ∧ CMulO 70051 a ∧ CMulO (70051 * a) a ∧
        (((x.fmod 2147483587 + 40093 * a + 11) ^ 5).fmod 2147483647 * (a + 50021) + 70051 * a * a).natAbs < 18446744073709551616 ∧ Nat.log2 64 < 9000 :=
      ⟨cmul_l (by omega) (by omega), fun x => ⟨draw_sum (by omega) (by omega) (by omega) (by omega) (by omega) (by omega) (by omega) (by omega), cmul_r (by omega) (by omega), cmul_l (by omega) (by omega), cmul_r (by omega) (by omega), draw_bound (fmod_nn (by omega)) (fmod_lt (by omega)) (by omega) ha ha2 (by omega) (by omega) (by omega) (by omega), by decide⟩⟩
    obtain ⟨b1, b2⟩ := bad
    by_cases hc : ns = []
    · subst hc
      have ha' : ¬ a < 0 := by omega
      obtain ⟨b3, b4, b5, b6, b7, b8⟩ := b2 (30269 * a + 97)
      simp [hr0, m0, ml, ha', b1, b3, b4, b5, b6, b7, b8]
      exact ⟨cmul_l (by omega) (by omega), fin _ _ _ (by omega) (by omega) hr⟩
    · obtain ⟨c, hcx⟩ := atI_ex (a := ns) (i := a.fmod ns.length) (fmod_nn (n1 hc)) (fmod_lt (n1 hc))
      obtain ⟨b3, b4, b5, b6, b7, b8⟩ := b2 c
      by_cases z : c < 0
      · simp [hr0, m0, ml, hc, hcx, n0 hc, z, b1, b3, b4, b5, b6, b7, b8]
        refine ⟨cmul_l (by omega) (by omega), ?_⟩
        split
        · split
          · exact ⟨cmul_l (by omega) (by omega), fin _ _ _ (by omega) (by omega) (fdiv_nn (by omega) mp)⟩
          · exact fin _ _ _ (by omega) (by omega) hr
        · exact fin _ _ _ (by omega) (by omega) hr
      · simp [hr0, m0, ml, hc, hcx, n0 hc, z, b1, b3, b4, b5, b6, b7, b8]
        refine ⟨cmul_l (by omega) (by omega), ?_⟩
        split
        · split
          · exact ⟨cmul_l (by omega) (by omega), fin _ _ _ (by omega) (by omega) (fdiv_nn (by omega) mp)⟩
          · exact fin _ _ _ (by omega) (by omega) hr
        · exact fin _ _ _ (by omega) (by omega) hr

def fieldD (V : List Pt) : D := .obj "Field" [("vectors", .tup (V.map vt))]
@[simp] theorem isObj_fieldD (V : List Pt) : isObj "Field" (fieldD V) = True := by simp [fieldD]
theorem lookup_none {m : Str} : ∀ {fs : List (Str × D)}, (fs.lookup m = none) = ∀ f ∈ fs.map (·.1), m ≠ f
  | [] => by simp
  | (f, d) :: fs => by
    by_cases h : m = f
    · subst h; simp [List.lookup]
    · have : (m == f) = false := by simpa using h
      simp only [List.lookup, this, List.map_cons, List.mem_cons, forall_eq_or_imp]
      rw [lookup_none]; simp [h]
@[simp] theorem isObjM_fieldD (m : Str) (V : List Pt) : isObjM "Field" m (fieldD V) = (m ≠ "vectors") := by simp [fieldD, lookup_none, -List.lookup_eq_none_iff]
@[simp ↓] theorem gFld_fieldD (V : List Pt) (k) : gFld "Field" "vectors" (fieldD V) k = k (.tup (V.map vt)) := propext ⟨fun ⟨_, _, e, h⟩ => by cases e; exact h, fun h => ⟨rfl, _, rfl, h⟩⟩
structure Pul (V : List Pt) : Prop where
  h1 : 1 ≤ V.length
  h4 : V.length ≤ 4
  b : ∀ p ∈ V, (-9 ≤ p.1 ∧ p.1 ≤ 9) ∧ (-9 ≤ p.2 ∧ p.2 ≤ 9)
  nz : ∀ p ∈ V, p ≠ (0, 0)
theorem shaped_vt (p : Pt) : SeqAt.shaped (.tuple [.int p.1, .int p.2]) = true := by
  simp [SeqAt.shaped, PyData.canLay0, PyData.depth, PyData.canLayAll0, PyData.depthAll]
theorem ne_vt (p q : Pt) (k) : gNeU (vt p) (vt q) k = k (.bl (!decide (p = q))) := by
  show gNe _ _ _ = _
  have pp : ∀ p : Pt, pd (vt p) = some (.tuple [.int p.1, .int p.2]) := fun p => rfl
  rw [gNe_of (pp p) (pp q) (shaped_vt p) (shaped_vt q)]
  have e : PyData.eqv (.tuple [.int p.1, .int p.2]) (.tuple [.int q.1, .int q.2]) = decide (p = q) := by
    obtain ⟨a, b⟩ := p
    obtain ⟨c, d⟩ := q
    simp only [PyData.eqv, PyData.eqvAll, Prod.mk.injEq]
    by_cases h : a = c <;> by_cases h' : b = d <;> simp [h, h']
  rw [e]
theorem eq_vt (p q : Pt) (k) : gEqU (vt p) (vt q) k = k (.bl (decide (p = q))) := by
  show gEq _ _ _ = _
  have pp : ∀ p : Pt, pd (vt p) = some (.tuple [.int p.1, .int p.2]) := fun p => rfl
  rw [gEq_of (pp p) (pp q) (shaped_vt p) (shaped_vt q)]
  have e : PyData.eqv (.tuple [.int p.1, .int p.2]) (.tuple [.int q.1, .int q.2]) = decide (p = q) := by
    obtain ⟨a, b⟩ := p
    obtain ⟨c, d⟩ := q
    simp only [PyData.eqv, PyData.eqvAll, Prod.mk.injEq]
    by_cases h : a = c <;> by_cases h' : b = d <;> simp [h, h']
  rw [e]

theorem pulls_ok {ns : List Int} {a r m : Int} {post : Post} {xp : XP} (ha : 0 ≤ a) (ha2 : a ≤ 999000) (hr : 0 ≤ r) (hm : 1 ≤ m) (hm2 : m ≤ 9)
    (h : ∀ (V : List Pt) (a' r' : Int), Pul V → a ≤ a' → a' ≤ a + 20 → 0 ≤ r' → post (.tup (V.map vt)) [some (pen (ns.map .int) a' r'), none]) : G_l_pulls [some (pen (ns.map .int) a r), some (.int m)] post xp := by
  have dr : ∀ (a r m : Int) (post : Post) (xp : XP), 0 ≤ a → a ≤ 1000000 → 0 ≤ r → 1 ≤ m → m ≤ 1000000 → (∀ k a' r', 0 ≤ k → k < m → a ≤ a' → a' ≤ a + 1 → 0 ≤ r' → post (.int k) [some (pen (ns.map .int) a' r'), none]) → G_l_draw [some (pen (ns.map .int) a r), some (.int m)] post xp :=
    fun a r m post xp h1 h2 h3 h4 h5 h6 => draw_ok h1 h2 h3 h4 h5 h6
  unfold G_l_pulls F_l_pulls
  generalize G_l_draw = G at dr ⊢
  simp -dsimp
  refine dr _ _ _ _ _ ha (by omega) hr (by omega) (by omega) fun way a1 r1 w0 w4 _ _ _ => ?_
  simp -dsimp
  refine dr _ _ _ _ _ (by omega) (by omega) (by omega) (by omega) (by omega) fun many a2 r2 m0 m4 _ _ _ => ?_
  simp -dsimp
  refine ⟨cmul_l (by omega) (by omega), ?_⟩
  refine dr _ _ _ _ _ (by omega) (by omega) (by omega) (by omega) (by omega) fun pa a3 r3 _ _ _ _ _ => ?_
  simp -dsimp
  refine ⟨cmul_l (by omega) (by omega), ?_⟩
  refine dr _ _ _ _ _ (by omega) (by omega) (by omega) (by omega) (by omega) fun pb a4 r4 _ _ _ _ _ => ?_
  simp -dsimp
  refine ⟨by omega, ?_⟩
  refine loop_inv (fun ds ρ => ∃ (W : List Pt) (j : Nat) (a' r' : Int) (x7 x8 x9 x10 x11 : Option D), ds = (List.range' j ds.length).map (fun k : Nat => D.int (k : Int)) ∧ j + ds.length = (1 + many).toNat ∧ W.length = j ∧ (∀ p ∈ W, ((-9 ≤ p.1 ∧ p.1 ≤ 9) ∧ (-9 ≤ p.2 ∧ p.2 ≤ 9)) ∧ p ≠ (0, 0)) ∧ a ≤ a' ∧ a' ≤ a4 + 3 * j ∧ 0 ≤ r' ∧
    ρ = [some (pen (ns.map .int) a' r'), some (.int m), some (.int way), some (.int (1 + many)), some (.int (pa - m)), some (.int (pb - m)), some (.lst (W.map vt)), x7, x8, x9, x10, x11]) ?_ ?_ _ _ ⟨[], 0, a4, r4, _, _, _, _, _, by simp [List.range_eq_range'], by simp, rfl, by simp, by omega, by omega, by omega, rfl⟩
  · rintro ρ ⟨W, j, a', r', x7, x8, x9, x10, x11, _, hj, hW, hw, h1, h2, h3, rfl⟩
    simp at hj
    simp -dsimp
    exact h W a' r' ⟨by omega, by omega, fun p hp => (hw p hp).1, fun p hp => (hw p hp).2⟩ h1 (by omega) h3
  · rintro d ds ρ N hN ⟨W, j, a', r', x7, x8, x9, x10, x11, ed, hj, hW, hw, h1, h2, h3, rfl⟩
    simp only [List.length_cons, List.range'_succ, List.map_cons, List.cons.injEq] at ed hj
    obtain ⟨rfl, ed⟩ := ed
    simp -dsimp
    refine ⟨cmul_l (by omega) (by omega), ?_⟩
    refine dr _ _ _ _ _ (by omega) (by omega) (by omega) (by omega) (by omega) fun qa a5 r5 _ _ _ _ _ => ?_
    simp -dsimp
    refine ⟨cmul_l (by omega) (by omega), ?_⟩
    refine dr _ _ _ _ _ (by omega) (by omega) (by omega) (by omega) (by omega) fun qb a6 r6 _ _ _ _ _ => ?_
    simp -dsimp
    refine dr _ _ _ _ _ (by omega) (by omega) (by omega) (by omega) (by omega) fun qt a7 r7 _ _ _ _ _ => ?_
    simp -dsimp
    refine ⟨cmul_r (by omega) (by omega), ?_⟩
    refine ix_drawn (by omega) (by simp; omega) fun z hz => ?_
    obtain ⟨u, rfl, hu⟩ : ∃ u : Pt, z = vt u ∧ (-1 ≤ u.1 ∧ u.1 ≤ 1) ∧ -1 ≤ u.2 ∧ u.2 ≤ 1 := by
      simp at hz
      rcases hz with rfl | rfl | rfl | rfl <;> exact ⟨(_, _), rfl, by decide, by decide⟩
    refine ⟨cmul_l (by omega) (by omega), cmul_l (by omega) (by omega), ?_⟩
    refine ix_drawn (by omega) (by simp; omega) fun z hz => ?_
    obtain ⟨v, rfl, hv⟩ : ∃ v : Pt, z = vt v ∧ (-m ≤ v.1 ∧ v.1 ≤ m) ∧ -m ≤ v.2 ∧ v.2 ≤ m := by
      have ht : qt = 0 ∨ qt = 1 := by omega
      simp at hz
      rcases hz with rfl | rfl | rfl | rfl
      · exact ⟨(qa - m, qb - m), rfl, by simp only; omega, by simp only; omega⟩
      · exact ⟨u, rfl, by omega, by omega⟩
      · refine ⟨((qt * 2 - 1) * (pa - m), (qt * 2 - 1) * (pb - m)), rfl, ?_, ?_⟩ <;> rcases ht with rfl | rfl <;> simp only <;> omega
      · exact ⟨(pa - m, pb - m), rfl, by simp only; omega, by simp only; omega⟩
    have ev := ne_vt v (0, 0)
    simp -dsimp only [vt] at ev
    simp -dsimp [vt, ev]
    split
    · exact ⟨by omega, hN _ ⟨W ++ [(1, -m)], j + 1, a7, r7, _, _, _, _, _, ed, by omega, by simp [hW], by
        intro p hp
        rcases List.mem_append.mp hp with hp | hp
        · exact hw p hp
        · rw [List.mem_singleton] at hp; subst hp
          exact ⟨⟨⟨by show (-9 : Int) ≤ 1; decide, by show (1 : Int) ≤ 9; decide⟩, by show -9 ≤ -m; omega, by show -m ≤ 9; omega⟩, by simp⟩, by omega, by omega, by omega, by simp [vt]; exact ⟨rfl, rfl, rfl, rfl, rfl⟩⟩⟩
    · rename_i hne
      exact ⟨by omega, hN _ ⟨W ++ [v], j + 1, a7, r7, _, _, _, _, _, ed, by omega, by simp [hW], by
        intro p hp
        rcases List.mem_append.mp hp with hp | hp
        · exact hw p hp
        · rw [List.mem_singleton] at hp; subst hp
          exact ⟨⟨⟨by omega, by omega⟩, by omega, by omega⟩, hne⟩, by omega, by omega, by omega, by simp [vt]; exact ⟨rfl, rfl, rfl, rfl, rfl⟩⟩⟩


theorem counts_ok {ns : List Int} {a r m : Int} {n : Nat} {post : Post} {xp : XP} (ha : 0 ≤ a) (ha2 : a ≤ 999000) (hr : 0 ≤ r) (hm : 1 ≤ m) (hm2 : m ≤ 100000) (hn : n ≤ 4)
    (h : ∀ (c : Cn) (a' r' : Int), c.length = n → (∀ i ∈ c, -m ≤ i ∧ i ≤ m) → a ≤ a' → a' ≤ a + 8 → 0 ≤ r' → post (ct c) [some (pen (ns.map .int) a' r'), none, none]) : G_l_counts [some (pen (ns.map .int) a r), some (.int n), some (.int m)] post xp := by
  have dr : ∀ (a r m : Int) (post : Post) (xp : XP), 0 ≤ a → a ≤ 1000000 → 0 ≤ r → 1 ≤ m → m ≤ 1000000 → (∀ k a' r', 0 ≤ k → k < m → a ≤ a' → a' ≤ a + 1 → 0 ≤ r' → post (.int k) [some (pen (ns.map .int) a' r'), none]) → G_l_draw [some (pen (ns.map .int) a r), some (.int m)] post xp :=
    fun a r m post xp h1 h2 h3 h4 h5 h6 => draw_ok h1 h2 h3 h4 h5 h6
  unfold G_l_counts F_l_counts
  generalize G_l_draw = G at dr ⊢
  simp -dsimp
  refine ⟨by omega, ?_⟩
  refine loop_inv (fun ds ρ => ∃ (W : Cn) (a' r' : Int) (x4 x5 : Option D), W.length + ds.length = n ∧ (∀ i ∈ W, -m ≤ i ∧ i ≤ m) ∧ a ≤ a' ∧ a' ≤ a + 2 * W.length ∧ 0 ≤ r' ∧
    ρ = [some (pen (ns.map .int) a' r'), some (.int n), some (.int m), some (.lst (W.map .int)), x4, x5]) ?_ ?_ _ _ ⟨[], a, r, _, _, by simp, by simp, by omega, by simp, by omega, rfl⟩
  · rintro ρ ⟨W, a', r', x4, x5, hl, hw, h1, h2, h3, rfl⟩
    simp at hl
    simp -dsimp
    exact h W a' r' hl hw h1 (by omega) h3
  · rintro d ds ρ N hN ⟨W, a', r', x4, x5, hl, hw, h1, h2, h3, rfl⟩
    simp only [List.length_cons] at hl
    simp -dsimp
    refine ⟨cmul_l (by omega) (by omega), ?_⟩
    refine dr _ _ _ _ _ (by omega) (by omega) (by omega) (by omega) (by omega) fun k a5 r5 _ _ _ _ _ => ?_
    simp -dsimp
    refine dr _ _ _ _ _ (by omega) (by omega) (by omega) (by omega) (by omega) fun j a6 r6 _ _ _ _ _ => ?_
    simp -dsimp
    refine ix_drawn (by omega) (by simp; omega) fun z hz => ?_
    obtain ⟨u, rfl, hu⟩ : ∃ u : Int, z = .int u ∧ -m ≤ u ∧ u ≤ m := by
      simp at hz
      rcases hz with rfl | rfl
      · exact ⟨_, rfl, by omega, by omega⟩
      · exact ⟨_, rfl, by omega, by omega⟩
    refine ⟨by omega, hN _ ⟨W ++ [u], a6, r6, _, _, by simp; omega, ?_, by omega, by simp; omega, by omega, by simp; exact ⟨rfl, rfl⟩⟩⟩
    intro i hi
    simp at hi
    rcases hi with hi | rfl
    · exact hw i hi
    · exact hu
theorem place_ok {ns : List Int} {a r m : Int} {post : Post} {xp : XP} (ha : 0 ≤ a) (ha2 : a ≤ 999000) (hr : 0 ≤ r) (hm : 0 ≤ m) (hm2 : m ≤ 100)
    (h : ∀ (p : Pt) (a' r' : Int), (p.1.natAbs ≤ 10 ^ 13 ∧ p.2.natAbs ≤ 10 ^ 13) → a ≤ a' → a' ≤ a + 3 → 0 ≤ r' → post (vt p) [some (pen (ns.map .int) a' r'), none]) : G_l_place [some (pen (ns.map .int) a r), some (.int m)] post xp := by
  have dr : ∀ (a r m : Int) (post : Post) (xp : XP), 0 ≤ a → a ≤ 1000000 → 0 ≤ r → 1 ≤ m → m ≤ 1000000 → (∀ k a' r', 0 ≤ k → k < m → a ≤ a' → a' ≤ a + 1 → 0 ≤ r' → post (.int k) [some (pen (ns.map .int) a' r'), none]) → G_l_draw [some (pen (ns.map .int) a r), some (.int m)] post xp :=
    fun a r m post xp h1 h2 h3 h4 h5 h6 => draw_ok h1 h2 h3 h4 h5 h6
  unfold G_l_place F_l_place
  generalize G_l_draw = G at dr ⊢
  simp -dsimp
  refine ⟨cmul_l (by omega) (by omega), ?_⟩
  refine dr _ _ _ _ _ (by omega) (by omega) (by omega) (by omega) (by omega) fun x a1 r1 _ _ _ _ _ => ?_
  simp -dsimp
  refine ⟨cmul_l (by omega) (by omega), ?_⟩
  refine dr _ _ _ _ _ (by omega) (by omega) (by omega) (by omega) (by omega) fun y a2 r2 _ _ _ _ _ => ?_
  simp -dsimp
  refine ⟨⟨?_, ?_⟩, ?_⟩
  · split <;> omega
  · have : (if m > 1 then m else 1).natAbs.log2 < 9000 := log_small (by split <;> omega) (by split <;> omega)
    exact this
  refine dr _ _ _ _ _ (by omega) (by omega) (by omega) (by omega) (by omega) fun z a3 r3 _ _ _ _ _ => ?_
  simp -dsimp
  refine ix_drawn (by split <;> omega) (by simp; split <;> omega) fun w hw => ?_
  obtain ⟨u, rfl, hu⟩ : ∃ u : Int, w = .int u ∧ 0 ≤ u ∧ u ≤ 100000000000 := by
    simp at hw
    rcases hw with rfl | rfl
    · exact ⟨_, rfl, by decide, by decide⟩
    · refine ⟨_, rfl, fdiv_nn (by decide) (by split <;> omega), ?_⟩
      rw [Int.fdiv_eq_ediv_of_nonneg _ (by split <;> omega)]
      exact Int.ediv_le_self _ (by decide)
  simp -dsimp
  refine ⟨cmul_r (by omega) (by omega), cmul_r (by omega) (by omega), ?_⟩
  have pb : ∀ x : Int, x.natAbs ≤ 100 → (x * u).natAbs ≤ 10 ^ 13 := fun x hx => by
    rw [Int.natAbs_mul]
    have := Nat.mul_le_mul hx (show u.natAbs ≤ 100000000000 by omega)
    omega
  exact h (_, _) _ _ ⟨pb _ (by omega), pb _ (by omega)⟩ (by omega) (by omega) (by omega)


theorem isint_ok {i : Int} {post : Post} {xp : XP} (q : post (.bl true) [none]) : G_is_integer [some (.int i)] post xp := by
  unfold G_is_integer F_is_integer
  simp
  exact q
theorem ispair_ok {p : Pt} {post : Post} {xp : XP} (q : post (.bl true) [none]) : G_is_pair [some (vt p)] post xp := by
  have ii : ∀ (i : Int) (post : Post) (xp : XP), post (.bl true) [none] → G_is_integer [some (.int i)] post xp := fun i post xp q => isint_ok q
  unfold G_is_pair F_is_pair vt
  generalize G_is_integer = G at ii ⊢
  simp
  refine ii _ _ _ ?_
  simp
  refine ii _ _ _ ?_
  exact q
theorem kinds_ok {V : List Pt} {post : Post} {xp : XP} (q : post (.int V.length) [none]) : G_Field_kinds [some (fieldD V)] post xp := by
  unfold G_Field_kinds F_Field_kinds fieldD
  simp
  simpa using q
theorem are_counts_ok {V : List Pt} {c : Cn} {post : Post} {xp : XP} (hc : c.length = V.length) (hl : V.length ≤ 4) (q : post (.bl true) [none, none]) : G_are_counts [some (fieldD V), some (ct c)] post xp := by
  have ii : ∀ (i : Int) (post : Post) (xp : XP), post (.bl true) [none] → G_is_integer [some (.int i)] post xp := fun i post xp q => isint_ok q
  have kk : ∀ (post : Post) (xp : XP), post (.int V.length) [none] → G_Field_kinds [some (fieldD V)] post xp := fun post xp q => kinds_ok q
  have tr : ∀ c : Cn, (c.map fun _ => true).all id = true := fun c => by simp
  unfold G_are_counts F_are_counts
  generalize G_is_integer = G at ii ⊢
  generalize G_Field_kinds = GK at kk ⊢
  have ob : ∃ fs, fieldD V = D.obj (Str.ofString "Field") fs := ⟨_, rfl⟩
  generalize hF : fieldD V = FD at kk ob ⊢
  unfold ct
  simp
  refine ⟨ob, kk _ _ ?_⟩
  simp [hc]
  refine compL_as D.int (fun _ => .bl true) c (by omega) (fun i hi Pst h => ?_) ?_
  · simp
    refine ii _ _ _ (h _ ?_)
    simp
  · have e : c.map (fun _ => D.bl true) = (c.map fun _ => true).map D.bl := by simp
    rw [e]
    simp -dsimp only [↓fNil_ap]
    refine gAll_bls ?_
    rw [tr]
    exact q
theorem added_ok {a b : Cn} {n : Nat} {post : Post} {xp : XP} (ha : a.length = n) (hb : b.length = n) (hn : n ≤ 4) (q : post (ct (addC a b)) [none, none]) : G_added [some (ct a), some (ct b)] post xp := by
  unfold ct at q
  unfold G_added F_added ct
  simp
  rw [zipD_map]
  refine compL_as (fun p : Int × Int => D.tup [D.int p.1, D.int p.2]) (fun p => .int (p.1 + p.2)) (List.zip a b) (by simp; omega) (fun p hp Pst h => ?_) ?_
  · simp
    refine h _ ?_
    simp
  · have e : (List.zip a b).map (fun p => D.int (p.1 + p.2)) = (addC a b).map D.int := by
      unfold addC
      rw [List.zip, List.map_zipWith, List.map_zipWith]
    rw [e]
    simpa using q
theorem is_piece_ok {V : List Pt} {p : Pc} {post : Post} {xp : XP} (hc : p.2.length = V.length) (hl : V.length ≤ 4) (q : post (.bl true) [none, none]) : G_is_piece [some (fieldD V), some (pt p)] post xp := by
  have h1 : ∀ (p : Pt) (post : Post) (xp : XP), post (.bl true) [none] → G_is_pair [some (vt p)] post xp := fun p post xp q => ispair_ok q
  have h2 : ∀ (post : Post) (xp : XP), post (.bl true) [none, none] → G_are_counts [some (fieldD V), some (ct p.2)] post xp := fun post xp q => are_counts_ok hc hl q
  unfold G_is_piece F_is_piece pt
  generalize G_is_pair = G1 at h1 ⊢
  generalize G_are_counts = G2 at h2 ⊢
  simp
  refine h1 _ _ _ ?_
  simp
  refine h2 _ _ ?_
  exact q


theorem ix_kdE {L : List Pc} {p : Pt} {c : Cn} (h : look L p = some c) (k : D → Prop) : gIx (.dt (L.map kd)) (vt p) k = k (ct c) := by
  refine propext ⟨fun z => ?_, fun q => ⟨ct c, by rw [getK_kd, h]; rfl, q⟩⟩
  have z : ∃ d, getK (.dt (L.map kd)) (vt p) = some (some d) ∧ k d := z
  obtain ⟨d, e, q⟩ := z
  rw [getK_kd, h] at e
  cases e; exact q
theorem atI_getD {l : List Int} {k : Nat} (h : k < l.length) : atI l (k : Int) = some (l.getD k 0) := by
  unfold atI ixN
  rw [if_pos (by omega), if_pos (by omega)]
  rw [List.getD_eq_getElem?_getD]
  simp [h]
theorem range_add {n : Nat} {a b : Cn} (ha : a.length = n) (hb : b.length = n) : (List.range n).map (fun k => D.int (a[k]?.getD 0 + b[k]?.getD 0)) = (addC a b).map D.int := by
  refine List.ext_getElem (by simp [addC, ha, hb]) fun j h1 h2 => ?_
  have hj : j < n := by simpa using h1
  have := addC_get ha hb j
  rw [List.getD_eq_getElem?_getD, List.getD_eq_getElem?_getD, List.getD_eq_getElem?_getD, List.getElem?_eq_getElem (by rw [addC_len ha hb]; exact hj)] at this
  simp only [List.getElem_map, List.getElem_range]
  rw [← this]; rfl
theorem laid_ok {ps : List Pc} {n : Nat} {post : Post} {xp : XP} (w : WF n ps) (h1 : 1 ≤ n) (h4 : n ≤ 4) (hl : ps.length ≤ 1000) (q : post (.ktp ((canon n ps).map pt)) [none]) : G_l_laid [some (.lst (ps.map pt))] post xp := by
  unfold G_l_laid F_l_laid
  simp -dsimp
  refine loop_inv (fun ds ρ => ∃ (U W : List Pc) (x2 x3 x4 x5 : Option D), ps = U ++ W ∧ ds = W.map pt ∧ ρ = [some (.lst (ps.map pt)), some (.dt ((mrg n U).map kd)), x2, x3, x4, x5]) ?_ ?_ _ _ ⟨[], ps, _, _, _, _, rfl, rfl, rfl⟩
  · rintro ρ ⟨U, W, x2, x3, x4, x5, e, ed, rfl⟩
    have : W = [] := by simpa using ed.symm
    subst this
    rw [List.append_nil] at e
    subst e
    have nd := mrg_nodup w
    simp -dsimp
    refine ⟨trivial, ?_⟩
    refine compL_of (fun q : Pc => vt q.1) (fun q => nz q.2) pt (mrg n ps) [] (by have := mrg_len w; simp; omega) (fun p hp Pst N g1 g2 => ?_) ?_
    · have hlk := nodup_look nd hp
      have hlen := mrg_wf w p hp
      simp -dsimp [ix_kdE hlk]
      refine ⟨by rw [hlen]; omega, ?_⟩
      have zt : D.tup (List.replicate p.2.length (D.int 0)) = ct (zero n) := by rw [hlen]; unfold ct zero; simp
      rw [zt, ne_ct]
      by_cases hz : nz p.2 = true
      · have hz2 := (nz_ne hlen).1 hz
        simp -dsimp [hz2, ix_kdE hlk]
        exact g1 hz _ (by simp)
      · have hz1 : nz p.2 = false := by simpa using hz
        have hz2 : p.2 = zero n := Classical.not_not.mp fun z => hz ((nz_ne hlen).2 z)
        simp -dsimp [hz2]
        exact g2 hz1 _ (by simp)
    · simp -dsimp
      refine sort_pt ?_ fun M pm as => ?_
      · exact List.Nodup.sublist (List.Sublist.map _ List.filter_sublist) nd
      · rw [canon_uniq w pm as]
        simp -dsimp
        exact q
  · rintro d ds ρ N hN ⟨U, W, x2, x3, x4, x5, e, ed, rfl⟩
    cases W with
    | nil => simp at ed
    | cons p W =>
      rw [List.map_cons, List.cons.injEq] at ed
      obtain ⟨rfl, rfl⟩ := ed
      have wU : WF n U := fun r hr => w r (by rw [e]; exact List.mem_append_left _ hr)
      have hp : p.2.length = n := w p (by rw [e]; simp)
      have lU : (mrg n U).length ≤ 1000 := by have := mrg_len wU; rw [e] at hl; simp at hl; omega
      have aL := at_len wU p.1
      have gk : getK (D.dt ((mrg n U).map kd)) (vt p.1) = some ((look (mrg n U) p.1).map ct) := getK_kd _ _
      have pk : ∀ c : Cn, putKD (D.dt ((mrg n U).map kd)) (vt p.1) (ct c) = some (.dt ((putP (mrg n U) p.1 c).map kd)) := fun c => putKD_kd _ _ _
      have old : ((look (mrg n U) p.1).map ct).getD (ct (zero n)) = ct (at_ n (mrg n U) p.1) := by
        unfold at_
        cases look (mrg n U) p.1 <;> rfl
      have sz : sizeD (D.dt ((mrg n U).map kd)) < 1000000 := by show ((mrg n U).map kd).length < 1000000; rw [List.length_map]; omega
      have es : mrg n (U ++ [p]) = putP (mrg n U) p.1 (addC (at_ n (mrg n U) p.1) p.2) := by unfold mrg; rw [List.foldl_append]; rfl
      have aM := at_len (mrg_wf wU) p.1
      simp -dsimp [pt]
      refine ⟨trivial, by rw [hp]; omega, _, gk, ?_⟩
      have zt : D.tup (List.replicate p.2.length (D.int 0)) = ct (zero n) := by rw [hp]; unfold ct zero; simp
      rw [zt, old]
      refine ⟨by omega, ?_⟩
      refine compL_as (fun k : Nat => D.int (k : Int)) (fun k => .int ((at_ n (mrg n U) p.1).getD k 0 + p.2.getD k 0)) (List.range p.2.length) (by simp; omega) (fun k hk Pst g => ?_) ?_
      · have hk : k < n := by rw [List.mem_range] at hk; omega
        simp -dsimp [ct]
        refine ⟨_, atI_getD (by omega), _, atI_getD (by omega), g _ ?_⟩
        simp [ct]
      · simp -dsimp
        rw [hp, range_add aM hp]
        exact ⟨trivial, sz, _, pk _, hN _ ⟨U ++ [p], W, _, _, _, _, by rw [e]; simp, rfl, by rw [es]⟩⟩

theorem in_kd (L : List Pc) (p : Pt) (k : D → Prop) : gIn (vt p) (.dt (L.map kd)) k = k (.bl (look L p).isSome) := by
  refine propext ⟨fun z => ?_, fun q => ⟨_, getK_kd L p, by rw [Option.isSome_map]; exact q⟩⟩
  have z : ∃ r, getK (.dt (L.map kd)) (vt p) = some r ∧ k (.bl r.isSome) := z
  obtain ⟨r, e, q⟩ := z
  rw [getK_kd] at e
  cases e
  rw [Option.isSome_map] at q
  exact q
theorem fold_put : ∀ (L M : List Pc), ((M ++ L).map (·.1)).Nodup → L.foldl (fun (a : List (List Key × D)) (q : Pc) => putD a (keyP q.1) (ct q.2)) (M.map kd) = (M ++ L).map kd
  | [], M, _ => by simp
  | q :: L, M, nd => by
    have e : putP M q.1 q.2 = M ++ [q] := by
      unfold putP
      rw [if_neg]
      intro h
      obtain ⟨r, hr, er⟩ := List.any_eq_true.mp h
      rw [List.map_append, List.nodup_append] at nd
      exact nd.2.2 r.1 (List.mem_map.mpr ⟨r, hr, rfl⟩) q.1 (by simp) (by simpa using er)
    rw [List.foldl_cons, putD_kd, e, fold_put L (M ++ [q]) (by simpa using nd)]
    simp
theorem merged_ok {ps : List Pc} {n : Nat} {post : Post} {xp : XP} (w : WF n ps) (h4 : n ≤ 4) (hl : ps.length ≤ 1000) (q : post (.dt (((mrg n ps).filter fun q => nz q.2).map kd)) [none]) : G_merged [some (.tup (ps.map pt))] post xp := by
  have ad : ∀ (a b : Cn) (post : Post) (xp : XP), a.length = n → b.length = n → post (ct (addC a b)) [none, none] → G_added [some (ct a), some (ct b)] post xp := fun a b post xp h1 h2 q => added_ok h1 h2 h4 q
  unfold G_merged F_merged
  generalize G_added = GA at ad ⊢
  simp -dsimp
  refine loop_inv (fun ds ρ => ∃ (U W : List Pc) (x2 x3 : Option D), ps = U ++ W ∧ ds = W.map pt ∧ ρ = [some (.tup (ps.map pt)), some (.dt ((mrg n U).map kd)), x2, x3]) ?_ ?_ _ _ ⟨[], ps, _, _, rfl, rfl, rfl⟩
  · rintro ρ ⟨U, W, x2, x3, e, ed, rfl⟩
    have : W = [] := by simpa using ed.symm
    subst this
    rw [List.append_nil] at e
    subst e
    have nd := mrg_nodup w
    simp -dsimp
    refine ⟨trivial, ?_⟩
    refine dcL_of pt (fun q => nz q.2) (fun q => keyP q.1) (fun q => ct q.2) (mrg n ps) [] (by have := mrg_len w; simp; omega) (fun p hp R N g1 g2 => ?_) ?_
    · simp -dsimp [pt]
      refine gList_ct ?_
      refine gAnyI_ints ?_
      by_cases hz : nz p.2 = true
      · have hz' : (p.2.any fun n => n != 0) = true := hz
        rw [hz']
        simp -dsimp
        exact ⟨_, keyTD_vt _, g1 hz _ (by simp [pt])⟩
      · have hz1 : nz p.2 = false := by simpa using hz
        have hz' : (p.2.any fun n => n != 0) = false := hz1
        rw [hz']
        simp -dsimp
        exact g2 hz1 _ (by simp [pt])
    · have := fold_put ((mrg n ps).filter fun q => nz q.2) [] (by
        rw [List.nil_append]
        exact List.Nodup.sublist (List.Sublist.map _ List.filter_sublist) nd)
      rw [List.map_nil, List.nil_append] at this
      rw [this]
      simp -dsimp
      exact q
  · rintro d ds ρ N hN ⟨U, W, x2, x3, e, ed, rfl⟩
    cases W with
    | nil => simp at ed
    | cons p W =>
      rw [List.map_cons, List.cons.injEq] at ed
      obtain ⟨rfl, rfl⟩ := ed
      have wU : WF n U := fun r hr => w r (by rw [e]; exact List.mem_append_left _ hr)
      have hp : p.2.length = n := w p (by rw [e]; simp)
      have lU : (mrg n U).length ≤ 1000 := by have := mrg_len wU; rw [e] at hl; simp at hl; omega
      have sz : sizeD (D.dt ((mrg n U).map kd)) < 1000000 := by show ((mrg n U).map kd).length < 1000000; rw [List.length_map]; omega
      have es : mrg n (U ++ [p]) = putP (mrg n U) p.1 (addC (at_ n (mrg n U) p.1) p.2) := by unfold mrg; rw [List.foldl_append]; rfl
      have pk : ∀ c : Cn, putKD (D.dt ((mrg n U).map kd)) (vt p.1) (ct c) = some (.dt ((putP (mrg n U) p.1 c).map kd)) := fun c => putKD_kd _ _ _
      simp -dsimp [pt, in_kd]
      cases hk : look (mrg n U) p.1 with
      | none =>
        have ea : at_ n (mrg n U) p.1 = zero n := by unfold at_; rw [hk]; rfl
        rw [ea, zero_add hp] at es
        simp -dsimp
        exact ⟨trivial, sz, _, pk _, hN _ ⟨U ++ [p], W, _, _, by rw [e]; simp, rfl, by rw [es]⟩⟩
      | some c =>
        have ea : at_ n (mrg n U) p.1 = c := by unfold at_; rw [hk]; rfl
        rw [ea] at es
        simp -dsimp [ix_kdE hk]
        refine ad _ _ _ _ (look_len (mrg_wf wU) hk) hp ?_
        simp -dsimp
        exact ⟨trivial, sz, _, pk _, hN _ ⟨U ++ [p], W, _, _, by rw [e]; simp, rfl, by rw [es]⟩⟩
/-- a state: M what lies in the order in which it was put, L by place -/
def stD (V : List Pt) (pos : Pt) (M L : List Pc) : D := .obj "State" [("ground", fieldD V), ("stand", vt pos), ("laid", .dt (M.map kd)), ("rows", .tup (L.map pt)), ("key", .tup [vt pos, .tup (L.map pt)])]
@[simp] theorem isObj_stD (V : List Pt) (pos : Pt) (M L : List Pc) : isObj "State" (stD V pos M L) = True := by simp [stD]
@[simp] theorem isObjM_stD (m : Str) (V : List Pt) (pos : Pt) (M L : List Pc) : isObjM "State" m (stD V pos M L) = (m ≠ "ground" ∧ m ≠ "stand" ∧ m ≠ "laid" ∧ m ≠ "rows" ∧ m ≠ "key") := by simp [stD, lookup_none, -List.lookup_eq_none_iff]
@[simp ↓] theorem gFld_ground (V : List Pt) (pos : Pt) (M L : List Pc) (k) : gFld "State" "ground" (stD V pos M L) k = k (fieldD V) := propext ⟨fun ⟨_, _, e, h⟩ => by cases e; exact h, fun h => ⟨rfl, _, rfl, h⟩⟩
@[simp ↓] theorem gFld_stand (V : List Pt) (pos : Pt) (M L : List Pc) (k) : gFld "State" "stand" (stD V pos M L) k = k (vt pos) := propext ⟨fun ⟨_, _, e, h⟩ => by cases e; exact h, fun h => ⟨rfl, _, rfl, h⟩⟩
@[simp ↓] theorem gFld_laid (V : List Pt) (pos : Pt) (M L : List Pc) (k) : gFld "State" "laid" (stD V pos M L) k = k (.dt (M.map kd)) := propext ⟨fun ⟨_, _, e, h⟩ => by cases e; exact h, fun h => ⟨rfl, _, rfl, h⟩⟩
@[simp ↓] theorem gFld_rows (V : List Pt) (pos : Pt) (M L : List Pc) (k) : gFld "State" "rows" (stD V pos M L) k = k (.tup (L.map pt)) := propext ⟨fun ⟨_, _, e, h⟩ => by cases e; exact h, fun h => ⟨rfl, _, rfl, h⟩⟩
@[simp ↓] theorem gFld_key (V : List Pt) (pos : Pt) (M L : List Pc) (k) : gFld "State" "key" (stD V pos M L) k = k (.tup [vt pos, .tup (L.map pt)]) := propext ⟨fun ⟨_, _, e, h⟩ => by cases e; exact h, fun h => ⟨rfl, _, rfl, h⟩⟩
theorem init_ok {V : List Pt} {pos : Pt} {ps : List Pc} {post : Post} {xp : XP} (h1 : 1 ≤ V.length) (h4 : V.length ≤ 4) (w : WF V.length ps) (hl : ps.length ≤ 1000)
    (q : ∀ M : List Pc, M.Perm (canon V.length ps) → post .non [some (stD V pos M (canon V.length ps)), none, none, none]) :
    G_State___init__ [some (.obj "State" []), some (fieldD V), some (vt pos), some (.tup (ps.map pt))] post xp := by
  have g1 : ∀ (p : Pt) (post : Post) (xp : XP), post (.bl true) [none] → G_is_pair [some (vt p)] post xp := fun p post xp q => ispair_ok q
  have g2 : ∀ (p : Pc) (post : Post) (xp : XP), p ∈ ps → post (.bl true) [none, none] → G_is_piece [some (fieldD V), some (pt p)] post xp := fun p post xp hp q => is_piece_ok (w p hp) h4 q
  have g3 : ∀ (post : Post) (xp : XP), post (.dt (((mrg V.length ps).filter fun q => nz q.2).map kd)) [none] → G_merged [some (.tup (ps.map pt))] post xp := fun post xp q => merged_ok w h4 hl q
  unfold G_State___init__ F_State___init__
  generalize G_is_pair = G1 at g1 ⊢
  generalize G_is_piece = G2 at g2 ⊢
  generalize G_merged = G3 at g3 ⊢
  simp -dsimp
  refine g1 _ _ _ ?_
  simp -dsimp
  refine compL_as pt (fun _ => .bl true) ps (by omega) (fun p hp Pst h => ?_) ?_
  · simp -dsimp
    refine g2 p _ _ hp (h _ ?_)
    simp
  · have tr : (ps.map fun _ => true).all id = true := by simp
    have e : ps.map (fun _ => D.bl true) = (ps.map fun _ => true).map D.bl := by simp
    simp -dsimp
    rw [e]
    refine gAll_bls ?_
    rw [tr]
    simp -dsimp
    refine g3 _ _ ?_
    simp -dsimp
    refine ⟨_, rfl, ?_⟩
    simp -dsimp [putFd]
    refine ⟨trivial, pairKs_kd _, fun es p s => ?_⟩
    have p : es.Perm (((mrg V.length ps).filter fun q => nz q.2).map pt) := p
    obtain ⟨M, rfl, pm⟩ := perm_pt p
    have em := canon_uniq w pm (asc_pt s)
    refine ⟨_, rfl, ?_⟩
    rw [em]
    exact q _ (canon_perm V.length ps).symm

@[simp ↓] theorem gCut_tup (a : List D) (lo hi : Option Int) (k) : gCut (.tup a) lo hi k = k (.tup (cutL a lo hi)) := rfl
theorem cut1 (d : D) (ds : List D) : cutL (d :: ds) (some 1) none = ds := by
  unfold cutL
  simp [HT.sIx]
theorem cut1_nil : cutL ([] : List D) (some 1) none = [] := by
  unfold cutL
  simp
theorem asc_zip : ∀ {L : List Pc}, Asc L → ∀ p ∈ List.zip L L.tail, DL.ltP p.1.1 p.2.1
  | [], _, p, h => by simp at h
  | [_], _, p, h => by simp at h
  | a :: b :: L, h, p, hp => by
    unfold Asc at h
    rw [List.pairwise_cons] at h
    simp only [List.tail_cons, List.zip_cons_cons, List.mem_cons] at hp
    rcases hp with rfl | hp
    · exact h.1 b List.mem_cons_self
    · exact asc_zip (L := b :: L) h.2 p hp
@[simp ↓] theorem fld_rows (V pos M L k) : gFld "State" "rows" (stD V pos M L) k = k (.tup (L.map pt)) := by
  exact propext ⟨fun ⟨_, x, e, h⟩ => by cases e; exact h, fun h => ⟨rfl, _, rfl, h⟩⟩
@[simp ↓] theorem fld_ground (V pos M L k) : gFld "State" "ground" (stD V pos M L) k = k (fieldD V) := by
  exact propext ⟨fun ⟨_, x, e, h⟩ => by cases e; exact h, fun h => ⟨rfl, _, rfl, h⟩⟩
@[simp ↓] theorem fld_stand (V pos M L k) : gFld "State" "stand" (stD V pos M L) k = k (vt pos) := by
  exact propext ⟨fun ⟨_, x, e, h⟩ => by cases e; exact h, fun h => ⟨rfl, _, rfl, h⟩⟩
@[simp ↓] theorem fld_laid (V pos M L k) : gFld "State" "laid" (stD V pos M L) k = k (.dt (M.map kd)) := by
  exact propext ⟨fun ⟨_, x, e, h⟩ => by cases e; exact h, fun h => ⟨rfl, _, rfl, h⟩⟩
@[simp ↓] theorem fld_key (V pos M L k) : gFld "State" "key" (stD V pos M L) k = k (.tup [vt pos, .tup (L.map pt)]) := by
  exact propext ⟨fun ⟨_, x, e, h⟩ => by cases e; exact h, fun h => ⟨rfl, _, rfl, h⟩⟩
@[simp ↓] theorem fld_vectors (V k) : gFld "Field" "vectors" (fieldD V) k = k (.tup (V.map vt)) := by
  exact propext ⟨fun ⟨_, x, e, h⟩ => by cases e; exact h, fun h => ⟨rfl, _, rfl, h⟩⟩
theorem totals_ok {V : List Pt} {pos : Pt} {M L : List Pc} {post : Post} {xp : XP} (h1 : 1 ≤ V.length) (h4 : V.length ≤ 4) (w : WF V.length L) (q : post (ct (tot V.length L)) [none]) : G_State_totals [some (stD V pos M L)] post xp := by
  have kk : ∀ (post : Post) (xp : XP), post (.int V.length) [none] → G_Field_kinds [some (fieldD V)] post xp := fun post xp q => kinds_ok q
  have ad : ∀ (a b : Cn) (post : Post) (xp : XP), a.length = V.length → b.length = V.length → post (ct (addC a b)) [none, none] → G_added [some (ct a), some (ct b)] post xp := fun a b post xp h1 h2 q => added_ok h1 h2 h4 q
  unfold G_State_totals F_State_totals
  generalize G_Field_kinds = GK at kk ⊢
  generalize G_added = GA at ad ⊢
  have ob : ∃ fs, fieldD V = D.obj (Str.ofString "Field") fs := ⟨_, rfl⟩
  have hS : stD V pos M L = stD V pos M L := rfl
  have ez : ∀ n : Nat, (D.tup (List.replicate n (D.int 0))) = ct (zero n) := fun n => by unfold ct zero; simp
  simp -dsimp
  refine kk _ _ ?_
  simp -dsimp [ez]
  refine ⟨by omega, ?_⟩
  refine loop_inv (fun ds ρ => ∃ (U W : List Pc) (x2 x3 : Option D), L = U ++ W ∧ ds = W.map pt ∧ ρ = [some (stD V pos M L), some (ct (tot V.length U)), x2, x3]) ?_ ?_ _ _ ⟨[], L, _, _, rfl, rfl, rfl⟩
  · rintro ρ ⟨U, W, x2, x3, e, ed, rfl⟩
    have : W = [] := by simpa using ed.symm
    subst this
    rw [List.append_nil] at e
    subst e
    simp -dsimp
    exact q
  · rintro d ds ρ N hN ⟨U, W, x2, x3, e, ed, rfl⟩
    cases W with
    | nil => simp at ed
    | cons p W =>
      rw [List.map_cons, List.cons.injEq] at ed
      obtain ⟨rfl, rfl⟩ := ed
      have wU : WF V.length U := fun r hr => w r (by rw [e]; exact List.mem_append_left _ hr)
      have hp : p.2.length = V.length := w p (by rw [e]; simp)
      simp -dsimp [pt]
      refine ad _ _ _ _ (tot_len wU) hp ?_
      simp -dsimp
      exact hN _ ⟨U ++ [p], W, _, _, by rw [e]; simp, rfl, by rw [tot_snoc]⟩
theorem dot_zip (f : Pt → Int) : ∀ (c : Cn) (V : List Pt), ((List.zip c V).map fun p => p.1 * f p.2).sum = dot c (V.map f)
  | [], _ => by simp [dot]
  | _ :: _, [] => by simp [dot]
  | x :: c, v :: V => by
    have ih := dot_zip f c V
    unfold dot at ih ⊢
    simp only [List.zip_cons_cons, List.map_cons, List.sum_cons, List.zipWith_cons_cons]
    rw [ih]
def velo (V : List Pt) (t : Cn) : Pt := (dot t (V.map (·.1)), dot t (V.map (·.2)))
theorem velocity_ok {V : List Pt} {pos : Pt} {M L : List Pc} {post : Post} {xp : XP} (p : Pul V) (w : WF V.length L) (q : post (vt (velo V (tot V.length L))) [none]) : G_State_velocity [some (stD V pos M L)] post xp := by
  have tt : ∀ (post : Post) (xp : XP), post (ct (tot V.length L)) [none] → G_State_totals [some (stD V pos M L)] post xp := fun post xp q => totals_ok p.h1 p.h4 w q
  have hl := tot_len w
  have small : ∀ v ∈ V, ∀ x : Int, CMulO x v.1 ∧ CMulO x v.2 := fun v hv x => by
    have := p.b v hv
    exact ⟨cmul_r (by omega) (by omega), cmul_r (by omega) (by omega)⟩
  unfold G_State_velocity F_State_velocity
  generalize G_State_totals = GT at tt ⊢
  have ob : ∃ fs, stD V pos M L = D.obj (Str.ofString "State") fs := ⟨_, rfl⟩
  simp -dsimp
  refine tt _ _ ?_
  simp -dsimp [ct]
  have z1 : zipD ((tot V.length L).map D.int) (V.map vt) = (List.zip (tot V.length L) V).map fun p => D.tup [D.int p.1, vt p.2] := zipD_map _ _ _ _
  rw [z1]
  refine compL_as (fun p : Int × Pt => D.tup [D.int p.1, vt p.2]) (fun p => .int (p.1 * p.2.1)) _ (by simp; have := p.h4; omega) (fun x hx Pst h => ?_) ?_
  · simp -dsimp [vt]
    refine ⟨(small x.2 (List.of_mem_zip hx).2 x.1).1, h _ ?_⟩
    simp
  have s1 : (List.zip (tot V.length L) V).map (fun p => D.int (p.1 * p.2.1)) = ((List.zip (tot V.length L) V).map fun p => p.1 * p.2.1).map D.int := by simp
  have s2 : (List.zip (tot V.length L) V).map (fun p => D.int (p.1 * p.2.2)) = ((List.zip (tot V.length L) V).map fun p => p.1 * p.2.2).map D.int := by simp
  simp -dsimp
  rw [s1]
  refine gSum_ints ?_
  rw [dot_zip (fun v => v.1)]
  try simp -dsimp
  rw [z1]
  refine compL_as (fun p : Int × Pt => D.tup [D.int p.1, vt p.2]) (fun p => .int (p.1 * p.2.2)) _ (by simp; have := p.h4; omega) (fun x hx Pst h => ?_) ?_
  · simp -dsimp [vt]
    refine ⟨(small x.2 (List.of_mem_zip hx).2 x.1).2, h _ ?_⟩
    simp
  simp -dsimp
  rw [s2]
  refine gSum_ints ?_
  rw [dot_zip (fun v => v.2)]
  exact q

theorem shifted_ok {V : List Pt} {pos by_ : Pt} {M L : List Pc} {post : Post} {xp : XP} (h1 : 1 ≤ V.length) (h4 : V.length ≤ 4) (c : Can V.length L) (hl : L.length ≤ 500) (q : ∀ M' : List Pc, M'.Perm (mvL by_ L) → post (stD V (mvP by_ pos) M' (mvL by_ L)) [none, none]) :
    G_State_shifted [some (stD V pos M L), some (vt by_)] post xp := by
  have cm := mv_can by_ c
  have g2 : ∀ (post : Post) (xp : XP), (∀ M' : List Pc, M'.Perm (mvL by_ L) → post .non [some (stD V (mvP by_ pos) M' (mvL by_ L)), none, none, none]) → G_State___init__ [some (.obj "State" []), some (fieldD V), some (vt (mvP by_ pos)), some (.tup ((mvL by_ L).map pt))] post xp := fun post xp q =>
    init_ok h1 h4 cm.wf (by unfold mvL; simp; omega) (by rw [canon_self cm]; exact q)
  unfold G_State_shifted F_State_shifted
  generalize G_State___init__ = G2 at g2 ⊢
  simp -dsimp [vt]
  refine compL_as pt (fun q => pt (mvP by_ q.1, q.2)) L (by omega) (fun q hq Pst h => ?_) ?_
  · simp -dsimp [pt, vt]
    refine h _ ?_
    simp [pt, vt]
  have em : L.map (fun q => pt (mvP by_ q.1, q.2)) = (mvL by_ L).map pt := by unfold mvL; simp
  rw [em]
  simp -dsimp [vt]
  refine ⟨_, .inr rfl, ?_⟩
  refine ⟨by unfold mvL; simp; omega, ?_⟩
  exact g2 _ _ fun M' pm => ⟨rfl, _, rfl, q M' pm⟩
theorem field_init_ok {V : List Pt} {post : Post} {xp : XP} (p : Pul V) (q : post .non [some (fieldD V), none]) : G_Field___init__ [some (.obj "Field" []), some (.tup (V.map vt))] post xp := by
  have g1 : ∀ (v : Pt) (post : Post) (xp : XP), post (.bl true) [none] → G_is_pair [some (vt v)] post xp := fun v post xp q => ispair_ok q
  have g2 : ∀ (v : Pt) (post : Post) (xp : XP), v ∈ V → post (.bl true) [none] → G_is_pull [some (vt v)] post xp := by
    intro v post xp hv q
    have b := p.b v hv
    have nz := p.nz v hv
    have ev := ne_vt v (0, 0)
    have eq := eq_vt v (0, 0)
    unfold G_is_pull F_is_pull
    generalize G_is_pair = G1 at g1 ⊢
    simp -dsimp
    refine g1 _ _ _ ?_
    simp -dsimp only [vt] at eq
    have b1 : (if v.1 < 0 then -v.1 else v.1) ≤ 9 := by split <;> omega
    have b2 : (if v.2 < 0 then -v.2 else v.2) ≤ 9 := by split <;> omega
    simp -dsimp [vt, eq, nz]
    rw [if_pos b1, decide_eq_true b2]
    exact q
  unfold G_Field___init__ F_Field___init__
  generalize G_is_pull = G2 at g2 ⊢
  have h1 : (1 : Int) ≤ V.length := by have := p.h1; omega
  have h4 : ¬ (4 : Int) < V.length := by have := p.h4; omega
  have tr : (V.map fun _ => true).all id = true := by simp
  have e : V.map (fun _ => D.bl true) = (V.map fun _ => true).map D.bl := by simp
  simp -dsimp [h1, h4]
  refine compL_as vt (fun _ => .bl true) V (by have := p.h4; omega) (fun v hv Pst h => ?_) ?_
  · simp -dsimp
    refine g2 v _ _ hv (h _ ?_)
    simp
  simp -dsimp
  rw [e]
  refine gAll_bls ?_
  rw [tr]
  simp -dsimp
  exact q

theorem gSum_fn {α : Type} (f : α → Int) (l : List α) {k : D → Prop} (h : k (.int (l.map f).sum)) : gSum [.lst (l.map fun x => D.int (f x))] k := by
  have e : l.map (fun x => D.int (f x)) = (l.map f).map D.int := by rw [List.map_map]; rfl
  rw [e]
  exact gSum_ints h
theorem velo_snoc {V : List Pt} {L : List Pc} {p : Pc} (w : WF V.length L) (hp : p.2.length = V.length) : velo V (tot V.length (L ++ [p])) = ((velo V (tot V.length L)).1 + dot p.2 (V.map (·.1)), (velo V (tot V.length L)).2 + dot p.2 (V.map (·.2))) := by
  unfold velo
  rw [tot_snoc, dot_add (by rw [tot_len w]; simp) (by rw [hp]; simp), dot_add (by rw [tot_len w]; simp) (by rw [hp]; simp)]

theorem lfield_ok {V : List Pt} {post : Post} {xp : XP} (p : Pul V) (q : post (fieldD V) [none]) : G_l_field [some (.tup (V.map vt))] post xp := by
  have g1 : ∀ (post : Post) (xp : XP), post .non [some (fieldD V), none] → G_Field___init__ [some (.obj "Field" []), some (.tup (V.map vt))] post xp := fun post xp q => field_init_ok p q
  have h1 := p.h1
  have h4 := p.h4
  unfold G_l_field F_l_field
  generalize G_Field___init__ = G at g1 ⊢
  match V, h1, h4 with
  | [a], _, _ => simp -dsimp; exact g1 _ _ ⟨rfl, _, rfl, q⟩
  | [a, b], _, _ => simp -dsimp; exact g1 _ _ ⟨rfl, _, rfl, q⟩
  | [a, b, c], _, _ => simp -dsimp; exact g1 _ _ ⟨rfl, _, rfl, q⟩
  | [a, b, c, d], _, _ => simp -dsimp; exact g1 _ _ ⟨rfl, _, rfl, q⟩
theorem parts_ok {V : List Pt} {pos : Pt} {M L : List Pc} {post : Post} {xp : XP} (q : post (.tup [vt pos, .tup (L.map pt)]) [none]) : G_State_parts [some (stD V pos M L)] post xp := by
  unfold G_State_parts F_State_parts
  simp -dsimp
  exact q
theorem empty_ok {V : List Pt} {pos : Pt} {post : Post} {xp : XP} (h1 : 1 ≤ V.length) (h4 : V.length ≤ 4) (q : post (stD V pos [] []) [none, none, none]) : G_State_empty_fl [some (.cl "State"), some (fieldD V), some (vt pos)] post xp := by
  have g2 : ∀ (post : Post) (xp : XP), (∀ M : List Pc, M.Perm (canon V.length []) → post .non [some (stD V pos M (canon V.length [])), none, none, none]) → G_State___init__ [some (.obj "State" []), some (fieldD V), some (vt pos), some (.tup [])] post xp := fun post xp q =>
    init_ok (ps := []) h1 h4 (fun _ h => by cases h) (by simp) q
  have ec : canon V.length [] = [] := canon_self ⟨(fun _ h => by cases h), (fun _ h => by cases h), List.Pairwise.nil⟩
  rw [ec] at g2
  unfold G_State_empty_fl F_State_empty
  generalize G_State___init__ = G2 at g2 ⊢
  simp -dsimp
  refine g2 _ _ fun M pm => ?_
  have em : M = [] := pm.eq_nil
  subst em
  exact ⟨rfl, _, rfl, q⟩

theorem deal_ok {ns : List Int} {a r m : Int} {k : Nat} {post : Post} {xp : XP} (ha : 0 ≤ a) (ha2 : a ≤ 990000) (hr : 0 ≤ r) (hm : 1 ≤ m) (hm2 : m ≤ 100000) (hk : k ≤ 10)
    (h : ∀ (V : List Pt) (pos : Pt) (ps : List Pc) (a' r' : Int), Pul V → WF V.length ps → ps.length ≤ k + 1 → (pos.1.natAbs ≤ 10 ^ 13 ∧ pos.2.natAbs ≤ 10 ^ 13) → (∀ q ∈ ps, (q.1.1.natAbs ≤ 10 ^ 13 ∧ q.1.2.natAbs ≤ 10 ^ 13) ∧ ∀ i ∈ q.2, -m ≤ i ∧ i ≤ m) → a ≤ a' → a' ≤ a + 200 → 0 ≤ r' → post (.tup [.tup (V.map vt), vt pos, .lst (ps.map pt)]) [some (pen (ns.map .int) a' r'), none, none]) :
    G_l_deal [some (pen (ns.map .int) a r), some (.int k), some (.int m)] post xp := by
  have dr : ∀ (a r m : Int) (post : Post) (xp : XP), 0 ≤ a → a ≤ 1000000 → 0 ≤ r → 1 ≤ m → m ≤ 1000000 → (∀ k a' r', 0 ≤ k → k < m → a ≤ a' → a' ≤ a + 1 → 0 ≤ r' → post (.int k) [some (pen (ns.map .int) a' r'), none]) → G_l_draw [some (pen (ns.map .int) a r), some (.int m)] post xp :=
    fun a r m post xp h1 h2 h3 h4 h5 h6 => draw_ok h1 h2 h3 h4 h5 h6
  have pu : ∀ (a r m : Int) (post : Post) (xp : XP), 0 ≤ a → a ≤ 999000 → 0 ≤ r → 1 ≤ m → m ≤ 9 → (∀ (V : List Pt) (a' r' : Int), Pul V → a ≤ a' → a' ≤ a + 20 → 0 ≤ r' → post (.tup (V.map vt)) [some (pen (ns.map .int) a' r'), none]) → G_l_pulls [some (pen (ns.map .int) a r), some (.int m)] post xp :=
    fun a r m post xp h1 h2 h3 h4 h5 h6 => pulls_ok h1 h2 h3 h4 h5 h6
  have pl : ∀ (a r m : Int) (post : Post) (xp : XP), 0 ≤ a → a ≤ 999000 → 0 ≤ r → 0 ≤ m → m ≤ 100 → (∀ (p : Pt) (a' r' : Int), (p.1.natAbs ≤ 10 ^ 13 ∧ p.2.natAbs ≤ 10 ^ 13) → a ≤ a' → a' ≤ a + 3 → 0 ≤ r' → post (vt p) [some (pen (ns.map .int) a' r'), none]) → G_l_place [some (pen (ns.map .int) a r), some (.int m)] post xp :=
    fun a r m post xp h1 h2 h3 h4 h5 h6 => place_ok h1 h2 h3 h4 h5 h6
  have co : ∀ (a r : Int) (n : Nat) (post : Post) (xp : XP), 0 ≤ a → a ≤ 999000 → 0 ≤ r → n ≤ 4 → (∀ (c : Cn) (a' r' : Int), c.length = n → (∀ i ∈ c, -m ≤ i ∧ i ≤ m) → a ≤ a' → a' ≤ a + 8 → 0 ≤ r' → post (ct c) [some (pen (ns.map .int) a' r'), none, none]) → G_l_counts [some (pen (ns.map .int) a r), some (.int n), some (.int m)] post xp :=
    fun a r n post xp h1 h2 h3 h4 h5 => counts_ok h1 h2 h3 hm hm2 h4 h5
  unfold G_l_deal F_l_deal
  generalize G_l_draw = G1 at dr ⊢
  generalize G_l_pulls = G2 at pu ⊢
  generalize G_l_place = G3 at pl ⊢
  generalize G_l_counts = G4 at co ⊢
  simp -dsimp
  refine dr _ _ _ _ _ (by omega) (by omega) (by omega) (by omega) (by omega) fun way a1 r1 _ _ _ _ _ => ?_
  simp -dsimp
  refine dr _ _ _ _ _ (by omega) (by omega) (by omega) (by omega) (by omega) fun i a2 r2 _ _ _ _ _ => ?_
  simp -dsimp
  refine ix_drawn (by omega) (by simp; omega) fun z hz => ?_
  obtain ⟨wide, rfl, w0, w1⟩ : ∃ u : Int, z = .int u ∧ 0 ≤ u ∧ u ≤ 30 := by
    simp at hz
    rcases hz with rfl | rfl | rfl | rfl <;> exact ⟨_, rfl, by decide, by decide⟩
  refine dr _ _ _ _ _ (by omega) (by omega) (by omega) (by omega) (by omega) fun i a3 r3 _ _ _ _ _ => ?_
  simp -dsimp
  refine ix_drawn (by omega) (by simp; omega) fun z hz => ?_
  obtain ⟨top, rfl, t0, t1⟩ : ∃ u : Int, z = .int u ∧ 1 ≤ u ∧ u ≤ 9 := by
    simp at hz
    rcases hz with rfl | rfl | rfl <;> exact ⟨_, rfl, by decide, by decide⟩
  refine pu _ _ _ _ _ (by omega) (by omega) (by omega) t0 t1 fun V a4 r4 pV _ _ _ => ?_
  simp -dsimp
  refine pl _ _ _ _ _ (by omega) (by omega) (by omega) w0 (by omega) fun pos a5 r5 hpos _ _ _ => ?_
  simp -dsimp
  refine dr _ _ _ _ _ (by omega) (by omega) (by omega) (by omega) (by omega) fun many a6 r6 _ _ _ _ _ => ?_
  simp -dsimp
  refine ⟨by omega, ?_⟩
  refine loop_inv (fun ds ρ => ∃ (W : List Pc) (a' r' : Int) (x8 x9 : Option D), W.length + ds.length = many.toNat ∧ WF V.length W ∧ (∀ q ∈ W, (q.1.1.natAbs ≤ 10 ^ 13 ∧ q.1.2.natAbs ≤ 10 ^ 13) ∧ ∀ i ∈ q.2, -m ≤ i ∧ i ≤ m) ∧ a ≤ a' ∧ a' ≤ a6 + 11 * W.length ∧ 0 ≤ r' ∧
    ρ = [some (pen (ns.map .int) a' r'), some (.int k), some (.int m), some (.int way), some (.int wide), some (.tup (V.map vt)), some (vt pos), some (.lst (W.map pt)), x8, x9]) ?_ ?_ _ _ ⟨[], a6, r6, _, _, by simp, (fun _ h => by cases h), (fun _ h => by cases h), by omega, by simp, by omega, rfl⟩
  · rintro ρ ⟨W, a', r', x8, x9, hl, wf, hb, h1, h2, h3, rfl⟩
    simp at hl
    simp -dsimp
    have v4 := pV.h4
    have fin : post (D.tup [D.tup (List.map vt V), vt pos, D.lst (List.map pt W)]) [some (pen (List.map D.int ns) a' r'), none, none] := h V pos W a' r' pV wf (by omega) hpos hb (by omega) (by omega) h3
    by_cases hw : way = 0
    · rw [if_pos hw]
      cases W with
      | nil => rw [if_pos rfl]; exact fin
      | cons p W =>
        have wp := wf p List.mem_cons_self
        simp only [List.length_cons] at hl h2
        rw [if_neg (by simp)]
        simp -dsimp [pt, ct]
        refine compL_as D.int (fun i => .int (-i)) p.2 (by omega) (fun i hi Pst h' => ?_) ?_
        · simp -dsimp
          refine h' _ ?_
          simp
        · have e : p.2.map (fun i => D.int (-i)) = (p.2.map fun i => -i).map D.int := by simp
          rw [e]
          simp -dsimp only [↓fNil]
          generalize hc : (p.2.map fun i => -i) = c
          have lc : c.length = V.length := by rw [← hc, List.length_map]; exact wp
          have bc : ∀ i ∈ c, -m ≤ i ∧ i ≤ m := fun i hi => by
            rw [← hc] at hi
            obtain ⟨x, hx, rfl⟩ := List.mem_map.mp hi
            have := (hb p List.mem_cons_self).2 x hx
            omega
          have q := h V pos ((p :: W) ++ [(p.1, c)]) a' r' pV (fun x hx => by
            rcases List.mem_append.mp hx with hx | hx
            · exact wf x hx
            · rw [List.mem_singleton] at hx; subst hx; exact lc) (by simp; omega) hpos (fun x hx => by
            rcases List.mem_append.mp hx with hx | hx
            · exact hb x hx
            · rw [List.mem_singleton] at hx; subst hx; exact ⟨(hb p List.mem_cons_self).1, bc⟩) (by omega) (by omega) h3
          simp -dsimp
          refine ⟨by omega, ?_⟩
          simpa [pt, ct] using q
    · rw [if_neg hw]; exact fin
  · rintro d ds ρ N hN ⟨W, a', r', x8, x9, hl, wf, hb, h1, h2, h3, rfl⟩
    simp only [List.length_cons] at hl
    have v4 := pV.h4
    simp -dsimp
    refine pl _ _ _ _ _ (by omega) (by omega) (by omega) w0 (by omega) fun q a7 r7 hq0 _ _ _ => ?_
    simp -dsimp
    refine co _ _ _ _ _ (by omega) (by omega) (by omega) v4 fun c a8 r8 hc hci _ _ _ => ?_
    simp -dsimp
    refine ⟨by omega, hN _ ⟨W ++ [(q, c)], a8, r8, _, _, by simp; omega, ?_, ?_, by omega, by simp; omega, by omega, by simp [pt]; exact ⟨rfl, rfl⟩⟩⟩
    · intro x hx
      rcases List.mem_append.mp hx with hx | hx
      · exact wf x hx
      · rw [List.mem_singleton] at hx; subst hx; exact hc
    · intro x hx
      rcases List.mem_append.mp hx with hx | hx
      · exact hb x hx
      · rw [List.mem_singleton] at hx; subst hx; exact ⟨hq0, hci⟩

theorem isOwn_fieldD (V : List Pt) : isOwn "Field" (fieldD V) = some true := by simp [isOwn, fieldD]
theorem isOwn_stD (V : List Pt) (pos : Pt) (M L : List Pc) : isOwn "State" (stD V pos M L) = some true := by simp [isOwn, stD]
theorem callD_eq (G : DFn) (vs : DL.Env) (post : Post) (xp : XP) (l : Lock post xp) : callD G vs post xp l = G vs post xp := rfl
theorem vts_inj : ∀ {V W : List Pt}, V.map vt = W.map vt → V = W
  | [], [], _ => rfl
  | [], _ :: _, h => by simp at h
  | _ :: _, [], h => by simp at h
  | (a, b) :: V, (c, d) :: W, h => by
    rw [List.map_cons, List.map_cons, List.cons.injEq] at h
    obtain ⟨h1, h2⟩ := h
    unfold vt at h1
    simp at h1
    rw [vts_inj h2, h1.1, h1.2]
theorem eq_vtt (V W : List Pt) (k) : gEqU (.tup (V.map vt)) (.tup (W.map vt)) k = k (.bl (decide (V = W))) := by
  have pl : ∀ V : List Pt, plD 40 (.tup (V.map vt)) = true := fun V => by simp [vt]
  rw [gEqU_pl (pl V) (pl W)]
  have e : (D.tup (V.map vt) = D.tup (W.map vt)) ↔ V = W := ⟨fun h => vts_inj (D.tup.inj h), fun h => by rw [h]⟩
  simp only [e]
theorem eqf2 {V V' : List Pt} {post : Post} {xp : XP} (q : post (.bl (decide (V = V'))) [none, none]) : G_Field___eq__ [some (fieldD V), some (fieldD V')] post xp := by
  unfold G_Field___eq__ F_Field___eq__
  simp -dsimp [isOwn_fieldD]
  rw [eq_vtt]
  exact q
theorem eqfo2 {V V' : List Pt} {k : Bool → Prop} (h : k (decide (V = V'))) : eqOwn "Field" G_Field___eq__ (fieldD V) (fieldD V') k := .inl ⟨⟨_, rfl⟩, rfl, eqf2 h⟩
theorem cts_inj : ∀ {a b : Cn}, a.map D.int = b.map .int → a = b
  | [], [], _ => rfl
  | [], _ :: _, h => by simp at h
  | _ :: _, [], h => by simp at h
  | x :: a, y :: b, h => by
    rw [List.map_cons, List.map_cons, List.cons.injEq] at h
    obtain ⟨h1, h2⟩ := h
    rw [D.int.inj h1, cts_inj h2]
theorem pt_injD {q r : Pc} (h : pt q = pt r) : q = r := by
  obtain ⟨⟨a, b⟩, c⟩ := q
  obtain ⟨⟨a', b'⟩, c'⟩ := r
  unfold pt vt ct at h
  simp only [D.tup.injEq, List.cons.injEq, D.int.injEq, and_true] at h
  obtain ⟨⟨h1, h2⟩, h3⟩ := h
  rw [h1, h2, cts_inj h3]
theorem pts_injD : ∀ {a b : List Pc}, a.map pt = b.map pt → a = b
  | [], [], _ => rfl
  | [], _ :: _, h => by simp at h
  | _ :: _, [], h => by simp at h
  | x :: a, y :: b, h => by
    rw [List.map_cons, List.map_cons, List.cons.injEq] at h
    rw [pt_injD h.1, pts_injD h.2]
/-- what parts answers -/
def ptsD (pos : Pt) (L : List Pc) : D := .tup [vt pos, .tup (L.map pt)]
/-- the same, the pieces a tuple that _law_laid made -/
def ptsK (pos : Pt) (L : List Pc) : D := .tup [vt pos, .ktp (L.map pt)]
theorem pts_inj (pos pos' : Pt) (L L' : List Pc) : ptsD pos L = ptsD pos' L' ↔ pos = pos' ∧ L = L' := by
  constructor
  · intro h
    unfold ptsD at h
    simp only [D.tup.injEq, List.cons.injEq, and_true] at h
    exact ⟨by have := h.1; rwa [vt_inj] at this, pts_injD h.2⟩
  · rintro ⟨rfl, rfl⟩; rfl
theorem ptsD_pl (pos : Pt) (L : List Pc) : plD 40 (ptsD pos L) = true := by unfold ptsD; simp
theorem pts_pd (pos : Pt) (L : List Pc) : pd (ptsK pos L) = pd (ptsD pos L) := by
  unfold ptsK ptsD
  simp only [pd, pdL]
theorem eq_pts (pos pos' : Pt) (L L' : List Pc) (k : D → Prop) : gEqU (ptsD pos L) (ptsD pos' L') k = k (.bl (decide (pos = pos' ∧ L = L'))) := by
  rw [gEqU_pl (ptsD_pl ..) (ptsD_pl ..)]
  simp only [pts_inj]
theorem eq_ptsK (pos pos' : Pt) (L L' : List Pc) (k : D → Prop) : gEqU (ptsD pos L) (ptsK pos' L') k = k (.bl (decide (pos = pos' ∧ L = L'))) := by
  show gEq _ _ _ = _
  obtain ⟨a, b, e, e', s, s', q⟩ := gEq_pl (n := 40) (by decide) (ptsD_pl pos L) (ptsD_pl pos' L')
  rw [← pts_pd] at e'
  rw [gEq_of e e' s s', q]
  simp only [pts_inj]
theorem eq_kn (L : List Pc) (k : D → Prop) : gEqU (.ktp (L.map pt)) (.tup []) k = k (.bl (decide (L = []))) := by
  show gEq _ _ _ = _
  obtain ⟨a, b, e, e', s, s', q⟩ := gEq_pl (n := 40) (by decide) (show plD 40 (.tup (L.map pt)) = true by simp) (show plD 40 (.tup []) = true by simp)
  have e2 : pd (.ktp (L.map pt)) = some a := by rw [← e]; simp only [pd]
  rw [gEq_of e2 e' s s', q]
  have : (D.tup (L.map pt) = .tup []) ↔ L = [] := by simp
  simp only [this]
theorem eqs2 {V V' : List Pt} {pos pos' : Pt} {M L M' L' : List Pc} {post : Post} {xp : XP} (q : post (.bl (decide (V = V' ∧ pos = pos' ∧ L = L'))) [none, none]) : G_State___eq__ [some (stD V pos M L), some (stD V' pos' M' L')] post xp := by
  unfold G_State___eq__ F_State___eq__
  have key : ∀ (pos : Pt) (L : List Pc), D.tup [vt pos, .tup (L.map pt)] = ptsD pos L := fun _ _ => rfl
  simp -dsimp [isOwn_stD]
  refine eqfo2 ?_
  by_cases hV : V = V'
  · simp -dsimp [hV, key, eq_pts] at q ⊢
    exact q
  · simp -dsimp [hV] at q ⊢
    exact q
theorem eqs_n {V : List Pt} {pos : Pt} {M L : List Pc} {post : Post} {xp : XP} {d : D} (h : isOwn "State" d = some false) (q : post (.bl false) [none, none]) : G_State___eq__ [some (stD V pos M L), some d] post xp := by
  unfold G_State___eq__ F_State___eq__
  simp -dsimp [h]
  exact q
theorem eqso2 {V V' : List Pt} {pos pos' : Pt} {M L M' L' : List Pc} {k : Bool → Prop} (h : k (decide (V = V' ∧ pos = pos' ∧ L = L'))) : eqOwn "State" G_State___eq__ (stD V pos M L) (stD V' pos' M' L') k := .inl ⟨⟨_, rfl⟩, rfl, eqs2 h⟩
theorem eqso_t {V : List Pt} {pos : Pt} {M L : List Pc} {ds : List D} {k : Bool → Prop} (h : k false) : eqOwn "State" G_State___eq__ (stD V pos M L) (.tup ds) k := .inl ⟨⟨_, rfl⟩, trivial, eqs_n rfl h⟩
theorem eqso_n {V : List Pt} {pos : Pt} {M L : List Pc} {k : Bool → Prop} (h : k false) : eqOwn "State" G_State___eq__ (stD V pos M L) .non k := .inl ⟨⟨_, rfl⟩, trivial, eqs_n rfl h⟩
theorem made_ok {V : List Pt} {pos : Pt} {ps : List Pc} {post : Post} {xp : XP} (h1 : 1 ≤ V.length) (h4 : V.length ≤ 4) (w : WF V.length ps) (hl : ps.length ≤ 6)
    (q : ∀ M : List Pc, M.Perm (canon V.length ps) → post (stD V pos M (canon V.length ps)) [none, none, none]) : G_l_made [some (fieldD V), some (vt pos), some (.lst (ps.map pt))] post xp := by
  have g : ∀ (post : Post) (xp : XP), (∀ M : List Pc, M.Perm (canon V.length ps) → post .non [some (stD V pos M (canon V.length ps)), none, none, none]) → G_State___init__ [some (.obj "State" []), some (fieldD V), some (vt pos), some (.tup (ps.map pt))] post xp := fun post xp q => init_ok h1 h4 w (by omega) q
  unfold G_l_made F_l_made
  generalize G_State___init__ = G at g ⊢
  match ps, hl with
  | [], _ => simp -dsimp; exact g _ _ fun M hM => ⟨rfl, _, rfl, q M hM⟩
  | [a], _ => simp -dsimp; exact g _ _ fun M hM => ⟨rfl, _, rfl, q M hM⟩
  | [a, b], _ => simp -dsimp; exact g _ _ fun M hM => ⟨rfl, _, rfl, q M hM⟩
  | [a, b, c], _ => simp -dsimp; exact g _ _ fun M hM => ⟨rfl, _, rfl, q M hM⟩
  | [a, b, c, d], _ => simp -dsimp; exact g _ _ fun M hM => ⟨rfl, _, rfl, q M hM⟩
  | [a, b, c, d, e], _ => simp -dsimp; exact g _ _ fun M hM => ⟨rfl, _, rfl, q M hM⟩
  | [a, b, c, d, e, f], _ => simp -dsimp; exact g _ _ fun M hM => ⟨rfl, _, rfl, q M hM⟩
theorem prs_pt : ∀ L : List Pc, prsD (L.map pt) = some (L.map kd)
  | [] => rfl
  | q :: L => by
    have ih := prs_pt L
    simp only [List.map_cons]
    show (match keyTD (vt q.1), prsD (L.map pt) with | some k, some ps => some ((k, ct q.2) :: ps) | _, _ => none) = _
    rw [keyTD_vt, ih]
    rfl
theorem putAll_kd {L : List Pc} (h : (L.map (·.1)).Nodup) : putAllD [] (L.map kd) = L.map kd := by
  have := fold_put L [] (by simpa using h)
  unfold putAllD
  rw [List.foldl_map]
  exact this

theorem position_ok {V : List Pt} {pos : Pt} {M L : List Pc} {post : Post} {xp : XP} (q : post (vt pos) [none]) : G_State_position [some (stD V pos M L)] post xp := by
  unfold G_State_position F_State_position
  simp -dsimp
  exact q
theorem pieces_prop_ok {V : List Pt} {pos : Pt} {M L : List Pc} {post : Post} {xp : XP} (q : post (.tup (L.map pt)) [none]) : G_State_pieces [some (stD V pos M L)] post xp := by
  unfold G_State_pieces F_State_pieces
  simp -dsimp
  exact q
theorem field_prop_ok {V : List Pt} {pos : Pt} {M L : List Pc} {post : Post} {xp : XP} (q : post (fieldD V) [none]) : G_State_field [some (stD V pos M L)] post xp := by
  unfold G_State_field F_State_field
  simp -dsimp
  exact q
theorem len_ok {V : List Pt} {pos : Pt} {M L : List Pc} {post : Post} {xp : XP} (q : post (.int L.length) [none]) : G_State___len__ [some (stD V pos M L)] post xp := by
  unfold G_State___len__ F_State___len__
  simp -dsimp
  exact q
theorem look_permN {L M : List Pc} (h : M.Perm L) (nd : (L.map (·.1)).Nodup) (p : Pt) : look M p = look L p := by
  have nd2 : (M.map (·.1)).Nodup := (h.map (·.1)).nodup_iff.2 nd
  cases e : look M p with
  | some c => rw [nodup_look nd (h.mem_iff.1 (look_mem e))]
  | none =>
    cases e2 : look L p with
    | none => rfl
    | some c =>
      have := nodup_look nd2 (h.mem_iff.2 (look_mem e2))
      rw [e] at this; cases this
theorem getitem_ok {V : List Pt} {pos p : Pt} {M L : List Pc} {post : Post} {xp : XP} (h1 : 1 ≤ V.length) (h4 : V.length ≤ 4) (hM : M.Perm L) (nd : (L.map (·.1)).Nodup) (q : post (ct (at_ V.length L p)) [none, none]) : G_State___getitem__ [some (stD V pos M L), some (vt p)] post xp := by
  have gk : getK (D.dt (M.map kd)) (vt p) = some ((look M p).map ct) := getK_kd _ _
  have old : ((look M p).map ct).getD (ct (zero V.length)) = ct (at_ V.length L p) := by
    rw [look_permN hM nd]
    unfold at_
    cases look L p <;> rfl
  have eb : D.tup [.int p.1, .int p.2] = vt p := rfl
  have zt : D.tup (List.replicate V.length (D.int 0)) = ct (zero V.length) := by unfold ct zero; simp
  unfold G_State___getitem__ F_State___getitem__
  simp -dsimp
  refine ⟨trivial, callI (kinds_ok ?_)⟩
  simp -dsimp [eb, zt]
  refine ⟨by omega, _, gk, ?_⟩
  rw [old]
  exact q
theorem contains_ok {V : List Pt} {pos p : Pt} {M L : List Pc} {post : Post} {xp : XP} (hM : M.Perm L) (nd : (L.map (·.1)).Nodup) (q : post (.bl (look L p).isSome) [none, none]) : G_State___contains__ [some (stD V pos M L), some (vt p)] post xp := by
  unfold G_State___contains__ F_State___contains__
  simp -dsimp [in_kd, look_permN hM nd]
  exact q
theorem moved_ok {by_ : Pt} {n : Nat} {L : List Pc} {post : Post} {xp : XP} (c : Can n L) (hl : L.length ≤ 1000) (q : post (.tup ((mvL by_ L).map pt)) [none, none]) : G_l_moved [some (.ktp (L.map pt)), some (vt by_)] post xp := by
  have cm := mv_can by_ c
  unfold G_l_moved F_l_moved
  simp -dsimp
  refine compL_as pt (fun r => pt (mvP by_ r.1, r.2)) L (by omega) (fun r hr Pst hP => ?_) ?_
  · simp -dsimp [pt, vt]
    refine hP _ ?_
    simp [pt, vt, mvP]
  · have em : L.map (fun r => pt (mvP by_ r.1, r.2)) = (mvL by_ L).map pt := by unfold mvL; simp
    rw [em]
    simp -dsimp
    refine sort_pt cm.asc.nodup fun M pm as => ?_
    rw [asc_ext as cm.asc fun q => pm.mem_iff]
    simp -dsimp
    exact q
theorem places_right_ok {V : List Pt} {pos : Pt} {M L : List Pc} {W : List Pt} {post : Post} {xp : XP} (h1 : 1 ≤ V.length) (h4 : V.length ≤ 4) (hM : M.Perm L) (c : Can V.length L) (hl : L.length ≤ 1000) (hb : Bd 100000 L)
    (q : post (.bl true) [none, none, none, none]) : G_l_places_right [some (stD V pos M L), some (.ktp (L.map pt)), some (.tup (V.map vt)), some (.lst (W.map vt))] post xp := by
  have nd := c.asc.nodup
  unfold G_l_places_right F_l_places_right
  simp -dsimp
  refine ⟨_, prs_pt _, by omega, ?_⟩
  rw [putAll_kd nd]
  refine loop_each vt (fun W' ρ => ∃ x5 : Option D, ρ = [some (stD V pos M L), some (.ktp (L.map pt)), some (.tup (V.map vt)), some (.lst (W.map vt)), some (.dt (L.map kd)), x5]) ⟨_, rfl⟩ ?_ ?_
  · rintro p W' ρ N hN ⟨x5, rfl⟩
    have gk : getK (D.dt (L.map kd)) (vt p) = some ((look L p).map ct) := getK_kd _ _
    have old : ((look L p).map ct).getD (ct (zero V.length)) = ct (at_ V.length L p) := by
      unfold at_
      cases look L p <;> rfl
    have zt : D.tup (List.replicate V.length (D.int 0)) = ct (zero V.length) := by unfold ct zero; simp
    have ab : ∀ i ∈ at_ V.length L p, i.natAbs ≤ 100000 := by
      unfold at_
      cases e : look L p with
      | none => intro i hi; simp [zero] at hi; rw [hi.2]; decide
      | some c => intro i hi; exact hb _ (look_mem e) i hi
    have al : (at_ V.length L p).length = V.length := at_len c.wf p
    have r1 : ∀ k, gRepr [ct (at_ V.length L p)] k = k (.str (shw (ct (at_ V.length L p)))) := gRepr_ro (ro_ct (k := 10) (by decide) (by decide) fun i hi => by have := ab i hi; omega) (by omega) (by rw [al]; omega)
    simp -dsimp
    refine callI ?_
    refine getitem_ok h1 h4 hM nd ?_
    simp -dsimp [r1]
    refine ⟨trivial, by omega, _, gk, ?_⟩
    rw [zt, old]
    simp -dsimp [r1]
    refine callI ?_
    refine contains_ok hM nd ?_
    simp -dsimp [in_kd]
    exact hN _ ⟨_, rfl⟩
  · rintro ρ ⟨x5, rfl⟩
    simp -dsimp
    exact q

theorem putP_key {L : List Pc} {p : Pt} {c : Cn} {q : Pc} (h : q ∈ putP L p c) : q.1 = p ∨ q.1 ∈ L.map (·.1) := by
  unfold putP at h
  split at h
  · obtain ⟨r, hr, rfl⟩ := List.mem_map.mp h
    right
    have e : (if r.1 = p then (r.1, c) else r).1 = r.1 := by split <;> rfl
    rw [e]
    exact List.mem_map_of_mem (f := fun q : Pc => q.1) hr
  · rcases List.mem_append.mp h with h | h
    · exact .inr (List.mem_map_of_mem (f := fun q : Pc => q.1) h)
    · rw [List.mem_singleton] at h; subst h; exact .inl rfl
theorem mrg_key {n : Nat} : ∀ (ps L : List Pc) (q : Pc), q ∈ ps.foldl (mstep n) L → q.1 ∈ L.map (·.1) ∨ q.1 ∈ ps.map (·.1)
  | [], L, q, h => .inl (List.mem_map_of_mem (f := fun q : Pc => q.1) h)
  | p :: ps, L, q, h => by
    rcases mrg_key ps _ q h with h | h
    · obtain ⟨r, hr, e⟩ := List.mem_map.mp h
      rw [← e]
      rcases putP_key hr with h | h
      · right; rw [h]; exact List.mem_cons_self
      · exact .inl h
    · right; exact List.mem_cons_of_mem _ h
theorem canon_key {n : Nat} {ps : List Pc} {q : Pc} (h : q ∈ canon n ps) : q.1 ∈ ps.map (·.1) := by
  have h := (canon_perm n ps).mem_iff.1 h
  rcases mrg_key ps [] q (List.mem_filter.mp h).1 with h | h
  · cases h
  · exact h
def PlB (B : Nat) (L : List Pc) : Prop := ∀ q ∈ L, q.1.1.natAbs ≤ B ∧ q.1.2.natAbs ≤ B
theorem canon_plb {n B : Nat} {ps : List Pc} (h : PlB B ps) : PlB B (canon n ps) := fun q hq => by
  obtain ⟨r, hr, e⟩ := List.mem_map.mp (canon_key hq)
  rw [← e]; exact h r hr
theorem mv_plb {A B : Nat} {d : Pt} {L : List Pc} (h : PlB A L) (hd : d.1.natAbs ≤ B ∧ d.2.natAbs ≤ B) : PlB (A + B) (mvL d L) := fun q hq => by
  unfold mvL at hq
  obtain ⟨r, hr, rfl⟩ := List.mem_map.mp hq
  have := h r hr
  unfold mvP
  simp only []
  omega
theorem mv_bd {B : Nat} {d : Pt} {L : List Pc} (h : Bd B L) : Bd B (mvL d L) := fun q hq => by
  unfold mvL at hq
  obtain ⟨r, hr, rfl⟩ := List.mem_map.mp hq
  exact h r hr
theorem pts_ro {n : Nat} {pos : Pt} {L : List Pc} (n4 : n ≤ 4) (w : WF n L) (hl : L.length ≤ 30) (ho : pos.1.natAbs ≤ 10 ^ 14 ∧ pos.2.natAbs ≤ 10 ^ 14) (near : PlB (10 ^ 14) L) (hb : Bd 10000000 L) : RO (ptsD pos L) 4 100000 := by
  have r1 : RO (vt pos) 3 10000 := (ro_vt (k := 15) (by decide) (by decide) (by omega) (by omega)).mono (by decide) (by decide)
  have r2 : RO (.tup (L.map pt)) 3 10000 := (RO.tup (dp := 2) (n := 157) fun d hd => by
    obtain ⟨q, hq, rfl⟩ := List.mem_map.mp hd
    have nr := near q hq
    exact ro_pt (k := 15) (w q hq) n4 (by decide) (by decide) (by omega) (by omega) fun i hi => by have := hb q hq i hi; omega).mono (by decide) (by rw [List.length_map]; omega)
  exact (ro_pair r1 r2).mono (by decide) (by decide)
theorem heap_ro {n : Nat} {L : List Pc} (n4 : n ≤ 4) (w : WF n L) (hl : L.length ≤ 30) (near : PlB (10 ^ 14) L) (hb : Bd 10000000 L) : RO (.lst (L.map pt)) 3 10000 :=
  (RO.lst (dp := 2) (n := 157) fun d hd => by
    obtain ⟨q, hq, rfl⟩ := List.mem_map.mp hd
    have nr := near q hq
    exact ro_pt (k := 15) (w q hq) n4 (by decide) (by decide) (by omega) (by omega) fun i hi => by have := hb q hq i hi; omega).mono (by decide) (by rw [List.length_map]; omega)
theorem rp_pts {pos : Pt} {L : List Pc} (h : RO (ptsD pos L) 4 100000) (k : D → Prop) : gRepr [ptsD pos L] k = k (.str (shw (ptsD pos L))) := gRepr_ro h (by decide) (by decide) k
theorem rp_ptsK {pos : Pt} {L : List Pc} (h : RO (ptsD pos L) 4 100000) (k : D → Prop) : gRepr [ptsK pos L] k = k (.str (shw (ptsD pos L))) := by
  have h2 : RO (ptsK pos L) 4 100000 := by
    obtain ⟨x, e, r⟩ := h
    exact ⟨x, by rw [pts_pd]; exact e, r⟩
  rw [gRepr_ro h2 (by decide) (by decide)]
  have : shw (ptsK pos L) = shw (ptsD pos L) := by unfold shw; rw [pts_pd]
  rw [this]
theorem dot_negR : ∀ (c A : List Int), dot c (A.map fun x => -x) = -dot c A
  | [], _ => by simp [dot]
  | _ :: _, [] => by simp [dot]
  | x :: c, a :: A => by
    have ih := dot_negR c A
    simp only [dot, List.map_cons, List.zipWith_cons_cons, List.sum_cons] at ih ⊢
    rw [ih, Int.mul_neg]
    omega

@[simp ↓] theorem gLen_ktp (ds : List D) (k) : gLen [.ktp ds] k = k (.int ds.length) := (rfl)
def lastC (n : Nat) : Cn := List.replicate (n - 1) 0 ++ [1]
theorem lastC_len {n : Nat} (h : 1 ≤ n) : (lastC n).length = n := by unfold lastC; simp; omega
theorem lastC_d (n : Nat) : D.tup (List.replicate (n - 1) (D.int 0) ++ [D.int 1]) = ct (lastC n) := by unfold lastC ct; simp
theorem cut5 (ps : List Pc) : cutL (ps.map pt) none (some 5) = (ps.take 5).map pt := by
  unfold cutL
  simp [HT.sIx, List.map_take]
theorem last_ne {n : Nat} {ps : List Pc} {p : Pt} (h1 : 1 ≤ n) (w : WF n ps) (w' : WF n (ps ++ [(p, lastC n)])) : canon n ps ≠ canon n (ps ++ [(p, lastC n)]) := by
  intro e
  have t := canon_tot w'
  rw [← e, canon_tot w, tot_snoc] at t
  have g := addC_get (tot_len w) (lastC_len h1) (n - 1)
  have t2 := congrArg (fun c : Cn => c.getD (n - 1) 0) t
  simp only [] at t2
  rw [g] at t2
  have l : (lastC n).getD (n - 1) 0 = 1 := by unfold lastC; simp
  rw [l] at t2
  omega
theorem eqso2' {b : Bool} {V V' : List Pt} {pos pos' : Pt} {M L M' L' : List Pc} {k : Bool → Prop} (hb : b = decide (V = V' ∧ pos = pos' ∧ L = L')) (h : k b) : eqOwn "State" G_State___eq__ (stD V pos M L) (stD V' pos' M' L') k := eqso2 (hb ▸ h)
theorem right_ok {V : List Pt} {pos by_ : Pt} {ps : List Pc} {post : Post} {xp : XP} (pV : Pul V) (w : WF V.length ps) (hl : ps.length ≤ 6) (hb : Bd 1000 ps) (near : PlB (10 ^ 13) ps) (ho : pos.1.natAbs ≤ 10 ^ 13 ∧ pos.2.natAbs ≤ 10 ^ 13) (hy : by_.1.natAbs ≤ 10 ^ 13 ∧ by_.2.natAbs ≤ 10 ^ 13)
    (q : post (.bl true) [none, none, none, none]) : G_l_right [some (.tup (V.map vt)), some (vt pos), some (.lst (ps.map pt)), some (vt by_)] post xp := by
  have h1 := pV.h1
  have h4 := pV.h4
  have cc := canon_can w
  have cl := canon_len w
  have nd := cc.asc.nodup
  have hbc : Bd 6000 (canon V.length ps) := fun r hr i hi => by
    have := canon_bd w hb r hr i hi
    have := Nat.mul_le_mul_right 1000 hl
    omega
  have nrc : PlB (10 ^ 13) (canon V.length ps) := canon_plb near
  have up : ∀ {A B : Nat} {L : List Pc}, A ≤ B → PlB A L → PlB B L := fun ab h q hq => ⟨Nat.le_trans (h q hq).1 ab, Nat.le_trans (h q hq).2 ab⟩
  have RP := rp_pts (pts_ro h4 cc.wf (by omega) ⟨by omega, by omega⟩ (up (by decide) nrc) (fun r hr i hi => Nat.le_trans (hbc r hr i hi) (by decide)) : RO (ptsD pos (canon V.length ps)) 4 100000)
  have RK := rp_ptsK (pts_ro h4 cc.wf (by omega) ⟨by omega, by omega⟩ (up (by decide) nrc) (fun r hr i hi => Nat.le_trans (hbc r hr i hi) (by decide)) : RO (ptsD pos (canon V.length ps)) 4 100000)
  have RH := gRepr_ro (heap_ro h4 w (by omega) (up (by decide) near) (fun r hr i hi => Nat.le_trans (hb r hr i hi) (by decide))) (by decide) (by decide)
  have RN : ∀ (m : Nat) (k : D → Prop), m ≤ 1000 → gRepr [.int (m : Int)] k = k (.str (shw (.int (m : Int)))) := fun m k hm => gRepr_ro (RO.int (k := 5) (by decide) (by decide) (by omega)) (by decide) (by decide) k
  have eP : ∀ (p : Pt) (L : List Pc), D.tup [vt p, .tup (L.map pt)] = ptsD p L := fun _ _ => rfl
  have eK : ∀ (p : Pt) (L : List Pc), D.tup [vt p, .ktp (L.map pt)] = ptsK p L := fun _ _ => rfl
  unfold G_l_right F_l_right
  simp -dsimp
  refine callI ?_
  refine lfield_ok pV ?_
  simp -dsimp [RH]
  refine callI ?_
  refine made_ok h1 h4 w hl fun M hM => ?_
  simp -dsimp
  refine callI ?_
  refine laid_ok w h1 h4 (by omega) ?_
  simp -dsimp
  refine callI ?_
  refine parts_ok ?_
  simp -dsimp [eP, eK, RP, RK]
  refine callI ?_
  refine position_ok ?_
  simp -dsimp
  refine callI ?_
  refine pieces_prop_ok ?_
  simp -dsimp [eP, eK, RP, RK]
  refine callI ?_
  refine len_ok ?_
  simp -dsimp [RN _ _ (show (canon V.length ps).length ≤ 1000 by omega)]
  refine ⟨by omega, ?_⟩
  refine callI ?_
  refine field_prop_ok ?_
  simp -dsimp
  refine eqfo2 ?_
  simp -dsimp
  refine compL_as pt (fun r => vt r.1) ps (by omega) (fun r hr Pst hP => ?_) ?_
  · simp -dsimp [pt]
    exact hP _ (by simp)
  have eW : ps.map (fun r => vt r.1) ++ [vt pos, D.tup [.int 0, .int 0], vt by_, D.tup [.int (pos.1 + 1), .int pos.2]] = (ps.map (·.1) ++ [pos, (0, 0), by_, (pos.1 + 1, pos.2)]).map vt := by simp [vt]
  simp -dsimp
  refine ⟨by omega, ?_⟩
  rw [eW]
  refine callI ?_
  refine places_right_ok h1 h4 hM cc (by omega) (fun r hr i hi => Nat.le_trans (hbc r hr i hi) (by decide)) ?_
  simp -dsimp
  have wr : WF V.length ps.reverse := fun r hr => w r (List.mem_reverse.mp hr)
  have er : canon V.length ps.reverse = canon V.length ps := canon_perm_eq (List.reverse_perm ps) wr
  refine ⟨_, rfl, ?_⟩
  rw [← List.map_reverse]
  refine callI ?_
  refine made_ok h1 h4 wr (by rw [List.length_reverse]; exact hl) fun Mr hMr => ?_
  rw [er]
  refine eqso2 ?_
  simp -dsimp
  refine eqso_t ?_
  simp -dsimp
  refine eqso_n ?_
  simp -dsimp
  have w5 : WF V.length (ps.take 5 ++ [(by_, lastC V.length)]) := wf_append (fun r hr => w r (List.mem_of_mem_take hr)) fun r hr => by rw [List.mem_singleton] at hr; subst hr; exact lastC_len h1
  have e5 : (ps.take 5).map pt ++ [D.tup [vt by_, ct (lastC V.length)]] = (ps.take 5 ++ [(by_, lastC V.length)]).map pt := by simp [pt]
  refine ⟨⟨by omega, by omega⟩, by omega, ?_⟩
  rw [lastC_d, cut5]
  refine ⟨by simp; omega, ?_⟩
  rw [e5]
  refine callI ?_
  refine made_ok h1 h4 w5 (by simp; omega) fun M5 hM5 => ?_
  refine eqso2 ?_
  have n5 : ps.length < 6 → ¬ (canon V.length ps = canon V.length (ps.take 5 ++ [(by_, lastC V.length)])) := fun h => by
    have e : ps.take 5 = ps := List.take_of_length_le (by omega)
    rw [e]
    rw [e] at w5
    exact last_ne h1 w w5
  have n8 : ¬ pos = (pos.1, pos.2 + 1) := fun e => by have e := congrArg Prod.snd e; simp only [] at e; omega
  have vg : V.map (fun v : Pt => D.tup [.int (-v.1), .int (-v.2)]) = (V.map fun v => (-v.1, -v.2)).map vt := by rw [List.map_map]; rfl
  have pN : Pul (V.map fun v => (-v.1, -v.2)) := ⟨by rw [List.length_map]; exact h1, by rw [List.length_map]; exact h4, fun p hp => by
    obtain ⟨v, hv, rfl⟩ := List.mem_map.mp hp
    have := pV.b v hv
    simp only []
    omega, fun p hp => by
    obtain ⟨v, hv, rfl⟩ := List.mem_map.mp hp
    have := pV.nz v hv
    intro e
    simp only [Prod.mk.injEq] at e
    exact this (Prod.ext (by show v.1 = 0; omega) (by show v.2 = 0; omega))⟩
  have lN : (V.map fun v : Pt => ((-v.1, -v.2) : Pt)).length = V.length := List.length_map ..
  have nV : V ≠ V.map fun v : Pt => ((-v.1, -v.2) : Pt) := fun e => by
    cases V with
    | nil => simp at h1
    | cons v V =>
      have e1 := (List.cons.inj e).1
      have := pV.nz v List.mem_cons_self
      refine this (Prod.ext ?_ ?_)
      · have := congrArg Prod.fst e1; simp only [] at this; show v.1 = 0; omega
      · have := congrArg Prod.snd e1; simp only [] at this; show v.2 = 0; omega
  have veN : ∀ c : Cn, velo (V.map fun v : Pt => ((-v.1, -v.2) : Pt)) c = (-(velo V c).1, -(velo V c).2) := fun c => by
    have f1 : (V.map fun v : Pt => ((-v.1, -v.2) : Pt)).map (·.1) = (V.map (·.1)).map fun x => -x := by simp
    have f2 : (V.map fun v : Pt => ((-v.1, -v.2) : Pt)).map (·.2) = (V.map (·.2)).map fun x => -x := by simp
    unfold velo
    rw [f1, f2, dot_negR, dot_negR]
  have cm := mv_can by_ cc
  have RM := rp_pts (pts_ro h4 cm.wf (by unfold mvL; rw [List.length_map]; omega) (pos := mvP by_ pos) (by unfold mvP; simp only []; constructor <;> omega) (up (by decide) (mv_plb nrc hy)) (fun r hr i hi => Nat.le_trans (mv_bd hbc r hr i hi) (by decide)) : RO (ptsD (mvP by_ pos) (mvL by_ (canon V.length ps))) 4 100000)
  generalize hN : (V.map fun v : Pt => ((-v.1, -v.2) : Pt)) = VN at vg pN lN nV veN
  have eb : ∀ x y : Int, D.tup [.int x, .int y] = vt (x, y) := fun _ _ => rfl
  have p98 : Pul [(9, 8)] := ⟨by decide, by decide, by decide, by decide⟩
  have ef : D.obj (Str.ofString "Field") [(Str.ofString "vectors", .tup (List.map vt [(9, 8)]))] = fieldD [(9, 8)] := rfl
  have e0 : canon 1 [] = [] := canon_self ⟨(fun _ h => by cases h), (fun _ h => by cases h), List.Pairwise.nil⟩
  obtain ⟨b1, hb1⟩ : ∃ b, b = decide (V = [(9, 8)]) := ⟨_, rfl⟩
  obtain ⟨b2, hb2⟩ : ∃ b, b = decide (canon V.length ps = []) := ⟨_, rfl⟩
  have hb3 : (b1 && b2) = decide (V = [(9, 8)] ∧ pos = pos ∧ canon V.length ps = canon 1 []) := by rw [hb1, hb2, e0]; simp
  have q1 : ∀ k, gEqU (D.tup (V.map vt)) (D.tup [D.tup [.int 9, .int 8]]) k = k (.bl b1) := fun k => by
    have t98 : D.tup [D.tup [.int 9, .int 8]] = .tup ([((9, 8) : Pt)].map vt) := rfl
    rw [t98, eq_vtt, hb1]
  have q2 : ∀ k, gEqU (D.ktp ((canon V.length ps).map pt)) (D.tup []) k = k (.bl b2) := fun k => by rw [eq_kn, hb2]
  have eM : D.tup [.int (pos.1 + by_.1), .int (pos.2 + by_.2)] = vt (mvP by_ pos) := rfl
  have eP0 : ∀ p : Pt, D.tup [vt p, D.tup []] = ptsD p [] := fun _ => rfl
  by_cases hA : canon V.length ps = canon V.length (ps.take 5 ++ [(by_, lastC V.length)])
  · have g6 : ¬ ps.length < 6 := fun h => n5 h hA
    have g6i : ¬ ((ps.length : Int) < 6) := by omega
    simp -dsimp [← hA, g6, g6i]
    refine callI ?_
    refine made_ok (pos := (pos.1, pos.2 + 1)) h1 h4 w hl fun M6 hM6 => ?_
    refine eqso2 ?_
    simp -dsimp [n8]
    refine compL_as vt (fun v => D.tup [.int (-v.1), .int (-v.2)]) V (by omega) (fun v hv Pst hP => ?_) ?_
    · simp -dsimp [vt]
      exact hP _ (by simp)
    simp -dsimp
    rw [vg]
    refine callI ?_
    refine lfield_ok pN ?_
    simp -dsimp
    refine callI ?_
    refine made_ok (V := VN) (by omega) (by omega) (by rw [lN]; exact w) hl fun M7 hM7 => ?_
    simp -dsimp
    refine eqso2 ?_
    simp -dsimp [nV]
    refine callI ?_
    refine velocity_ok pN (by rw [lN]; exact cc.wf) ?_
    rw [lN, veN]
    simp -dsimp
    refine callI ?_
    refine velocity_ok pV cc.wf ?_
    simp -dsimp
    refine callI ?_
    refine velocity_ok pV cc.wf ?_
    simp -dsimp [eb, ne_vt]
    refine callI ?_
    refine field_init_ok p98 ?_
    refine ⟨rfl, _, rfl, ?_⟩
    rw [ef]
    simp -dsimp
    refine callI ?_
    refine made_ok (V := [(9, 8)]) (ps := []) (by decide) (by decide) (fun _ h => by cases h) (by decide) fun M8 hM8 => ?_
    simp -dsimp
    refine eqso2' hb3 ?_
    simp -dsimp [q1, q2]
    cases b1 <;> cases b2 <;> simp -dsimp
    all_goals
      refine callI ?_
      refine shifted_ok h1 h4 cc (by omega) fun M9 hM9 => ?_
      simp -dsimp
      refine callI ?_
      refine parts_ok ?_
      simp -dsimp [eP, RM]
      refine callI ?_
      refine moved_ok cc (by omega) ?_
      simp -dsimp [eM, eP, RM]
      refine callI ?_
      refine empty_ok h1 h4 ?_
      simp -dsimp
      refine callI ?_
      refine parts_ok ?_
      simp -dsimp [eP0, eP, eq_pts]
      refine callI ?_
      refine len_ok ?_
      simp -dsimp [RH]
      refine callI ?_
      refine parts_ok ?_
      simp -dsimp [eP, eK, eq_ptsK]
      exact q
  · simp -dsimp [hA]
    refine callI ?_
    refine made_ok (pos := (pos.1, pos.2 + 1)) h1 h4 w hl fun M6 hM6 => ?_
    refine eqso2 ?_
    simp -dsimp [n8]
    refine compL_as vt (fun v => D.tup [.int (-v.1), .int (-v.2)]) V (by omega) (fun v hv Pst hP => ?_) ?_
    · simp -dsimp [vt]
      exact hP _ (by simp)
    simp -dsimp
    rw [vg]
    refine callI ?_
    refine lfield_ok pN ?_
    simp -dsimp
    refine callI ?_
    refine made_ok (V := VN) (by omega) (by omega) (by rw [lN]; exact w) hl fun M7 hM7 => ?_
    simp -dsimp
    refine eqso2 ?_
    simp -dsimp [nV]
    refine callI ?_
    refine velocity_ok pN (by rw [lN]; exact cc.wf) ?_
    rw [lN, veN]
    simp -dsimp
    refine callI ?_
    refine velocity_ok pV cc.wf ?_
    simp -dsimp
    refine callI ?_
    refine velocity_ok pV cc.wf ?_
    simp -dsimp [eb, ne_vt]
    refine callI ?_
    refine field_init_ok p98 ?_
    refine ⟨rfl, _, rfl, ?_⟩
    rw [ef]
    simp -dsimp
    refine callI ?_
    refine made_ok (V := [(9, 8)]) (ps := []) (by decide) (by decide) (fun _ h => by cases h) (by decide) fun M8 hM8 => ?_
    simp -dsimp
    refine eqso2' hb3 ?_
    simp -dsimp [q1, q2]
    cases b1 <;> cases b2 <;> simp -dsimp
    all_goals
      refine callI ?_
      refine shifted_ok h1 h4 cc (by omega) fun M9 hM9 => ?_
      simp -dsimp
      refine callI ?_
      refine parts_ok ?_
      simp -dsimp [eP, RM]
      refine callI ?_
      refine moved_ok cc (by omega) ?_
      simp -dsimp [eM, eP, RM]
      refine callI ?_
      refine empty_ok h1 h4 ?_
      simp -dsimp
      refine callI ?_
      refine parts_ok ?_
      simp -dsimp [eP0, eP, eq_pts]
      refine callI ?_
      refine len_ok ?_
      simp -dsimp [RH]
      refine callI ?_
      refine parts_ok ?_
      simp -dsimp [eP, eK, eq_ptsK]
      exact q

@[simp ↓] theorem gIx_ktp (ds : List D) (i : Int) (k) : gIx (.ktp ds) (.int i) k = (∃ d, atI ds i = some d ∧ k d) := (rfl)
/-- the empty state of a field, at the first place -/
def emD (V : List Pt) : D := .obj "State" [("ground", fieldD V), ("stand", .ktp [.int 0, .int 0]), ("laid", .dt []), ("rows", .tup []), ("key", .tup [.ktp [.int 0, .int 0], .tup []])]
theorem ispair_k {post : Post} {xp : XP} (q : post (.bl true) [none]) : G_is_pair [some (.ktp [.int 0, .int 0])] post xp := by
  have ii : ∀ (i : Int) (post : Post) (xp : XP), post (.bl true) [none] → G_is_integer [some (.int i)] post xp := fun i post xp q => isint_ok q
  unfold G_is_pair F_is_pair
  generalize G_is_integer = G at ii ⊢
  simp
  refine ii _ _ _ ?_
  simp
  refine ii _ _ _ ?_
  exact q
theorem emptyD_ok {V : List Pt} {post : Post} {xp : XP} (h1 : 1 ≤ V.length) (h4 : V.length ≤ 4) (q : post (emD V) [none, none]) : G_State_empty [some (.cl "State"), some (fieldD V)] post xp := by
  have g1 : ∀ (post : Post) (xp : XP), post (.bl true) [none] → G_is_pair [some (.ktp [.int 0, .int 0])] post xp := fun post xp q => ispair_k q
  have g3 : ∀ (post : Post) (xp : XP), post (.dt []) [none] → G_merged [some (.tup [])] post xp := fun post xp q => merged_ok (ps := []) (n := V.length) (fun _ h => by cases h) h4 (by simp) q
  have g2 : ∀ (post : Post) (xp : XP), post .non [some (emD V), none, none, none] → G_State___init__ [some (.obj "State" []), some (fieldD V), some (.ktp [.int 0, .int 0]), some (.tup [])] post xp := fun post xp q => by
    unfold G_State___init__ F_State___init__
    generalize G_is_pair = G1 at g1 ⊢
    generalize G_is_piece = G2
    generalize G_merged = G3 at g3 ⊢
    simp -dsimp
    refine g1 _ _ ?_
    simp -dsimp
    refine compL_as (α := Pc) pt (fun _ => .bl true) [] (by simp) (fun p hp Pst h => by cases hp) ?_
    simp -dsimp
    refine gAll_bls (bs := []) ?_
    simp -dsimp
    refine g3 _ _ ?_
    simp -dsimp
    refine ⟨_, rfl, ?_⟩
    simp -dsimp [putFd]
    exact ⟨trivial, pairKs_kd [], _, rfl, q⟩
  unfold G_State_empty F_State_empty
  generalize G_State___init__ = G2 at g2 ⊢
  simp -dsimp
  exact g2 _ _ ⟨rfl, _, rfl, q⟩
theorem eq_em (k : D → Prop) : gEqU (.tup [.ktp [.int 0, .int 0], .tup []]) (.tup [.tup [.int 0, .int 0], .tup []]) k = k (.bl true) := by
  show gEq _ _ _ = _
  rw [gEq_of (a := .tuple [.tuple [.int 0, .int 0], .tuple []]) (b := .tuple [.tuple [.int 0, .int 0], .tuple []]) rfl rfl (by decide) (by decide)]
  rfl
theorem parts_em {V : List Pt} {post : Post} {xp : XP} (q : post (.tup [.ktp [.int 0, .int 0], .tup []]) [none]) : G_State_parts [some (emD V)] post xp := by
  unfold G_State_parts F_State_parts emD
  simp -dsimp
  exact ⟨_, rfl, q⟩
theorem law_ok : ∀ ns : List Int, ns.length ≤ 63 → G_law [some (.slst (ns.map D.int))] (fun d _ => d = .bl true) fun _ _ => False := by
  intro ns hn
  unfold G_law F_law
  simp -dsimp
  refine callI ?_
  refine pen_ok hn ?_
  simp -dsimp
  refine loop_range (n := 5) (fun j ρ => ∃ (a r : Int) (x2 x3 x4 x5 x6 : Option D), 0 ≤ a ∧ a ≤ 1000 * j ∧ 0 ≤ r ∧ ρ = [some (.slst (ns.map .int)), some (pen (ns.map .int) a r), x2, x3, x4, x5, x6]) ⟨0, 0, _, _, _, _, _, by omega, by omega, by omega, rfl⟩ ?_ ?_
  · rintro j ρ N hj hN ⟨a, r, x2, x3, x4, x5, x6, h1, h2, h3, rfl⟩
    simp -dsimp
    refine callI ?_
    refine deal_ok (k := 5) (m := 2) h1 (by omega) h3 (by omega) (by omega) (by omega) fun V pos ps a2 r2 pV w hl ho hb _ _ _ => ?_
    simp -dsimp
    refine callI ?_
    refine place_ok (by omega) (by omega) (by omega) (by omega) (by omega) fun by_ a3 r3 hy _ _ _ => ?_
    simp -dsimp
    refine callI ?_
    refine right_ok pV w (by omega) (fun q hq i hi => by have := (hb q hq).2 i hi; omega) (fun q hq => (hb q hq).1) ho hy ?_
    simp -dsimp
    exact hN _ ⟨a3, r3, _, _, _, _, _, by omega, by omega, by omega, rfl⟩
  · rintro ρ ⟨a, r, x2, x3, x4, x5, x6, h1, h2, h3, rfl⟩
    simp -dsimp
    have pV : Pul [(1, 2)] := ⟨by decide, by decide, by decide, by decide⟩
    refine callI ?_
    refine field_init_ok pV ?_
    refine ⟨rfl, _, rfl, ?_⟩
    have ef : D.obj (Str.ofString "Field") [(Str.ofString "vectors", .tup (List.map vt [(1, 2)]))] = fieldD [(1, 2)] := rfl
    rw [ef]
    simp -dsimp
    refine callI ?_
    refine emptyD_ok (by decide) (by decide) ?_
    refine ⟨⟨_, rfl⟩, ?_⟩
    refine callI ?_
    refine parts_em ?_
    simp -dsimp [eq_em]
section
variable {P : Program} {w : World} {K : PySem.W.Frag} {mg : Str → Option Value} {base : Heap}
theorem sc_l_pen : FnScope ["_law_script"] ["_law_script"] (defScope s_l_pen) := ⟨rfl, rfl, rfl, by decide +kernel, rfl, by decide +kernel, by decide +kernel⟩
theorem ok_l_pen (T : Tx K mg) : FnG P w K mg base 1 T.a_l_pen (spN K 1 [] G_l_pen) :=
  okNG_of (Fd := F_l_pen) T.F_l_pen T.b_l_pen sc_l_pen rfl rfl (fun cdv A outer s H E hr hgu => by
    have hu1 := hu_of hr
    have hu65 := hu65_of hr
    have hu64 := hu64_of hr
    have hu0 := hu0_of hr
    have hu2 := hu2_of hr
    exact ⟨_, (dn_dict (dps_cons de_str (de_cut (de_var 0) do_none (do_some de_int)) (dps_cons de_str de_int (dps_cons de_str de_int dps_nil))))⟩) fun _ _ _ _ h => h
theorem sc_l_draw : FnScope ["_law_pen_here", "_law_many", "_law_digit", "_law_at", "_law_cell", "_law_great", "_law_mixed"] ["_law_pen_here", "_law_many"] (defScope s_l_draw) := ⟨rfl, rfl, rfl, by decide +kernel, rfl, by decide +kernel, by decide +kernel⟩
theorem ok_l_draw (T : Tx K mg) : FnG P w K mg base 1 T.a_l_draw (spD K 2 [0] G_l_draw) :=
  okG_of (J := []) (Fd := F_l_draw) T.F_l_draw T.b_l_draw sc_l_draw rfl (fun cdv A outer s H E hr hgu => by
    have hu1 := hu_of hr
    have hu65 := hu65_of hr
    have hu64 := hu64_of hr
    have hu0 := hu0_of hr
    have hu2 := hu2_of hr
    have tk := takes_of (X := (cxOf (L2.CX P w) P w K mg base ["_law_pen_here", "_law_many", "_law_digit", "_law_at", "_law_cell", "_law_great", "_law_mixed"] "_law_draw" (defScope s_l_draw) T.a_l_draw cdv A outer s H E)) rfl rfl rfl rfl
    have hp := passes_of (X := (cxOf (L2.CX P w) P w K mg base ["_law_pen_here", "_law_many", "_law_digit", "_law_at", "_law_cell", "_law_great", "_law_mixed"] "_law_draw" (defScope s_l_draw) T.a_l_draw cdv A outer s H E)) rfl
    exact (dss_cons (ds_if (J := []) (dt_cmp (op_gtU hu0) rv_gtU (de_ixL 0 (ix_U hu1) rv_ix (deo de_str)) (deo de_int))
      (dss_cons (ds_set 2 sc_l_draw.nd (de_bin op_modN rv_fmod (de_ixL 0 (ix_U hu1) rv_ix (deo de_str)) (deo (de_var 1))))
      (dss_cons (ds_putO 0 hu1 (de_bin op_fdivG rv_fdiv (de_ixL 0 (ix_U hu1) rv_ix (deo de_str)) (deo (de_var 1))) de_str)
      (dss_one (ds_ret (J1 := []) (de_var 2)))))
      dss_nil)
      (dss_cons (ds_set 3 sc_l_draw.nd (de_ixL 0 (ix_U hu1) rv_ix (deo de_str)))
      (dss_cons (ds_putO 0 hu1 (de_bin op_addU rv_add (de_var 3) (deo de_int)) de_str)
      (dss_cons (ds_set 4 sc_l_draw.nd (de_bin op_addU rv_add (de_bin op_mulU rv_mul de_int (deo (de_var 3))) (deo de_int)))
      (dss_cons (ds_if (J := []) (dt_cmp (op_neU hu64) rv_neU (de_ixL 0 (ix_U hu1) rv_ix (deo de_str)) (deo (de_new (dn_lst da_nil))))
      (dss_one (ds_set 4 sc_l_draw.nd (de_ix (ix_U hu1) rv_ix (de_ixL 0 (ix_U hu1) rv_ix (deo de_str)) (deo (de_bin op_modN rv_fmod (de_var 3) (deo (de_callB call_lenU rv_len T.n_len (by rfl) (dao_one (deo (de_ixL 0 (ix_U hu1) rv_ix (deo de_str)))))))))))
      dss_nil)
      (dss_cons (ds_if (J := []) (dt_w (dw_and (dt_cmp (op_ltU hu0) rv_lt (de_var 3) (deo (de_callB call_lenU rv_len T.n_len (by rfl) (dao_one (deo (de_ixL 0 (ix_U hu1) rv_ix (deo de_str))))))) (dw_and1 (dt_cmp op_ge rv_ge (de_callB call_abs rv_abs T.n_abs (by rfl) (dao_one (deo (de_var 4)))) (deo (de_bin op_pow rv_pow de_int (deo de_int)))))))
      (dss_cons (ds_set 5 sc_l_draw.nd (de_bin op_addU rv_add (de_bin op_mulU rv_mul de_int (deo (de_callB call_abs rv_abs T.n_abs (by rfl) (dao_one (deo (de_var 4)))))) (deo (de_callTy call_int1 rv_int T.n_int (by rfl) (dao_one (deo (de_cmp (op_ltU hu0) rv_lt (de_var 4) (deo de_int))))))))
      (dss_cons (ds_putO 0 hu1 (de_bin op_fdivG rv_fdiv (de_var 5) (deo (de_var 1))) de_str)
      (dss_one (ds_ret (J1 := []) (de_bin op_modN rv_fmod (de_var 5) (deo (de_var 1)))))))
      dss_nil)
      (dss_cons (ds_set 6 sc_l_draw.nd (de_bin op_modN rv_fmod (de_bin op_pow rv_pow (de_bin op_addU rv_add (de_bin op_addU rv_add (de_bin op_modN rv_fmod (de_var 4) (deo de_int)) (deo (de_bin op_mulU rv_mul de_int (deo (de_var 3))))) (deo de_int)) (deo de_int)) (deo de_int)))
      (dss_cons (ds_set 6 sc_l_draw.nd (de_bin op_modN rv_fmod (de_bin op_pow rv_pow (de_bin op_addU rv_add (de_bin op_mulU rv_mul (de_var 6) (deo (de_bin op_addU rv_add (de_var 3) (deo de_int)))) (deo (de_bin op_mulU rv_mul (de_bin op_mulU rv_mul de_int (deo (de_var 3))) (deo (de_var 3))))) (deo de_int)) (deo de_int)))
      (dss_one (ds_ret (J1 := []) (de_bin op_modN rv_fmod (de_bin op_fdivG rv_fdiv (de_var 6) (deo de_int)) (deo (de_var 1)))))))))))))) fun _ _ _ _ h => h
theorem sc_l_pulls : FnScope ["_law_pen_here", "_law_most", "_law_way", "_law_many", "_law_a", "_law_b", "_law_found", "_law_k", "_law_x", "_law_y", "_law_times", "_law_some"] ["_law_pen_here", "_law_most"] (defScope s_l_pulls) := ⟨rfl, rfl, rfl, by decide +kernel, rfl, by decide +kernel, by decide +kernel⟩
theorem ok_l_pulls (T : Tx K mg) : FnG P w K mg base 2 T.a_l_pulls (spD K 2 [0] G_l_pulls) :=
  okG_of (J := [6]) (Fd := F_l_pulls) T.F_l_pulls T.b_l_pulls sc_l_pulls rfl (fun cdv A outer s H E hr hgu => by
    have hu1 := hu_of hr
    have hu65 := hu65_of hr
    have hu64 := hu64_of hr
    have hu0 := hu0_of hr
    have hu2 := hu2_of hr
    have tk := takes_of (X := (cxOf (L2.CX P w) P w K mg base ["_law_pen_here", "_law_most", "_law_way", "_law_many", "_law_a", "_law_b", "_law_found", "_law_k", "_law_x", "_law_y", "_law_times", "_law_some"] "_law_pulls" (defScope s_l_pulls) T.a_l_pulls cdv A outer s H E)) rfl rfl rfl rfl
    have hp := passes_of (X := (cxOf (L2.CX P w) P w K mg base ["_law_pen_here", "_law_most", "_law_way", "_law_many", "_law_a", "_law_b", "_law_found", "_law_k", "_law_x", "_law_y", "_law_times", "_law_some"] "_law_pulls" (defScope s_l_pulls) T.a_l_pulls cdv A outer s H E)) rfl
    exact (dss_cons (ds_set 2 sc_l_pulls.nd (de_callG ((ok_l_draw T).mono (k := 1) (by decide)) hr hgu T.m_l_draw T.k_l_draw tk (do_own 0 (do_val de_int do_nil))))
      (dss_cons (ds_set 3 sc_l_pulls.nd (de_bin op_addU rv_add de_int (deo (de_callG ((ok_l_draw T).mono (k := 1) (by decide)) hr hgu T.m_l_draw T.k_l_draw tk (do_own 0 (do_val de_int do_nil))))))
      (dss_cons (ds_par 4 5 rfl sc_l_pulls.nd (da_cons (de_bin op_sub rv_sub (de_callG ((ok_l_draw T).mono (k := 1) (by decide)) hr hgu T.m_l_draw T.k_l_draw tk (do_own 0 (do_val (de_bin op_addU rv_add (de_bin op_mulU rv_mul de_int (deo (de_var 1))) (deo de_int)) do_nil))) (deo (de_var 1))) (da_cons (de_bin op_sub rv_sub (de_callG ((ok_l_draw T).mono (k := 1) (by decide)) hr hgu T.m_l_draw T.k_l_draw tk (do_own 0 (do_val (de_bin op_addU rv_add (de_bin op_mulU rv_mul de_int (deo (de_var 1))) (deo de_int)) do_nil))) (deo (de_var 1))) da_nil)))
      (dss_cons (ds_setN 6 sc_l_pulls.nd (dn_lst da_nil))
      (dss_cons (ds_for hp rfl (J := [6]) (di_range1 T.n_range (da_cons (de_var 3) da_nil)) (dg_name 7 sc_l_pulls.nd)
      (dss_cons (ds_par 8 9 rfl sc_l_pulls.nd (da_cons (de_bin op_sub rv_sub (de_callG ((ok_l_draw T).mono (k := 1) (by decide)) hr hgu T.m_l_draw T.k_l_draw tk (do_own 0 (do_val (de_bin op_addU rv_add (de_bin op_mulU rv_mul de_int (deo (de_var 1))) (deo de_int)) do_nil))) (deo (de_var 1))) (da_cons (de_bin op_sub rv_sub (de_callG ((ok_l_draw T).mono (k := 1) (by decide)) hr hgu T.m_l_draw T.k_l_draw tk (do_own 0 (do_val (de_bin op_addU rv_add (de_bin op_mulU rv_mul de_int (deo (de_var 1))) (deo de_int)) do_nil))) (deo (de_var 1))) da_nil)))
      (dss_cons (ds_set 10 sc_l_pulls.nd (de_bin op_sub rv_sub (de_bin op_mulU rv_mul (de_callG ((ok_l_draw T).mono (k := 1) (by decide)) hr hgu T.m_l_draw T.k_l_draw tk (do_own 0 (do_val de_int do_nil))) (deo de_int)) (deo de_int)))
      (dss_cons (ds_set 11 sc_l_pulls.nd (de_ix (ix_U hu1) rv_ix (de_new (dn_lst (da_cons (de_tup (da_cons (de_var 8) (da_cons (de_var 9) da_nil))) (da_cons (de_ix (ix_U hu1) rv_ix (de_new (dn_lst (da_cons (de_tup (da_cons de_int (da_cons de_int da_nil))) (da_cons (de_tup (da_cons de_int (da_cons de_int da_nil))) (da_cons (de_tup (da_cons (de_un un_neg rv_neg (deo de_int)) (da_cons de_int da_nil))) (da_cons (de_tup (da_cons de_int (da_cons de_int da_nil))) da_nil)))))) (deo (de_var 7))) (da_cons (de_tup (da_cons (de_bin op_mulU rv_mul (de_var 10) (deo (de_var 4))) (da_cons (de_bin op_mulU rv_mul (de_var 10) (deo (de_var 5))) da_nil))) (da_cons (de_tup (da_cons (de_var 4) (da_cons (de_var 5) da_nil))) da_nil)))))) (deo (de_var 2))))
      (dss_one (ds_append 6 (de_if (dt_cmp (op_neU hu64) rv_neU (de_var 11) (deo (de_tup (da_cons de_int (da_cons de_int da_nil))))) (de_var 11) (de_tup (da_cons de_int (da_cons (de_bin op_sub rv_sub de_int (deo (de_var 1))) da_nil))))))))))
      (dss_one (ds_ret (J1 := [6]) (de_callTy call_tuple_of rv_tuple T.n_tuple (by rfl) (dao_one (deo_var 6))))))))))) fun _ _ _ _ h => h
theorem sc_l_place : FnScope ["_law_pen_here", "_law_wide", "_law_x", "_law_y", "_law_far"] ["_law_pen_here", "_law_wide"] (defScope s_l_place) := ⟨rfl, rfl, rfl, by decide +kernel, rfl, by decide +kernel, by decide +kernel⟩
theorem ok_l_place (T : Tx K mg) : FnG P w K mg base 2 T.a_l_place (spD K 2 [0] G_l_place) :=
  okG_of (J := []) (Fd := F_l_place) T.F_l_place T.b_l_place sc_l_place rfl (fun cdv A outer s H E hr hgu => by
    have hu1 := hu_of hr
    have hu65 := hu65_of hr
    have hu64 := hu64_of hr
    have hu0 := hu0_of hr
    have hu2 := hu2_of hr
    have tk := takes_of (X := (cxOf (L2.CX P w) P w K mg base ["_law_pen_here", "_law_wide", "_law_x", "_law_y", "_law_far"] "_law_place" (defScope s_l_place) T.a_l_place cdv A outer s H E)) rfl rfl rfl rfl
    have hp := passes_of (X := (cxOf (L2.CX P w) P w K mg base ["_law_pen_here", "_law_wide", "_law_x", "_law_y", "_law_far"] "_law_place" (defScope s_l_place) T.a_l_place cdv A outer s H E)) rfl
    exact (dss_cons (ds_par 2 3 rfl sc_l_place.nd (da_cons (de_bin op_sub rv_sub (de_callG ((ok_l_draw T).mono (k := 1) (by decide)) hr hgu T.m_l_draw T.k_l_draw tk (do_own 0 (do_val (de_bin op_addU rv_add (de_bin op_mulU rv_mul de_int (deo (de_var 1))) (deo de_int)) do_nil))) (deo (de_var 1))) (da_cons (de_bin op_sub rv_sub (de_callG ((ok_l_draw T).mono (k := 1) (by decide)) hr hgu T.m_l_draw T.k_l_draw tk (do_own 0 (do_val (de_bin op_addU rv_add (de_bin op_mulU rv_mul de_int (deo (de_var 1))) (deo de_int)) do_nil))) (deo (de_var 1))) da_nil)))
      (dss_cons (ds_set 4 sc_l_place.nd (de_ix (ix_U hu1) rv_ix (de_new (dn_lst (da_cons de_int (da_cons (de_bin op_fdivG rv_fdiv (de_bin op_pow rv_pow de_int (deo de_int)) (deo (de_callB (call_max2 (by rfl)) rv_max2 T.n_max (by rfl) (dao_cons de_int (dao_one (deo (de_var 1))))))) da_nil)))) (deo (de_callTy call_int1 rv_int T.n_int (by rfl) (dao_one (deo (de_cmp (op_eqU hu64) rv_eqU (de_callG ((ok_l_draw T).mono (k := 1) (by decide)) hr hgu T.m_l_draw T.k_l_draw tk (do_own 0 (do_val de_int do_nil))) (deo de_int))))))))
      (dss_one (ds_ret (J1 := []) (de_tup (da_cons (de_bin op_mulU rv_mul (de_var 2) (deo (de_var 4))) (da_cons (de_bin op_mulU rv_mul (de_var 3) (deo (de_var 4))) da_nil)))))))) fun _ _ _ _ h => h
theorem sc_l_counts : FnScope ["_law_pen_here", "_law_many", "_law_most", "_law_found", "_law_k", "_law_some"] ["_law_pen_here", "_law_many", "_law_most"] (defScope s_l_counts) := ⟨rfl, rfl, rfl, by decide +kernel, rfl, by decide +kernel, by decide +kernel⟩
theorem ok_l_counts (T : Tx K mg) : FnG P w K mg base 2 T.a_l_counts (spD K 3 [0] G_l_counts) :=
  okG_of (J := [3]) (Fd := F_l_counts) T.F_l_counts T.b_l_counts sc_l_counts rfl (fun cdv A outer s H E hr hgu => by
    have hu1 := hu_of hr
    have hu65 := hu65_of hr
    have hu64 := hu64_of hr
    have hu0 := hu0_of hr
    have hu2 := hu2_of hr
    have tk := takes_of (X := (cxOf (L2.CX P w) P w K mg base ["_law_pen_here", "_law_many", "_law_most", "_law_found", "_law_k", "_law_some"] "_law_counts" (defScope s_l_counts) T.a_l_counts cdv A outer s H E)) rfl rfl rfl rfl
    have hp := passes_of (X := (cxOf (L2.CX P w) P w K mg base ["_law_pen_here", "_law_many", "_law_most", "_law_found", "_law_k", "_law_some"] "_law_counts" (defScope s_l_counts) T.a_l_counts cdv A outer s H E)) rfl
    exact (dss_cons (ds_setN 3 sc_l_counts.nd (dn_lst da_nil))
      (dss_cons (ds_for hp rfl (J := [3]) (di_range1 T.n_range (da_cons (de_var 1) da_nil)) (dg_name 4 sc_l_counts.nd)
      (dss_cons (ds_set 5 sc_l_counts.nd (de_new (dn_lst (da_cons de_int (da_cons (de_bin op_sub rv_sub (de_callG ((ok_l_draw T).mono (k := 1) (by decide)) hr hgu T.m_l_draw T.k_l_draw tk (do_own 0 (do_val (de_bin op_addU rv_add (de_bin op_mulU rv_mul de_int (deo (de_var 2))) (deo de_int)) do_nil))) (deo (de_var 2))) da_nil)))))
      (dss_one (ds_append 3 (de_ix (ix_U hu1) rv_ix (de_var 5) (deo (de_callG ((ok_l_draw T).mono (k := 1) (by decide)) hr hgu T.m_l_draw T.k_l_draw tk (do_own 0 (do_val de_int do_nil)))))))))
      (dss_one (ds_ret (J1 := [3]) (de_callTy call_tuple_of rv_tuple T.n_tuple (by rfl) (dao_one (deo_var 3)))))))) fun _ _ _ _ h => h
theorem sc_l_deal : FnScope ["_law_pen_here", "_law_many", "_law_most", "_law_way", "_law_wide", "_law_pulls_here", "_law_spot", "_law_heap", "_law_k", "_law_count"] ["_law_pen_here", "_law_many", "_law_most"] (defScope s_l_deal) := ⟨rfl, rfl, rfl, by decide +kernel, rfl, by decide +kernel, by decide +kernel⟩
theorem ok_l_deal (T : Tx K mg) : FnG P w K mg base 3 T.a_l_deal (spD K 3 [0] G_l_deal) :=
  okG_of (J := [7]) (Fd := F_l_deal) T.F_l_deal T.b_l_deal sc_l_deal rfl (fun cdv A outer s H E hr hgu => by
    have hu1 := hu_of hr
    have hu65 := hu65_of hr
    have hu64 := hu64_of hr
    have hu0 := hu0_of hr
    have hu2 := hu2_of hr
    have tk := takes_of (X := (cxOf (L2.CX P w) P w K mg base ["_law_pen_here", "_law_many", "_law_most", "_law_way", "_law_wide", "_law_pulls_here", "_law_spot", "_law_heap", "_law_k", "_law_count"] "_law_deal" (defScope s_l_deal) T.a_l_deal cdv A outer s H E)) rfl rfl rfl rfl
    have hp := passes_of (X := (cxOf (L2.CX P w) P w K mg base ["_law_pen_here", "_law_many", "_law_most", "_law_way", "_law_wide", "_law_pulls_here", "_law_spot", "_law_heap", "_law_k", "_law_count"] "_law_deal" (defScope s_l_deal) T.a_l_deal cdv A outer s H E)) rfl
    exact (dss_cons (ds_set 3 sc_l_deal.nd (de_callG ((ok_l_draw T).mono (k := 2) (by decide)) hr hgu T.m_l_draw T.k_l_draw tk (do_own 0 (do_val de_int do_nil))))
      (dss_cons (ds_set 4 sc_l_deal.nd (de_ix (ix_U hu1) rv_ix (de_new (dn_lst (da_cons de_int (da_cons de_int (da_cons de_int (da_cons de_int da_nil)))))) (deo (de_callG ((ok_l_draw T).mono (k := 2) (by decide)) hr hgu T.m_l_draw T.k_l_draw tk (do_own 0 (do_val de_int do_nil))))))
      (dss_cons (ds_set 5 sc_l_deal.nd (de_callG ((ok_l_pulls T).mono (k := 2) (by decide)) hr hgu T.m_l_pulls T.k_l_pulls tk (do_own 0 (do_val (de_ix (ix_U hu1) rv_ix (de_new (dn_lst (da_cons de_int (da_cons de_int (da_cons de_int da_nil))))) (deo (de_callG ((ok_l_draw T).mono (k := 2) (by decide)) hr hgu T.m_l_draw T.k_l_draw tk (do_own 0 (do_val de_int do_nil))))) do_nil))))
      (dss_cons (ds_set 6 sc_l_deal.nd (de_callG ((ok_l_place T).mono (k := 2) (by decide)) hr hgu T.m_l_place T.k_l_place tk (do_own 0 (do_val (de_var 4) do_nil))))
      (dss_cons (ds_setN 7 sc_l_deal.nd (dn_lst da_nil))
      (dss_cons (ds_for hp rfl (J := [7]) (di_range1 T.n_range (da_cons (de_callG ((ok_l_draw T).mono (k := 2) (by decide)) hr hgu T.m_l_draw T.k_l_draw tk (do_own 0 (do_val (de_bin op_addU rv_add (de_var 1) (deo de_int)) do_nil))) da_nil)) (dg_name 8 sc_l_deal.nd)
      (dss_one (ds_append 7 (de_tup (da_cons (de_callG ((ok_l_place T).mono (k := 2) (by decide)) hr hgu T.m_l_place T.k_l_place tk (do_own 0 (do_val (de_var 4) do_nil))) (da_cons (de_callG ((ok_l_counts T).mono (k := 2) (by decide)) hr hgu T.m_l_counts T.k_l_counts tk (do_own 0 (do_val (de_callB call_lenU rv_len T.n_len (by rfl) (dao_one (deo (de_var 5)))) (do_val (de_var 2) do_nil)))) da_nil))))))
      (dss_cons (ds_if (J := [7]) (dt_w (dw_and (dt_cmp (op_eqU hu64) rv_eqU (de_var 3) (deo de_int)) (dw_and1 (dt_cmpL 7 (op_neU hu64) rv_neU (deo (de_new (dn_lst da_nil)))))))
      (dss_one (ds_append 7 (de_tup (da_cons (de_ix (ix_U hu1) rv_ix (de_ixL 7 (ix_U hu1) rv_ix (deo de_int)) (deo de_int)) (da_cons (de_callTy call_tuple_of rv_tuple T.n_tuple (by rfl) (dao_one (deo (de_new (dn_of (dx_lc ["_law_pen_here", "_law_many", "_law_most", "_law_way", "_law_wide", "_law_pulls_here", "_law_spot", "_law_heap", "_law_k", "_law_count"] (defScope s_l_deal) [("_law_count", 9)] [9] rfl sc_l_deal.nd (di_seq (de_ix (ix_U hu1) rv_ix (de_ixL 7 (ix_U hu1) rv_ix (deo de_int)) (deo de_int))) (by decide +kernel) (fun _ _ _ _ _ => ⟨_, (dg_name 9 sc_l_deal.nd)⟩) (fun _ _ _ _ _ => ⟨_, dts_nil⟩) (fun _ _ _ _ _ => ⟨_, (de_bin op_sub rv_sub de_int (deo (de_var 9)))⟩))))))) da_nil)))))
      dss_nil)
      (dss_one (ds_ret (J1 := [7]) (de_tup (da_cons (de_var 5) (da_cons (de_var 6) (da_cons (de_rel (J := []) 7) da_nil)))))))))))))) fun _ _ _ _ h => h
theorem sc_is_integer : FnScope ["value"] ["value"] (defScope s_is_integer) := ⟨rfl, rfl, rfl, by decide +kernel, rfl, by decide +kernel, by decide +kernel⟩
theorem ok_is_integer (T : Tx K mg) : FnG P w K mg base 1 T.a_is_integer (spD K 1 [] G_is_integer) :=
  okG_of (J := []) (Fd := F_is_integer) T.F_is_integer T.b_is_integer sc_is_integer rfl (fun cdv A outer s H E hr hgu => by
    have hu1 := hu_of hr
    have hu65 := hu65_of hr
    have hu64 := hu64_of hr
    have hu0 := hu0_of hr
    have hu2 := hu2_of hr
    have tk := takes_of (X := (cxOf (L2.CX P w) P w K mg base ["value"] "is_integer" (defScope s_is_integer) T.a_is_integer cdv A outer s H E)) rfl rfl rfl rfl
    have hp := passes_of (X := (cxOf (L2.CX P w) P w K mg base ["value"] "is_integer" (defScope s_is_integer) T.a_is_integer cdv A outer s H E)) rfl
    exact (dss_one (ds_ret (J1 := []) (de_and (de_callB call_isi (rv_isi .int) T.n_isinstance (by rfl) (dao (da_cons (de_var 0) (da_cons (de_bltn T.n_int (by rfl)) da_nil)))) (de_one (de_not (de_callB call_isi (rv_isi .bool) T.n_isinstance (by rfl) (dao (da_cons (de_var 0) (da_cons (de_bltn T.n_bool (by rfl)) da_nil)))))))))) fun _ _ _ _ h => h
theorem sc_is_pair : FnScope ["value"] ["value"] (defScope s_is_pair) := ⟨rfl, rfl, rfl, by decide +kernel, rfl, by decide +kernel, by decide +kernel⟩
theorem ok_is_pair (T : Tx K mg) : FnG P w K mg base 2 T.a_is_pair (spD K 1 [] G_is_pair) :=
  okG_of (J := []) (Fd := F_is_pair) T.F_is_pair T.b_is_pair sc_is_pair rfl (fun cdv A outer s H E hr hgu => by
    have hu1 := hu_of hr
    have hu65 := hu65_of hr
    have hu64 := hu64_of hr
    have hu0 := hu0_of hr
    have hu2 := hu2_of hr
    have tk := takes_of (X := (cxOf (L2.CX P w) P w K mg base ["value"] "is_pair" (defScope s_is_pair) T.a_is_pair cdv A outer s H E)) rfl rfl rfl rfl
    have hp := passes_of (X := (cxOf (L2.CX P w) P w K mg base ["value"] "is_pair" (defScope s_is_pair) T.a_is_pair cdv A outer s H E)) rfl
    exact (dss_one (ds_ret (J1 := []) (de_and (de_callB call_isi (rv_isi .tuple) T.n_isinstance (by rfl) (dao (da_cons (de_var 0) (da_cons (de_bltn T.n_tuple (by rfl)) da_nil)))) (de_and (de_cmp (op_eqU hu64) rv_eqU (de_callB call_lenU rv_len T.n_len (by rfl) (dao_one (deo (de_var 0)))) (deo de_int)) (de_and (de_callG ((ok_is_integer T).mono (k := 1) (by decide)) hr hgu T.m_is_integer T.k_is_integer tk (do_val (de_ix (ix_U hu1) rv_ix (de_var 0) (deo de_int)) do_nil)) (de_one (de_callG ((ok_is_integer T).mono (k := 1) (by decide)) hr hgu T.m_is_integer T.k_is_integer tk (do_val (de_ix (ix_U hu1) rv_ix (de_var 0) (deo de_int)) do_nil))))))))) fun _ _ _ _ h => h
theorem sc_is_pull : FnScope ["value"] ["value"] (defScope s_is_pull) := ⟨rfl, rfl, rfl, by decide +kernel, rfl, by decide +kernel, by decide +kernel⟩
theorem ok_is_pull (T : Tx K mg) : FnG P w K mg base 3 T.a_is_pull (spD K 1 [] G_is_pull) :=
  okG_of (J := []) (Fd := F_is_pull) T.F_is_pull T.b_is_pull sc_is_pull rfl (fun cdv A outer s H E hr hgu => by
    have hu1 := hu_of hr
    have hu65 := hu65_of hr
    have hu64 := hu64_of hr
    have hu0 := hu0_of hr
    have hu2 := hu2_of hr
    have tk := takes_of (X := (cxOf (L2.CX P w) P w K mg base ["value"] "is_pull" (defScope s_is_pull) T.a_is_pull cdv A outer s H E)) rfl rfl rfl rfl
    have hp := passes_of (X := (cxOf (L2.CX P w) P w K mg base ["value"] "is_pull" (defScope s_is_pull) T.a_is_pull cdv A outer s H E)) rfl
    exact (dss_cons (ds_if (J := []) (dt_w (dw_or (dt_not (dt_val (de_callG ((ok_is_pair T).mono (k := 2) (by decide)) hr hgu T.m_is_pair T.k_is_pair tk (do_val (de_var 0) do_nil)))) (dw_or1 (dt_cmp (op_eqU hu64) rv_eqU (de_var 0) (deo (de_tup (da_cons de_int (da_cons de_int da_nil))))))))
      (dss_one (ds_ret (J1 := []) de_bl))
      dss_nil)
      (dss_one (ds_ret (J1 := []) (de_and (de_cmp (op_leU hu0) rv_le (de_callB call_abs rv_abs T.n_abs (by rfl) (dao_one (deo (de_ix (ix_U hu1) rv_ix (de_var 0) (deo de_int))))) (deo (de_ccon T.mc_Field T.cr_Field T.cv_Field_GREATEST))) (de_one (de_cmp (op_leU hu0) rv_le (de_callB call_abs rv_abs T.n_abs (by rfl) (dao_one (deo (de_ix (ix_U hu1) rv_ix (de_var 0) (deo de_int))))) (deo (de_ccon T.mc_Field T.cr_Field T.cv_Field_GREATEST))))))))) fun _ _ _ _ h => h
theorem sc_Field___init__ : FnScope ["self", "pulls", "value"] ["self", "pulls"] (defScope s_Field___init__) := ⟨rfl, rfl, rfl, by decide +kernel, rfl, by decide +kernel, by decide +kernel⟩
theorem ok_Field___init__ (T : Tx K mg) : FnG P w K mg base 4 T.a_Field___init__ (spStar 1 (spD K 2 [0] G_Field___init__)) :=
  okGS_of (ps := ["self"]) (J := []) (Fd := F_Field___init__) T.F_Field___init__ T.b_Field___init__ sc_Field___init__ (fun cdv A outer s H E hr hgu => by
    have hu1 := hu_of hr
    have hu65 := hu65_of hr
    have hu64 := hu64_of hr
    have hu0 := hu0_of hr
    have hu2 := hu2_of hr
    have tk := takes_of (X := (cxOf (L2.CX P w) P w K mg base ["self", "pulls", "value"] "Field.__init__" (defScope s_Field___init__) T.a_Field___init__ cdv A outer s H E)) rfl rfl rfl rfl
    have hp := passes_of (X := (cxOf (L2.CX P w) P w K mg base ["self", "pulls", "value"] "Field.__init__" (defScope s_Field___init__) T.a_Field___init__ cdv A outer s H E)) rfl
    exact (dss_cons (ds_if (J := []) (dt_w (dw_or (dt_not (dt_chain (op_leU hu0) rv_le (op_leU hu0) rv_le de_int (de_callB call_lenU rv_len T.n_len (by rfl) (dao_one (deo (de_var 1)))) (de_ccon T.mc_Field T.cr_Field T.cv_Field_MOST_KINDS))) (dw_or1 (dt_not (dt_val (de_callB (cr_all (by rfl)) rv_all T.n_all (by rfl) (dao_one (deo (de_new (dn_of (dx_lc ["self", "pulls", "value"] (defScope s_Field___init__) [("value", 2)] [2] rfl sc_Field___init__.nd (di_seq (de_var 1)) (by decide +kernel) (fun _ _ _ _ _ => ⟨_, (dg_name 2 sc_Field___init__.nd)⟩) (fun _ _ _ _ _ => ⟨_, dts_nil⟩) (fun _ _ _ _ _ => ⟨_, (de_callG ((ok_is_pull T).mono (k := 3) (by decide)) hr hgu T.m_is_pull T.k_is_pull takes0 (do_val (de_var 2) do_nil))⟩))))))))))))
      (dss_one (ds_dead (J := [])))
      dss_nil)
      (dss_one (ds_fld 0 "Field" T.ic_Field T.cl_Field T.na_Field_vectors (de_var 1))))) fun _ _ _ _ h => h
theorem sc_l_field : FnScope ["_law_pulls_here"] ["_law_pulls_here"] (defScope s_l_field) := ⟨rfl, rfl, rfl, by decide +kernel, rfl, by decide +kernel, by decide +kernel⟩
theorem ok_l_field (T : Tx K mg) : FnG P w K mg base 6 T.a_l_field (spD K 1 [] G_l_field) :=
  okG_of (J := []) (Fd := F_l_field) T.F_l_field T.b_l_field sc_l_field rfl (fun cdv A outer s H E hr hgu => by
    have hu1 := hu_of hr
    have hu65 := hu65_of hr
    have hu64 := hu64_of hr
    have hu0 := hu0_of hr
    have hu2 := hu2_of hr
    have tk := takes_of (X := (cxOf (L2.CX P w) P w K mg base ["_law_pulls_here"] "_law_field" (defScope s_l_field) T.a_l_field cdv A outer s H E)) rfl rfl rfl rfl
    have hp := passes_of (X := (cxOf (L2.CX P w) P w K mg base ["_law_pulls_here"] "_law_field" (defScope s_l_field) T.a_l_field cdv A outer s H E)) rfl
    exact (dss_cons (ds_if (J := []) (dt_cmp (op_eqU hu64) rv_eqU (de_callB call_lenU rv_len T.n_len (by rfl) (dao_one (deo (de_var 0)))) (deo de_int))
      (dss_one (ds_ret (J1 := []) (de_new (dn_makeS T.mk_Field T.ic_Field ((ok_Field___init__ T).mono (k := 4) (by decide)) hr hgu T.mc_Field tk (da_cons (de_ix (ix_U hu1) rv_ix (de_var 0) (deo de_int)) da_nil)))))
      dss_nil)
      (dss_cons (ds_if (J := []) (dt_cmp (op_eqU hu64) rv_eqU (de_callB call_lenU rv_len T.n_len (by rfl) (dao_one (deo (de_var 0)))) (deo de_int))
      (dss_one (ds_ret (J1 := []) (de_new (dn_makeS T.mk_Field T.ic_Field ((ok_Field___init__ T).mono (k := 4) (by decide)) hr hgu T.mc_Field tk (da_cons (de_ix (ix_U hu1) rv_ix (de_var 0) (deo de_int)) (da_cons (de_ix (ix_U hu1) rv_ix (de_var 0) (deo de_int)) da_nil))))))
      dss_nil)
      (dss_cons (ds_if (J := []) (dt_cmp (op_eqU hu64) rv_eqU (de_callB call_lenU rv_len T.n_len (by rfl) (dao_one (deo (de_var 0)))) (deo de_int))
      (dss_one (ds_ret (J1 := []) (de_new (dn_makeS T.mk_Field T.ic_Field ((ok_Field___init__ T).mono (k := 4) (by decide)) hr hgu T.mc_Field tk (da_cons (de_ix (ix_U hu1) rv_ix (de_var 0) (deo de_int)) (da_cons (de_ix (ix_U hu1) rv_ix (de_var 0) (deo de_int)) (da_cons (de_ix (ix_U hu1) rv_ix (de_var 0) (deo de_int)) da_nil)))))))
      dss_nil)
      (dss_one (ds_ret (J1 := []) (de_new (dn_makeS T.mk_Field T.ic_Field ((ok_Field___init__ T).mono (k := 4) (by decide)) hr hgu T.mc_Field tk (da_cons (de_ix (ix_U hu1) rv_ix (de_var 0) (deo de_int)) (da_cons (de_ix (ix_U hu1) rv_ix (de_var 0) (deo de_int)) (da_cons (de_ix (ix_U hu1) rv_ix (de_var 0) (deo de_int)) (da_cons (de_ix (ix_U hu1) rv_ix (de_var 0) (deo de_int)) da_nil)))))))))))) fun _ _ _ _ h => h
theorem sc_Field_kinds : FnScope ["self"] ["self"] (defScope s_Field_kinds) := ⟨rfl, rfl, rfl, by decide +kernel, rfl, by decide +kernel, by decide +kernel⟩
theorem ok_Field_kinds (T : Tx K mg) : FnG P w K mg base 1 T.a_Field_kinds (spD K 1 [] G_Field_kinds) :=
  okG_of (J := []) (Fd := F_Field_kinds) T.F_Field_kinds T.b_Field_kinds sc_Field_kinds rfl (fun cdv A outer s H E hr hgu => by
    have hu1 := hu_of hr
    have hu65 := hu65_of hr
    have hu64 := hu64_of hr
    have hu0 := hu0_of hr
    have hu2 := hu2_of hr
    have tk := takes_of (X := (cxOf (L2.CX P w) P w K mg base ["self"] "Field.kinds" (defScope s_Field_kinds) T.a_Field_kinds cdv A outer s H E)) rfl rfl rfl rfl
    have hp := passes_of (X := (cxOf (L2.CX P w) P w K mg base ["self"] "Field.kinds" (defScope s_Field_kinds) T.a_Field_kinds cdv A outer s H E)) rfl
    exact (dss_one (ds_ret (J1 := []) (de_callB call_lenU rv_len T.n_len (by rfl) (dao_one (deo (de_fld "Field" T.ic_Field T.cl_Field T.na_Field_vectors (deo (de_var 0))))))))) fun _ _ _ _ h => h
theorem sc_are_counts : FnScope ["field", "value", "count"] ["field", "value"] (defScope s_are_counts) := ⟨rfl, rfl, rfl, by decide +kernel, rfl, by decide +kernel, by decide +kernel⟩
theorem ok_are_counts (T : Tx K mg) : FnG P w K mg base 3 T.a_are_counts (spD K 2 [] G_are_counts) :=
  okG_of (J := []) (Fd := F_are_counts) T.F_are_counts T.b_are_counts sc_are_counts rfl (fun cdv A outer s H E hr hgu => by
    have hu1 := hu_of hr
    have hu65 := hu65_of hr
    have hu64 := hu64_of hr
    have hu0 := hu0_of hr
    have hu2 := hu2_of hr
    have tk := takes_of (X := (cxOf (L2.CX P w) P w K mg base ["field", "value", "count"] "are_counts" (defScope s_are_counts) T.a_are_counts cdv A outer s H E)) rfl rfl rfl rfl
    have hp := passes_of (X := (cxOf (L2.CX P w) P w K mg base ["field", "value", "count"] "are_counts" (defScope s_are_counts) T.a_are_counts cdv A outer s H E)) rfl
    exact (dss_one (ds_ret (J1 := []) (de_and (de_callB call_isi (rv_isi .tuple) T.n_isinstance (by rfl) (dao (da_cons (de_var 1) (da_cons (de_bltn T.n_tuple (by rfl)) da_nil)))) (de_and (de_cmp (op_eqU hu64) rv_eqU (de_callB call_lenU rv_len T.n_len (by rfl) (dao_one (deo (de_var 1)))) (deo (de_propG T.ic_Field T.cl_Field T.pr_Field_kinds ((ok_Field_kinds T).mono (k := 1) (by decide)) hr hgu (de_var 0)))) (de_one (de_callB (cr_all (by rfl)) rv_all T.n_all (by rfl) (dao_one (deo (de_new (dn_of (dx_lc ["field", "value", "count"] (defScope s_are_counts) [("count", 2)] [2] rfl sc_are_counts.nd (di_seq (de_var 1)) (by decide +kernel) (fun _ _ _ _ _ => ⟨_, (dg_name 2 sc_are_counts.nd)⟩) (fun _ _ _ _ _ => ⟨_, dts_nil⟩) (fun _ _ _ _ _ => ⟨_, (de_callG ((ok_is_integer T).mono (k := 2) (by decide)) hr hgu T.m_is_integer T.k_is_integer takes0 (do_val (de_var 2) do_nil))⟩))))))))))))) fun _ _ _ _ h => h
theorem sc_is_piece : FnScope ["field", "value"] ["field", "value"] (defScope s_is_piece) := ⟨rfl, rfl, rfl, by decide +kernel, rfl, by decide +kernel, by decide +kernel⟩
theorem ok_is_piece (T : Tx K mg) : FnG P w K mg base 4 T.a_is_piece (spD K 2 [] G_is_piece) :=
  okG_of (J := []) (Fd := F_is_piece) T.F_is_piece T.b_is_piece sc_is_piece rfl (fun cdv A outer s H E hr hgu => by
    have hu1 := hu_of hr
    have hu65 := hu65_of hr
    have hu64 := hu64_of hr
    have hu0 := hu0_of hr
    have hu2 := hu2_of hr
    have tk := takes_of (X := (cxOf (L2.CX P w) P w K mg base ["field", "value"] "is_piece" (defScope s_is_piece) T.a_is_piece cdv A outer s H E)) rfl rfl rfl rfl
    have hp := passes_of (X := (cxOf (L2.CX P w) P w K mg base ["field", "value"] "is_piece" (defScope s_is_piece) T.a_is_piece cdv A outer s H E)) rfl
    exact (dss_one (ds_ret (J1 := []) (de_and (de_callB call_isi (rv_isi .tuple) T.n_isinstance (by rfl) (dao (da_cons (de_var 1) (da_cons (de_bltn T.n_tuple (by rfl)) da_nil)))) (de_and (de_cmp (op_eqU hu64) rv_eqU (de_callB call_lenU rv_len T.n_len (by rfl) (dao_one (deo (de_var 1)))) (deo de_int)) (de_and (de_callG ((ok_is_pair T).mono (k := 3) (by decide)) hr hgu T.m_is_pair T.k_is_pair tk (do_val (de_ix (ix_U hu1) rv_ix (de_var 1) (deo de_int)) do_nil)) (de_one (de_callG ((ok_are_counts T).mono (k := 3) (by decide)) hr hgu T.m_are_counts T.k_are_counts tk (do_val (de_var 0) (do_val (de_ix (ix_U hu1) rv_ix (de_var 1) (deo de_int)) do_nil)))))))))) fun _ _ _ _ h => h
theorem sc_added : FnScope ["one", "other", "count", "more"] ["one", "other"] (defScope s_added) := ⟨rfl, rfl, rfl, by decide +kernel, rfl, by decide +kernel, by decide +kernel⟩
theorem ok_added (T : Tx K mg) : FnG P w K mg base 1 T.a_added (spD K 2 [] G_added) :=
  okG_of (J := []) (Fd := F_added) T.F_added T.b_added sc_added rfl (fun cdv A outer s H E hr hgu => by
    have hu1 := hu_of hr
    have hu65 := hu65_of hr
    have hu64 := hu64_of hr
    have hu0 := hu0_of hr
    have hu2 := hu2_of hr
    have tk := takes_of (X := (cxOf (L2.CX P w) P w K mg base ["one", "other", "count", "more"] "added" (defScope s_added) T.a_added cdv A outer s H E)) rfl rfl rfl rfl
    have hp := passes_of (X := (cxOf (L2.CX P w) P w K mg base ["one", "other", "count", "more"] "added" (defScope s_added) T.a_added cdv A outer s H E)) rfl
    exact (dss_one (ds_ret (J1 := []) (de_callTy call_tuple_of rv_tuple T.n_tuple (by rfl) (dao_one (deo (de_new (dn_of (dx_lc ["one", "other", "count", "more"] (defScope s_added) [("count", 2), ("more", 3)] [2, 3] rfl sc_added.nd (di_zip T.n_zip (da_cons (de_var 0) (da_cons (de_var 1) da_nil))) (by decide +kernel) (fun _ _ _ _ _ => ⟨_, (dg_tup rfl (dgs_cons (dg_name 2 sc_added.nd) (dgs_cons (dg_name 3 sc_added.nd) dgs_nil)) (fun ds ρ k h => ((gl_cons gs_nm (gl_cons gs_nm gl_nil)) ds ρ k h).1))⟩) (fun _ _ _ _ _ => ⟨_, dts_nil⟩) (fun _ _ _ _ _ => ⟨_, (de_bin op_addU rv_add (de_var 2) (deo (de_var 3)))⟩)))))))))) fun _ _ _ _ h => h
theorem sc_merged : FnScope ["pieces", "found", "place", "counts"] ["pieces"] (defScope s_merged) := ⟨rfl, rfl, rfl, by decide +kernel, rfl, by decide +kernel, by decide +kernel⟩
theorem ok_merged (T : Tx K mg) : FnG P w K mg base 2 T.a_merged (spD K 1 [] G_merged) :=
  okG_of (J := [1]) (Fd := F_merged) T.F_merged T.b_merged sc_merged rfl (fun cdv A outer s H E hr hgu => by
    have hu1 := hu_of hr
    have hu65 := hu65_of hr
    have hu64 := hu64_of hr
    have hu0 := hu0_of hr
    have hu2 := hu2_of hr
    have tk := takes_of (X := (cxOf (L2.CX P w) P w K mg base ["pieces", "found", "place", "counts"] "merged" (defScope s_merged) T.a_merged cdv A outer s H E)) rfl rfl rfl rfl
    have hp := passes_of (X := (cxOf (L2.CX P w) P w K mg base ["pieces", "found", "place", "counts"] "merged" (defScope s_merged) T.a_merged cdv A outer s H E)) rfl
    exact (dss_cons (ds_setN 1 sc_merged.nd dn_dict0T)
      (dss_cons (ds_for hp rfl (J := [1]) (di_seq (de_var 0)) (dg_tup rfl (dgs_cons (dg_name 2 sc_merged.nd) (dgs_cons (dg_name 3 sc_merged.nd) dgs_nil)) (fun ds ρ k h => ((gl_cons gs_nm (gl_cons gs_nm gl_nil)) ds ρ k h).1))
      (dss_one (ds_putO 1 hu1 (de_if (dt_cmp (op_inU hu65) rv_in (de_var 2) (deo_var 1)) (de_callG ((ok_added T).mono (k := 1) (by decide)) hr hgu T.m_added T.k_added tk (do_val (de_ixL 1 (ix_U hu1) rv_ix (deo (de_var 2))) (do_val (de_var 3) do_nil))) (de_var 3)) (de_var 2))))
      (dss_one (ds_ret (J1 := [1]) (de_new (dn_of (dx_dc [("place", 2), ("counts", 3)] [2, 3] hu0 rfl sc_merged.nd (di_itemsT (de_rel (J := []) 1)) (fun _ _ _ _ _ => ⟨_, (dg_tup rfl (dgs_cons (dg_name 2 sc_merged.nd) (dgs_cons (dg_name 3 sc_merged.nd) dgs_nil)) (fun ds ρ k h => ((gl_cons gs_nm (gl_cons gs_nm gl_nil)) ds ρ k h).1))⟩) (fun _ _ _ _ _ => ⟨_, (dts_one (dt_val (de_callB (cr_anyI (by rfl)) rv_anyI T.n_any (by rfl) (dao_one (deo (de_callTy call_list_of rv_list T.n_list (by rfl) (dao_one (deo (de_var 3)))))))))⟩) (fun _ _ _ _ _ => ⟨_, (de_var 2)⟩) (fun _ _ _ _ _ => ⟨_, (de_var 3)⟩))))))))) fun _ _ _ _ h => h
theorem sc_State___init__ : FnScope ["self", "field", "position", "pieces", "piece"] ["self", "field", "position", "pieces"] (defScope s_State___init__) := ⟨rfl, rfl, rfl, by decide +kernel, rfl, by decide +kernel, by decide +kernel⟩
theorem ok_State___init__ (T : Tx K mg) : FnG P w K mg base 5 T.a_State___init__ (spStar 3 (spD K 4 [0] G_State___init__)) :=
  okGS_of (ps := ["self", "field", "position"]) (J := []) (Fd := F_State___init__) T.F_State___init__ T.b_State___init__ sc_State___init__ (fun cdv A outer s H E hr hgu => by
    have hu1 := hu_of hr
    have hu65 := hu65_of hr
    have hu64 := hu64_of hr
    have hu0 := hu0_of hr
    have hu2 := hu2_of hr
    have tk := takes_of (X := (cxOf (L2.CX P w) P w K mg base ["self", "field", "position", "pieces", "piece"] "State.__init__" (defScope s_State___init__) T.a_State___init__ cdv A outer s H E)) rfl rfl rfl rfl
    have hp := passes_of (X := (cxOf (L2.CX P w) P w K mg base ["self", "field", "position", "pieces", "piece"] "State.__init__" (defScope s_State___init__) T.a_State___init__ cdv A outer s H E)) rfl
    exact (dss_cons (ds_if (J := []) (dt_w (dw_or (dt_not (dt_val (de_callG ((ok_is_pair T).mono (k := 4) (by decide)) hr hgu T.m_is_pair T.k_is_pair tk (do_val (de_var 2) do_nil)))) (dw_or1 (dt_not (dt_val (de_callB (cr_all (by rfl)) rv_all T.n_all (by rfl) (dao_one (deo (de_new (dn_of (dx_lc ["self", "field", "position", "pieces", "piece"] (defScope s_State___init__) [("piece", 4)] [4] rfl sc_State___init__.nd (di_seq (de_var 3)) (by decide +kernel) (fun _ _ _ _ _ => ⟨_, (dg_name 4 sc_State___init__.nd)⟩) (fun _ _ _ _ _ => ⟨_, dts_nil⟩) (fun _ _ _ _ _ => ⟨_, (de_callG ((ok_is_piece T).mono (k := 4) (by decide)) hr hgu T.m_is_piece T.k_is_piece takes0 (do_val (de_var 1) (do_val (de_var 4) do_nil)))⟩))))))))))))
      (dss_one (ds_dead (J := [])))
      dss_nil)
      (dss_cons (ds_fld 0 "State" T.ic_State T.cl_State T.na_State_ground (de_var 1))
      (dss_cons (ds_fld 0 "State" T.ic_State T.cl_State T.na_State_stand (de_var 2))
      (dss_cons (ds_fld 0 "State" T.ic_State T.cl_State T.na_State_laid (de_callG ((ok_merged T).mono (k := 4) (by decide)) hr hgu T.m_merged T.k_merged tk (do_val (de_var 3) do_nil)))
      (dss_cons (ds_fld 0 "State" T.ic_State T.cl_State T.na_State_rows (de_callTy call_tuple_of rv_tuple T.n_tuple (by rfl) (dao_one (deo (de_sortIt rfl hu2 T.n_sorted (de_fld "State" T.ic_State T.cl_State T.na_State_laid (deo_var 0)))))))
      (dss_one (ds_fld 0 "State" T.ic_State T.cl_State T.na_State_key (de_tup (da_cons (de_var 2) (da_cons (de_fld "State" T.ic_State T.cl_State T.na_State_rows (deo_var 0)) da_nil))))))))))) fun _ _ _ _ h => h
theorem sc_l_made : FnScope ["_law_ground", "_law_spot", "_law_heap"] ["_law_ground", "_law_spot", "_law_heap"] (defScope s_l_made) := ⟨rfl, rfl, rfl, by decide +kernel, rfl, by decide +kernel, by decide +kernel⟩
theorem ok_l_made (T : Tx K mg) : FnG P w K mg base 7 T.a_l_made (spD K 3 [] G_l_made) :=
  okG_of (J := []) (Fd := F_l_made) T.F_l_made T.b_l_made sc_l_made rfl (fun cdv A outer s H E hr hgu => by
    have hu1 := hu_of hr
    have hu65 := hu65_of hr
    have hu64 := hu64_of hr
    have hu0 := hu0_of hr
    have hu2 := hu2_of hr
    have tk := takes_of (X := (cxOf (L2.CX P w) P w K mg base ["_law_ground", "_law_spot", "_law_heap"] "_law_made" (defScope s_l_made) T.a_l_made cdv A outer s H E)) rfl rfl rfl rfl
    have hp := passes_of (X := (cxOf (L2.CX P w) P w K mg base ["_law_ground", "_law_spot", "_law_heap"] "_law_made" (defScope s_l_made) T.a_l_made cdv A outer s H E)) rfl
    exact (dss_cons (ds_if (J := []) (dt_cmp (op_eqU hu64) rv_eqU (de_callB call_lenU rv_len T.n_len (by rfl) (dao_one (deo (de_var 2)))) (deo de_int))
      (dss_one (ds_ret (J1 := []) (de_new (dn_makeSn0 T.mk_State T.ic_State ((ok_State___init__ T).mono (k := 5) (by decide)) hr hgu T.mc_State tk (da_cons (de_var 0) (da_cons (de_var 1) da_nil))))))
      dss_nil)
      (dss_cons (ds_if (J := []) (dt_cmp (op_eqU hu64) rv_eqU (de_callB call_lenU rv_len T.n_len (by rfl) (dao_one (deo (de_var 2)))) (deo de_int))
      (dss_one (ds_ret (J1 := []) (de_new (dn_makeSn0 T.mk_State T.ic_State ((ok_State___init__ T).mono (k := 5) (by decide)) hr hgu T.mc_State tk (da_cons (de_var 0) (da_cons (de_var 1) (da_cons (de_ix (ix_U hu1) rv_ix (de_var 2) (deo de_int)) da_nil)))))))
      dss_nil)
      (dss_cons (ds_if (J := []) (dt_cmp (op_eqU hu64) rv_eqU (de_callB call_lenU rv_len T.n_len (by rfl) (dao_one (deo (de_var 2)))) (deo de_int))
      (dss_one (ds_ret (J1 := []) (de_new (dn_makeSn0 T.mk_State T.ic_State ((ok_State___init__ T).mono (k := 5) (by decide)) hr hgu T.mc_State tk (da_cons (de_var 0) (da_cons (de_var 1) (da_cons (de_ix (ix_U hu1) rv_ix (de_var 2) (deo de_int)) (da_cons (de_ix (ix_U hu1) rv_ix (de_var 2) (deo de_int)) da_nil))))))))
      dss_nil)
      (dss_cons (ds_if (J := []) (dt_cmp (op_eqU hu64) rv_eqU (de_callB call_lenU rv_len T.n_len (by rfl) (dao_one (deo (de_var 2)))) (deo de_int))
      (dss_one (ds_ret (J1 := []) (de_new (dn_makeSn0 T.mk_State T.ic_State ((ok_State___init__ T).mono (k := 5) (by decide)) hr hgu T.mc_State tk (da_cons (de_var 0) (da_cons (de_var 1) (da_cons (de_ix (ix_U hu1) rv_ix (de_var 2) (deo de_int)) (da_cons (de_ix (ix_U hu1) rv_ix (de_var 2) (deo de_int)) (da_cons (de_ix (ix_U hu1) rv_ix (de_var 2) (deo de_int)) da_nil)))))))))
      dss_nil)
      (dss_cons (ds_if (J := []) (dt_cmp (op_eqU hu64) rv_eqU (de_callB call_lenU rv_len T.n_len (by rfl) (dao_one (deo (de_var 2)))) (deo de_int))
      (dss_one (ds_ret (J1 := []) (de_new (dn_makeSn0 T.mk_State T.ic_State ((ok_State___init__ T).mono (k := 5) (by decide)) hr hgu T.mc_State tk (da_cons (de_var 0) (da_cons (de_var 1) (da_cons (de_ix (ix_U hu1) rv_ix (de_var 2) (deo de_int)) (da_cons (de_ix (ix_U hu1) rv_ix (de_var 2) (deo de_int)) (da_cons (de_ix (ix_U hu1) rv_ix (de_var 2) (deo de_int)) (da_cons (de_ix (ix_U hu1) rv_ix (de_var 2) (deo de_int)) da_nil))))))))))
      dss_nil)
      (dss_cons (ds_if (J := []) (dt_cmp (op_eqU hu64) rv_eqU (de_callB call_lenU rv_len T.n_len (by rfl) (dao_one (deo (de_var 2)))) (deo de_int))
      (dss_one (ds_ret (J1 := []) (de_new (dn_makeSn0 T.mk_State T.ic_State ((ok_State___init__ T).mono (k := 5) (by decide)) hr hgu T.mc_State tk (da_cons (de_var 0) (da_cons (de_var 1) (da_cons (de_ix (ix_U hu1) rv_ix (de_var 2) (deo de_int)) (da_cons (de_ix (ix_U hu1) rv_ix (de_var 2) (deo de_int)) (da_cons (de_ix (ix_U hu1) rv_ix (de_var 2) (deo de_int)) (da_cons (de_ix (ix_U hu1) rv_ix (de_var 2) (deo de_int)) (da_cons (de_ix (ix_U hu1) rv_ix (de_var 2) (deo de_int)) da_nil)))))))))))
      dss_nil)
      (dss_one (ds_ret (J1 := []) (de_new (dn_makeSn0 T.mk_State T.ic_State ((ok_State___init__ T).mono (k := 5) (by decide)) hr hgu T.mc_State tk (da_cons (de_var 0) (da_cons (de_var 1) (da_cons (de_ix (ix_U hu1) rv_ix (de_var 2) (deo de_int)) (da_cons (de_ix (ix_U hu1) rv_ix (de_var 2) (deo de_int)) (da_cons (de_ix (ix_U hu1) rv_ix (de_var 2) (deo de_int)) (da_cons (de_ix (ix_U hu1) rv_ix (de_var 2) (deo de_int)) (da_cons (de_ix (ix_U hu1) rv_ix (de_var 2) (deo de_int)) (da_cons (de_ix (ix_U hu1) rv_ix (de_var 2) (deo de_int)) da_nil))))))))))))))))))) fun _ _ _ _ h => h
theorem sc_l_laid : FnScope ["_law_pieces", "_law_found", "_law_place_here", "_law_counts_here", "_law_old", "_law_k"] ["_law_pieces"] (defScope s_l_laid) := ⟨rfl, rfl, rfl, by decide +kernel, rfl, by decide +kernel, by decide +kernel⟩
theorem ok_l_laid (T : Tx K mg) : FnG P w K mg base 1 T.a_l_laid (spD K 1 [] G_l_laid) :=
  okG_of (J := [1]) (Fd := F_l_laid) T.F_l_laid T.b_l_laid sc_l_laid rfl (fun cdv A outer s H E hr hgu => by
    have hu1 := hu_of hr
    have hu65 := hu65_of hr
    have hu64 := hu64_of hr
    have hu0 := hu0_of hr
    have hu2 := hu2_of hr
    have tk := takes_of (X := (cxOf (L2.CX P w) P w K mg base ["_law_pieces", "_law_found", "_law_place_here", "_law_counts_here", "_law_old", "_law_k"] "_law_laid" (defScope s_l_laid) T.a_l_laid cdv A outer s H E)) rfl rfl rfl rfl
    have hp := passes_of (X := (cxOf (L2.CX P w) P w K mg base ["_law_pieces", "_law_found", "_law_place_here", "_law_counts_here", "_law_old", "_law_k"] "_law_laid" (defScope s_l_laid) T.a_l_laid cdv A outer s H E)) rfl
    exact (dss_cons (ds_setN 1 sc_l_laid.nd dn_dict0T)
      (dss_cons (ds_for hp rfl (J := [1]) (di_seq (de_var 0)) (dg_tup rfl (dgs_cons (dg_name 2 sc_l_laid.nd) (dgs_cons (dg_name 3 sc_l_laid.nd) dgs_nil)) (fun ds ρ k h => ((gl_cons gs_nm (gl_cons gs_nm gl_nil)) ds ρ k h).1))
      (dss_cons (ds_set 4 sc_l_laid.nd (de_getO hu1 1 (hk := (de_var 2)) (hz := (de_bin op_mulU rv_mul (de_tup (da_cons de_int da_nil)) (deo (de_callB call_lenU rv_len T.n_len (by rfl) (dao_one (deo (de_var 3)))))))))
      (dss_one (ds_putO 1 hu1 (de_callTy call_tuple_of rv_tuple T.n_tuple (by rfl) (dao_one (deo (de_new (dn_of (dx_lc ["_law_pieces", "_law_found", "_law_place_here", "_law_counts_here", "_law_old", "_law_k"] (defScope s_l_laid) [("_law_k", 5)] [5] rfl sc_l_laid.nd (di_range1 T.n_range (da_cons (de_callB call_lenU rv_len T.n_len (by rfl) (dao_one (deo (de_var 3)))) da_nil)) (by decide +kernel) (fun _ _ _ _ _ => ⟨_, (dg_name 5 sc_l_laid.nd)⟩) (fun _ _ _ _ _ => ⟨_, dts_nil⟩) (fun _ _ _ _ _ => ⟨_, (de_bin op_addU rv_add (de_ix (ix_U hu1) rv_ix (de_var 4) (deo (de_var 5))) (deo (de_ix (ix_U hu1) rv_ix (de_var 3) (deo (de_var 5)))))⟩))))))) (de_var 2)))))
      (dss_one (ds_ret (J1 := [1]) (de_callTy call_tupC rv_tupC T.n_tuple (by rfl) (dao_one (deo (de_callB (cr_sortIL hu2) rv_sortI T.n_sorted (by rfl) (dao_one (deo (de_new (dn_of (dx_lc ["_law_pieces", "_law_found", "_law_place_here", "_law_counts_here", "_law_old", "_law_k"] (defScope s_l_laid) [("_law_place_here", 2)] [2] rfl sc_l_laid.nd (di_keys (de_rel (J := []) 1)) (by decide +kernel) (fun _ _ _ _ _ => ⟨_, (dg_name 2 sc_l_laid.nd)⟩) (fun _ _ _ _ _ => ⟨_, (dts_one (dt_cmp (op_neU hu64) rv_neU (de_ix (ix_U hu1) rv_ix (de_var 1) (deo (de_var 2))) (deo (de_bin op_mulU rv_mul (de_tup (da_cons de_int da_nil)) (deo (de_callB call_lenU rv_len T.n_len (by rfl) (dao_one (deo (de_ix (ix_U hu1) rv_ix (de_var 1) (deo (de_var 2)))))))))))⟩) (fun _ _ _ _ _ => ⟨_, (de_tup (da_cons (de_var 2) (da_cons (de_ix (ix_U hu1) rv_ix (de_var 1) (deo (de_var 2))) da_nil)))⟩))))))))))))))) fun _ _ _ _ h => h
theorem sc_State_parts : FnScope ["self"] ["self"] (defScope s_State_parts) := ⟨rfl, rfl, rfl, by decide +kernel, rfl, by decide +kernel, by decide +kernel⟩
theorem ok_State_parts (T : Tx K mg) : FnG P w K mg base 1 T.a_State_parts (spD K 1 [] G_State_parts) :=
  okG_of (J := []) (Fd := F_State_parts) T.F_State_parts T.b_State_parts sc_State_parts rfl (fun cdv A outer s H E hr hgu => by
    have hu1 := hu_of hr
    have hu65 := hu65_of hr
    have hu64 := hu64_of hr
    have hu0 := hu0_of hr
    have hu2 := hu2_of hr
    have tk := takes_of (X := (cxOf (L2.CX P w) P w K mg base ["self"] "State.parts" (defScope s_State_parts) T.a_State_parts cdv A outer s H E)) rfl rfl rfl rfl
    have hp := passes_of (X := (cxOf (L2.CX P w) P w K mg base ["self"] "State.parts" (defScope s_State_parts) T.a_State_parts cdv A outer s H E)) rfl
    exact (dss_one (ds_ret (J1 := []) (de_fld "State" T.ic_State T.cl_State T.na_State_key (deo (de_var 0)))))) fun _ _ _ _ h => h
theorem sc_State_position : FnScope ["self"] ["self"] (defScope s_State_position) := ⟨rfl, rfl, rfl, by decide +kernel, rfl, by decide +kernel, by decide +kernel⟩
theorem ok_State_position (T : Tx K mg) : FnG P w K mg base 1 T.a_State_position (spD K 1 [] G_State_position) :=
  okG_of (J := []) (Fd := F_State_position) T.F_State_position T.b_State_position sc_State_position rfl (fun cdv A outer s H E hr hgu => by
    have hu1 := hu_of hr
    have hu65 := hu65_of hr
    have hu64 := hu64_of hr
    have hu0 := hu0_of hr
    have hu2 := hu2_of hr
    have tk := takes_of (X := (cxOf (L2.CX P w) P w K mg base ["self"] "State.position" (defScope s_State_position) T.a_State_position cdv A outer s H E)) rfl rfl rfl rfl
    have hp := passes_of (X := (cxOf (L2.CX P w) P w K mg base ["self"] "State.position" (defScope s_State_position) T.a_State_position cdv A outer s H E)) rfl
    exact (dss_one (ds_ret (J1 := []) (de_fld "State" T.ic_State T.cl_State T.na_State_stand (deo (de_var 0)))))) fun _ _ _ _ h => h
theorem sc_State_pieces : FnScope ["self"] ["self"] (defScope s_State_pieces) := ⟨rfl, rfl, rfl, by decide +kernel, rfl, by decide +kernel, by decide +kernel⟩
theorem ok_State_pieces (T : Tx K mg) : FnG P w K mg base 1 T.a_State_pieces (spD K 1 [] G_State_pieces) :=
  okG_of (J := []) (Fd := F_State_pieces) T.F_State_pieces T.b_State_pieces sc_State_pieces rfl (fun cdv A outer s H E hr hgu => by
    have hu1 := hu_of hr
    have hu65 := hu65_of hr
    have hu64 := hu64_of hr
    have hu0 := hu0_of hr
    have hu2 := hu2_of hr
    have tk := takes_of (X := (cxOf (L2.CX P w) P w K mg base ["self"] "State.pieces" (defScope s_State_pieces) T.a_State_pieces cdv A outer s H E)) rfl rfl rfl rfl
    have hp := passes_of (X := (cxOf (L2.CX P w) P w K mg base ["self"] "State.pieces" (defScope s_State_pieces) T.a_State_pieces cdv A outer s H E)) rfl
    exact (dss_one (ds_ret (J1 := []) (de_fld "State" T.ic_State T.cl_State T.na_State_rows (deo (de_var 0)))))) fun _ _ _ _ h => h
theorem sc_State___len__ : FnScope ["self"] ["self"] (defScope s_State___len__) := ⟨rfl, rfl, rfl, by decide +kernel, rfl, by decide +kernel, by decide +kernel⟩
theorem ok_State___len__ (T : Tx K mg) : FnG P w K mg base 1 T.a_State___len__ (spD K 1 [] G_State___len__) :=
  okG_of (J := []) (Fd := F_State___len__) T.F_State___len__ T.b_State___len__ sc_State___len__ rfl (fun cdv A outer s H E hr hgu => by
    have hu1 := hu_of hr
    have hu65 := hu65_of hr
    have hu64 := hu64_of hr
    have hu0 := hu0_of hr
    have hu2 := hu2_of hr
    have tk := takes_of (X := (cxOf (L2.CX P w) P w K mg base ["self"] "State.__len__" (defScope s_State___len__) T.a_State___len__ cdv A outer s H E)) rfl rfl rfl rfl
    have hp := passes_of (X := (cxOf (L2.CX P w) P w K mg base ["self"] "State.__len__" (defScope s_State___len__) T.a_State___len__ cdv A outer s H E)) rfl
    exact (dss_one (ds_ret (J1 := []) (de_callB call_lenU rv_len T.n_len (by rfl) (dao_one (deo (de_fld "State" T.ic_State T.cl_State T.na_State_rows (deo (de_var 0))))))))) fun _ _ _ _ h => h
theorem sc_Field___eq__ : FnScope ["self", "other"] ["self", "other"] (defScope s_Field___eq__) := ⟨rfl, rfl, rfl, by decide +kernel, rfl, by decide +kernel, by decide +kernel⟩
theorem ok_Field___eq__ (T : Tx K mg) : FnG P w K mg base 1 T.a_Field___eq__ (spD K 2 [] G_Field___eq__) :=
  okG_of (J := []) (Fd := F_Field___eq__) T.F_Field___eq__ T.b_Field___eq__ sc_Field___eq__ rfl (fun cdv A outer s H E hr hgu => by
    have hu1 := hu_of hr
    have hu65 := hu65_of hr
    have hu64 := hu64_of hr
    have hu0 := hu0_of hr
    have hu2 := hu2_of hr
    have tk := takes_of (X := (cxOf (L2.CX P w) P w K mg base ["self", "other"] "Field.__eq__" (defScope s_Field___eq__) T.a_Field___eq__ cdv A outer s H E)) rfl rfl rfl rfl
    have hp := passes_of (X := (cxOf (L2.CX P w) P w K mg base ["self", "other"] "Field.__eq__" (defScope s_Field___eq__) T.a_Field___eq__ cdv A outer s H E)) rfl
    exact (dss_one (ds_ret (J1 := []) (de_and (de_isiOwn T.ic_Field T.mc_Field T.if_Field T.n_isinstance (de_var 1)) (de_one (de_cmp (op_eqU hu64) rv_eqU (de_fld "Field" T.ic_Field T.cl_Field T.na_Field_vectors (deo (de_var 0))) (deo (de_fld "Field" T.ic_Field T.cl_Field T.na_Field_vectors (deo (de_var 1)))))))))) fun _ _ _ _ h => h
theorem sc_State_field : FnScope ["self"] ["self"] (defScope s_State_field) := ⟨rfl, rfl, rfl, by decide +kernel, rfl, by decide +kernel, by decide +kernel⟩
theorem ok_State_field (T : Tx K mg) : FnG P w K mg base 1 T.a_State_field (spD K 1 [] G_State_field) :=
  okG_of (J := []) (Fd := F_State_field) T.F_State_field T.b_State_field sc_State_field rfl (fun cdv A outer s H E hr hgu => by
    have hu1 := hu_of hr
    have hu65 := hu65_of hr
    have hu64 := hu64_of hr
    have hu0 := hu0_of hr
    have hu2 := hu2_of hr
    have tk := takes_of (X := (cxOf (L2.CX P w) P w K mg base ["self"] "State.field" (defScope s_State_field) T.a_State_field cdv A outer s H E)) rfl rfl rfl rfl
    have hp := passes_of (X := (cxOf (L2.CX P w) P w K mg base ["self"] "State.field" (defScope s_State_field) T.a_State_field cdv A outer s H E)) rfl
    exact (dss_one (ds_ret (J1 := []) (de_fld "State" T.ic_State T.cl_State T.na_State_ground (deo (de_var 0)))))) fun _ _ _ _ h => h
theorem sc_State___getitem__ : FnScope ["self", "place", "x", "y"] ["self", "place"] (defScope s_State___getitem__) := ⟨rfl, rfl, rfl, by decide +kernel, rfl, by decide +kernel, by decide +kernel⟩
theorem ok_State___getitem__ (T : Tx K mg) : FnG P w K mg base 3 T.a_State___getitem__ (spD K 2 [] G_State___getitem__) :=
  okG_of (J := []) (Fd := F_State___getitem__) T.F_State___getitem__ T.b_State___getitem__ sc_State___getitem__ rfl (fun cdv A outer s H E hr hgu => by
    have hu1 := hu_of hr
    have hu65 := hu65_of hr
    have hu64 := hu64_of hr
    have hu0 := hu0_of hr
    have hu2 := hu2_of hr
    have tk := takes_of (X := (cxOf (L2.CX P w) P w K mg base ["self", "place", "x", "y"] "State.__getitem__" (defScope s_State___getitem__) T.a_State___getitem__ cdv A outer s H E)) rfl rfl rfl rfl
    have hp := passes_of (X := (cxOf (L2.CX P w) P w K mg base ["self", "place", "x", "y"] "State.__getitem__" (defScope s_State___getitem__) T.a_State___getitem__ cdv A outer s H E)) rfl
    exact (dss_cons (ds_asg (de_var 1) (dg_tup rfl (dgs_cons (dg_name 2 sc_State___getitem__.nd) (dgs_cons (dg_name 3 sc_State___getitem__.nd) dgs_nil)) (fun ds ρ k h => ((gl_cons gs_nm (gl_cons gs_nm gl_nil)) ds ρ k h).1)))
      (dss_one (ds_ret (J1 := []) (de_get2 hu1 (de_fld "State" T.ic_State T.cl_State T.na_State_laid (deo (de_var 0))) (de_tup (da_cons (de_var 2) (da_cons (de_var 3) da_nil))) (de_bin op_mulU rv_mul (de_tup (da_cons de_int da_nil)) (deo (de_propG T.ic_Field T.cl_Field T.pr_Field_kinds ((ok_Field_kinds T).mono (k := 1) (by decide)) hr hgu (de_fld "State" T.ic_State T.cl_State T.na_State_ground (deo (de_var 0))))))))))) fun _ _ _ _ h => h
theorem sc_State___contains__ : FnScope ["self", "place"] ["self", "place"] (defScope s_State___contains__) := ⟨rfl, rfl, rfl, by decide +kernel, rfl, by decide +kernel, by decide +kernel⟩
theorem ok_State___contains__ (T : Tx K mg) : FnG P w K mg base 1 T.a_State___contains__ (spD K 2 [] G_State___contains__) :=
  okG_of (J := []) (Fd := F_State___contains__) T.F_State___contains__ T.b_State___contains__ sc_State___contains__ rfl (fun cdv A outer s H E hr hgu => by
    have hu1 := hu_of hr
    have hu65 := hu65_of hr
    have hu64 := hu64_of hr
    have hu0 := hu0_of hr
    have hu2 := hu2_of hr
    have tk := takes_of (X := (cxOf (L2.CX P w) P w K mg base ["self", "place"] "State.__contains__" (defScope s_State___contains__) T.a_State___contains__ cdv A outer s H E)) rfl rfl rfl rfl
    have hp := passes_of (X := (cxOf (L2.CX P w) P w K mg base ["self", "place"] "State.__contains__" (defScope s_State___contains__) T.a_State___contains__ cdv A outer s H E)) rfl
    exact (dss_one (ds_ret (J1 := []) (de_cmp (op_inU hu65) rv_in (de_var 1) (deo (de_fld "State" T.ic_State T.cl_State T.na_State_laid (deo (de_var 0)))))))) fun _ _ _ _ h => h
theorem sc_l_places_right : FnScope ["_law_state", "_law_due", "_law_pulls_here", "_law_some", "_law_lying", "_law_place_here"] ["_law_state", "_law_due", "_law_pulls_here", "_law_some"] (defScope s_l_places_right) := ⟨rfl, rfl, rfl, by decide +kernel, rfl, by decide +kernel, by decide +kernel⟩
theorem ok_l_places_right (T : Tx K mg) : FnG P w K mg base 5 T.a_l_places_right (spD K 4 [] G_l_places_right) :=
  okG_of (J := []) (Fd := F_l_places_right) T.F_l_places_right T.b_l_places_right sc_l_places_right rfl (fun cdv A outer s H E hr hgu => by
    have hu1 := hu_of hr
    have hu65 := hu65_of hr
    have hu64 := hu64_of hr
    have hu0 := hu0_of hr
    have hu2 := hu2_of hr
    have tk := takes_of (X := (cxOf (L2.CX P w) P w K mg base ["_law_state", "_law_due", "_law_pulls_here", "_law_some", "_law_lying", "_law_place_here"] "_law_places_right" (defScope s_l_places_right) T.a_l_places_right cdv A outer s H E)) rfl rfl rfl rfl
    have hp := passes_of (X := (cxOf (L2.CX P w) P w K mg base ["_law_state", "_law_due", "_law_pulls_here", "_law_some", "_law_lying", "_law_place_here"] "_law_places_right" (defScope s_l_places_right) T.a_l_places_right cdv A outer s H E)) rfl
    exact (dss_cons (ds_set 4 sc_l_places_right.nd (de_callTy (call_dictK hu2 (by rfl)) rv_dictK T.n_dict (by rfl) (dao_one (deo (de_var 1)))))
      (dss_cons (ds_for hp rfl (J := []) (di_seq (de_var 3)) (dg_name 5 sc_l_places_right.nd)
      (dss_one (ds_if (J := []) (dt_w (dw_or (dt_cmp (op_neU hu64) rv_neU (de_callB (call_reprD hgu hu65) rv_repr T.n_repr (by rfl) (dao_one (deo (de_ixOwn T.ic_State T.gs_State___getitem__ T.gf_State___getitem__ T.gi_State___getitem__ ((ok_State___getitem__ T).mono (k := 3) (by decide)) hr hgu (de_var 0) (de_var 5))))) (deo (de_callB (call_reprD hgu hu65) rv_repr T.n_repr (by rfl) (dao_one (deo (de_get2 hu1 (de_var 4) (de_var 5) (de_bin op_mulU rv_mul (de_tup (da_cons de_int da_nil)) (deo (de_callB call_lenU rv_len T.n_len (by rfl) (dao_one (deo (de_var 2)))))))))))) (dw_or1 (dt_cmp (op_neU hu64) rv_neU (de_inOwn T.ic_State T.mt_State___contains__ ((ok_State___contains__ T).mono (k := 4) (by decide)) hr hgu (de_var 5) (de_var 0)) (deo (de_cmp (op_inU hu65) rv_in (de_var 5) (deo (de_var 4))))))))
      (dss_one (ds_ret (J1 := []) de_bl))
      dss_nil)))
      (dss_one (ds_ret (J1 := []) de_bl))))) fun _ _ _ _ h => h
theorem sc_State___eq__ : FnScope ["self", "other"] ["self", "other"] (defScope s_State___eq__) := ⟨rfl, rfl, rfl, by decide +kernel, rfl, by decide +kernel, by decide +kernel⟩
theorem ok_State___eq__ (T : Tx K mg) : FnG P w K mg base 3 T.a_State___eq__ (spD K 2 [] G_State___eq__) :=
  okG_of (J := []) (Fd := F_State___eq__) T.F_State___eq__ T.b_State___eq__ sc_State___eq__ rfl (fun cdv A outer s H E hr hgu => by
    have hu1 := hu_of hr
    have hu65 := hu65_of hr
    have hu64 := hu64_of hr
    have hu0 := hu0_of hr
    have hu2 := hu2_of hr
    have tk := takes_of (X := (cxOf (L2.CX P w) P w K mg base ["self", "other"] "State.__eq__" (defScope s_State___eq__) T.a_State___eq__ cdv A outer s H E)) rfl rfl rfl rfl
    have hp := passes_of (X := (cxOf (L2.CX P w) P w K mg base ["self", "other"] "State.__eq__" (defScope s_State___eq__) T.a_State___eq__ cdv A outer s H E)) rfl
    exact (dss_one (ds_ret (J1 := []) (de_and (de_isiOwn T.ic_State T.mc_State T.if_State T.n_isinstance (de_var 1)) (de_and (de_eqOwn T.ic_Field T.ef_Field ((ok_Field___eq__ T).mono (k := 1) (by decide)) hr hgu (de_fld "State" T.ic_State T.cl_State T.na_State_ground (deo (de_var 0))) (de_fld "State" T.ic_State T.cl_State T.na_State_ground (deo (de_var 1)))) (de_one (de_cmp (op_eqU hu64) rv_eqU (de_fld "State" T.ic_State T.cl_State T.na_State_key (deo (de_var 0))) (deo (de_fld "State" T.ic_State T.cl_State T.na_State_key (deo (de_var 1))))))))))) fun _ _ _ _ h => h
theorem sc_State_totals : FnScope ["self", "found", "place", "counts"] ["self"] (defScope s_State_totals) := ⟨rfl, rfl, rfl, by decide +kernel, rfl, by decide +kernel, by decide +kernel⟩
theorem ok_State_totals (T : Tx K mg) : FnG P w K mg base 3 T.a_State_totals (spD K 1 [] G_State_totals) :=
  okG_of (J := []) (Fd := F_State_totals) T.F_State_totals T.b_State_totals sc_State_totals rfl (fun cdv A outer s H E hr hgu => by
    have hu1 := hu_of hr
    have hu65 := hu65_of hr
    have hu64 := hu64_of hr
    have hu0 := hu0_of hr
    have hu2 := hu2_of hr
    have tk := takes_of (X := (cxOf (L2.CX P w) P w K mg base ["self", "found", "place", "counts"] "State.totals" (defScope s_State_totals) T.a_State_totals cdv A outer s H E)) rfl rfl rfl rfl
    have hp := passes_of (X := (cxOf (L2.CX P w) P w K mg base ["self", "found", "place", "counts"] "State.totals" (defScope s_State_totals) T.a_State_totals cdv A outer s H E)) rfl
    exact (dss_cons (ds_set 1 sc_State_totals.nd (de_bin op_mulU rv_mul (de_tup (da_cons de_int da_nil)) (deo (de_propG T.ic_Field T.cl_Field T.pr_Field_kinds ((ok_Field_kinds T).mono (k := 1) (by decide)) hr hgu (de_fld "State" T.ic_State T.cl_State T.na_State_ground (deo (de_var 0)))))))
      (dss_cons (ds_for hp rfl (J := []) (di_seq (de_fld "State" T.ic_State T.cl_State T.na_State_rows (deo (de_var 0)))) (dg_tup rfl (dgs_cons (dg_name 2 sc_State_totals.nd) (dgs_cons (dg_name 3 sc_State_totals.nd) dgs_nil)) (fun ds ρ k h => ((gl_cons gs_nm (gl_cons gs_nm gl_nil)) ds ρ k h).1))
      (dss_one (ds_set 1 sc_State_totals.nd (de_callG ((ok_added T).mono (k := 2) (by decide)) hr hgu T.m_added T.k_added tk (do_val (de_var 1) (do_val (de_var 3) do_nil))))))
      (dss_one (ds_ret (J1 := []) (de_var 1)))))) fun _ _ _ _ h => h
theorem sc_State_velocity : FnScope ["self", "weights", "x", "y", "count", "a", "b"] ["self"] (defScope s_State_velocity) := ⟨rfl, rfl, rfl, by decide +kernel, rfl, by decide +kernel, by decide +kernel⟩
theorem ok_State_velocity (T : Tx K mg) : FnG P w K mg base 5 T.a_State_velocity (spD K 1 [] G_State_velocity) :=
  okG_of (J := []) (Fd := F_State_velocity) T.F_State_velocity T.b_State_velocity sc_State_velocity rfl (fun cdv A outer s H E hr hgu => by
    have hu1 := hu_of hr
    have hu65 := hu65_of hr
    have hu64 := hu64_of hr
    have hu0 := hu0_of hr
    have hu2 := hu2_of hr
    have tk := takes_of (X := (cxOf (L2.CX P w) P w K mg base ["self", "weights", "x", "y", "count", "a", "b"] "State.velocity" (defScope s_State_velocity) T.a_State_velocity cdv A outer s H E)) rfl rfl rfl rfl
    have hp := passes_of (X := (cxOf (L2.CX P w) P w K mg base ["self", "weights", "x", "y", "count", "a", "b"] "State.velocity" (defScope s_State_velocity) T.a_State_velocity cdv A outer s H E)) rfl
    exact (dss_cons (ds_set 1 sc_State_velocity.nd (de_propG T.ic_State T.cl_State T.pr_State_totals ((ok_State_totals T).mono (k := 3) (by decide)) hr hgu (de_var 0)))
      (dss_cons (ds_set 2 sc_State_velocity.nd (de_callB (cr_sum (by rfl)) rv_sum T.n_sum (by rfl) (dao_one (deo (de_new (dn_of (dx_lc ["self", "weights", "x", "y", "count", "a", "b"] (defScope s_State_velocity) [("count", 4), ("a", 5), ("b", 6)] [4, 5, 6] rfl sc_State_velocity.nd (di_zip T.n_zip (da_cons (de_var 1) (da_cons (de_fld "Field" T.ic_Field T.cl_Field T.na_Field_vectors (deo (de_fld "State" T.ic_State T.cl_State T.na_State_ground (deo (de_var 0))))) da_nil))) (by decide +kernel) (fun _ _ _ _ _ => ⟨_, (dg_tup rfl (dgs_cons (dg_name 4 sc_State_velocity.nd) (dgs_cons (dg_tup rfl (dgs_cons (dg_name 5 sc_State_velocity.nd) (dgs_cons (dg_name 6 sc_State_velocity.nd) dgs_nil)) (fun ds ρ k h => ((gl_cons gs_nm (gl_cons gs_nm gl_nil)) ds ρ k h).1)) dgs_nil)) (fun ds ρ k h => ((gl_cons gs_nm (gl_cons (gs_tp (gl_cons gs_nm (gl_cons gs_nm gl_nil))) gl_nil)) ds ρ k h).1))⟩) (fun _ _ _ _ _ => ⟨_, dts_nil⟩) (fun _ _ _ _ _ => ⟨_, (de_bin op_mulU rv_mul (de_var 4) (deo (de_var 5)))⟩))))))))
      (dss_cons (ds_set 3 sc_State_velocity.nd (de_callB (cr_sum (by rfl)) rv_sum T.n_sum (by rfl) (dao_one (deo (de_new (dn_of (dx_lc ["self", "weights", "x", "y", "count", "a", "b"] (defScope s_State_velocity) [("count", 4), ("a", 5), ("b", 6)] [4, 5, 6] rfl sc_State_velocity.nd (di_zip T.n_zip (da_cons (de_var 1) (da_cons (de_fld "Field" T.ic_Field T.cl_Field T.na_Field_vectors (deo (de_fld "State" T.ic_State T.cl_State T.na_State_ground (deo (de_var 0))))) da_nil))) (by decide +kernel) (fun _ _ _ _ _ => ⟨_, (dg_tup rfl (dgs_cons (dg_name 4 sc_State_velocity.nd) (dgs_cons (dg_tup rfl (dgs_cons (dg_name 5 sc_State_velocity.nd) (dgs_cons (dg_name 6 sc_State_velocity.nd) dgs_nil)) (fun ds ρ k h => ((gl_cons gs_nm (gl_cons gs_nm gl_nil)) ds ρ k h).1)) dgs_nil)) (fun ds ρ k h => ((gl_cons gs_nm (gl_cons (gs_tp (gl_cons gs_nm (gl_cons gs_nm gl_nil))) gl_nil)) ds ρ k h).1))⟩) (fun _ _ _ _ _ => ⟨_, dts_nil⟩) (fun _ _ _ _ _ => ⟨_, (de_bin op_mulU rv_mul (de_var 4) (deo (de_var 6)))⟩))))))))
      (dss_one (ds_ret (J1 := []) (de_tup (da_cons (de_var 2) (da_cons (de_var 3) da_nil))))))))) fun _ _ _ _ h => h
theorem sc_State_shifted : FnScope ["self", "by", "dx", "dy", "found", "counts", "x", "y"] ["self", "by"] (defScope s_State_shifted) := ⟨rfl, rfl, rfl, by decide +kernel, rfl, by decide +kernel, by decide +kernel⟩
theorem ok_State_shifted (T : Tx K mg) : FnG P w K mg base 7 T.a_State_shifted (spD K 2 [] G_State_shifted) :=
  okG_of (J := []) (Fd := F_State_shifted) T.F_State_shifted T.b_State_shifted sc_State_shifted rfl (fun cdv A outer s H E hr hgu => by
    have hu1 := hu_of hr
    have hu65 := hu65_of hr
    have hu64 := hu64_of hr
    have hu0 := hu0_of hr
    have hu2 := hu2_of hr
    have tk := takes_of (X := (cxOf (L2.CX P w) P w K mg base ["self", "by", "dx", "dy", "found", "counts", "x", "y"] "State.shifted" (defScope s_State_shifted) T.a_State_shifted cdv A outer s H E)) rfl rfl rfl rfl
    have hp := passes_of (X := (cxOf (L2.CX P w) P w K mg base ["self", "by", "dx", "dy", "found", "counts", "x", "y"] "State.shifted" (defScope s_State_shifted) T.a_State_shifted cdv A outer s H E)) rfl
    exact (dss_cons (ds_asg (de_var 1) (dg_tup rfl (dgs_cons (dg_name 2 sc_State_shifted.nd) (dgs_cons (dg_name 3 sc_State_shifted.nd) dgs_nil)) (fun ds ρ k h => ((gl_cons gs_nm (gl_cons gs_nm gl_nil)) ds ρ k h).1)))
      (dss_cons (dx_setLc 4 ["self", "by", "dx", "dy", "found", "counts", "x", "y"] (defScope s_State_shifted) [("counts", 5), ("x", 6), ("y", 7)] [5, 6, 7] rfl sc_State_shifted.nd (sw_true rfl rfl rfl (by decide +kernel)) (di_seq (de_fld "State" T.ic_State T.cl_State T.na_State_rows (deo (de_var 0)))) (by decide +kernel) (fun _ _ _ _ _ => ⟨_, (dg_tup rfl (dgs_cons (dg_tup rfl (dgs_cons (dg_name 6 sc_State_shifted.nd) (dgs_cons (dg_name 7 sc_State_shifted.nd) dgs_nil)) (fun ds ρ k h => ((gl_cons gs_nm (gl_cons gs_nm gl_nil)) ds ρ k h).1)) (dgs_cons (dg_name 5 sc_State_shifted.nd) dgs_nil)) (fun ds ρ k h => ((gl_cons (gs_tp (gl_cons gs_nm (gl_cons gs_nm gl_nil))) (gl_cons gs_nm gl_nil)) ds ρ k h).1))⟩) (fun _ _ _ _ _ => ⟨_, dts_nil⟩) (fun _ _ _ _ _ => ⟨_, (de_tup (da_cons (de_tup (da_cons (de_bin op_addU rv_add (de_var 6) (deo (de_var 2))) (da_cons (de_bin op_addU rv_add (de_var 7) (deo (de_var 3))) da_nil))) (da_cons (de_var 5) da_nil)))⟩))
      (dss_one (ds_ret (J1 := []) (de_new (dn_makeSn T.mk_State T.ic_State ((ok_State___init__ T).mono (k := 5) (by decide)) hr hgu T.mc_State tk (da_consS (de_fld "State" T.ic_State T.cl_State T.na_State_ground (deo (de_var 0))) (da_consS (de_tup (da_cons (de_bin op_addU rv_add (de_ix (ix_U hu1) rv_ix (de_fld "State" T.ic_State T.cl_State T.na_State_stand (deo (de_var 0))) (deo de_int)) (deo (de_var 2))) (da_cons (de_bin op_addU rv_add (de_ix (ix_U hu1) rv_ix (de_fld "State" T.ic_State T.cl_State T.na_State_stand (deo (de_var 0))) (deo de_int)) (deo (de_var 3))) da_nil))) (da_star (de_var 4))))))))))) fun _ _ _ _ h => h
theorem sc_l_moved : FnScope ["_law_due", "_law_by", "_law_place_here", "_law_counts_here"] ["_law_due", "_law_by"] (defScope s_l_moved) := ⟨rfl, rfl, rfl, by decide +kernel, rfl, by decide +kernel, by decide +kernel⟩
theorem ok_l_moved (T : Tx K mg) : FnG P w K mg base 1 T.a_l_moved (spD K 2 [] G_l_moved) :=
  okG_of (J := []) (Fd := F_l_moved) T.F_l_moved T.b_l_moved sc_l_moved rfl (fun cdv A outer s H E hr hgu => by
    have hu1 := hu_of hr
    have hu65 := hu65_of hr
    have hu64 := hu64_of hr
    have hu0 := hu0_of hr
    have hu2 := hu2_of hr
    have tk := takes_of (X := (cxOf (L2.CX P w) P w K mg base ["_law_due", "_law_by", "_law_place_here", "_law_counts_here"] "_law_moved" (defScope s_l_moved) T.a_l_moved cdv A outer s H E)) rfl rfl rfl rfl
    have hp := passes_of (X := (cxOf (L2.CX P w) P w K mg base ["_law_due", "_law_by", "_law_place_here", "_law_counts_here"] "_law_moved" (defScope s_l_moved) T.a_l_moved cdv A outer s H E)) rfl
    exact (dss_one (ds_ret (J1 := []) (de_callTy call_tuple_of rv_tuple T.n_tuple (by rfl) (dao_one (deo (de_callB (cr_sortIL hu2) rv_sortI T.n_sorted (by rfl) (dao_one (deo (de_new (dn_of (dx_lc ["_law_due", "_law_by", "_law_place_here", "_law_counts_here"] (defScope s_l_moved) [("_law_place_here", 2), ("_law_counts_here", 3)] [2, 3] rfl sc_l_moved.nd (di_seq (de_var 0)) (by decide +kernel) (fun _ _ _ _ _ => ⟨_, (dg_tup rfl (dgs_cons (dg_name 2 sc_l_moved.nd) (dgs_cons (dg_name 3 sc_l_moved.nd) dgs_nil)) (fun ds ρ k h => ((gl_cons gs_nm (gl_cons gs_nm gl_nil)) ds ρ k h).1))⟩) (fun _ _ _ _ _ => ⟨_, dts_nil⟩) (fun _ _ _ _ _ => ⟨_, (de_tup (da_cons (de_tup (da_cons (de_bin op_addU rv_add (de_ix (ix_U hu1) rv_ix (de_var 2) (deo de_int)) (deo (de_ix (ix_U hu1) rv_ix (de_var 1) (deo de_int)))) (da_cons (de_bin op_addU rv_add (de_ix (ix_U hu1) rv_ix (de_var 2) (deo de_int)) (deo (de_ix (ix_U hu1) rv_ix (de_var 1) (deo de_int)))) da_nil))) (da_cons (de_var 3) da_nil)))⟩))))))))))))) fun _ _ _ _ h => h
theorem sc_State_empty : FnScope ["cls", "field", "position"] ["cls", "field", "position"] (defScope s_State_empty) := ⟨rfl, rfl, rfl, by decide +kernel, rfl, by decide +kernel, by decide +kernel⟩
theorem ok_State_empty (T : Tx K mg) : FnG P w K mg base 7 T.a_State_empty (spD K 2 [] G_State_empty) :=
  okGD_of (J := []) (Fd := F_State_empty) T.F_State_empty T.u_State_empty T.b_State_empty sc_State_empty rfl (fun cdv A outer s H E hr hgu => by
    have hu1 := hu_of hr
    have hu65 := hu65_of hr
    have hu64 := hu64_of hr
    have hu0 := hu0_of hr
    have hu2 := hu2_of hr
    have tk := takes_of (X := (cxOf (L2.CX P w) P w K mg base ["cls", "field", "position"] "State.empty" (defScope s_State_empty) T.a_State_empty cdv A outer s H E)) rfl rfl rfl rfl
    have hp := passes_of (X := (cxOf (L2.CX P w) P w K mg base ["cls", "field", "position"] "State.empty" (defScope s_State_empty) T.a_State_empty cdv A outer s H E)) rfl
    exact (dss_one (ds_ret (J1 := []) (de_new (dn_makeL 0 T.mk_State T.ic_State ((ok_State___init__ T).mono (k := 5) (by decide)) hr hgu tk (da_cons (de_var 1) (da_cons (de_var 2) da_nil))))))) fun _ _ _ _ h => h
theorem ok_State_empty_fl (T : Tx K mg) : FnG P w K mg base 7 T.a_State_empty (spD K 3 [] G_State_empty_fl) :=
  okG_of (J := []) (Fd := F_State_empty) T.F_State_empty T.bf_State_empty sc_State_empty rfl (fun cdv A outer s H E hr hgu => by
    have hu1 := hu_of hr
    have hu65 := hu65_of hr
    have hu64 := hu64_of hr
    have hu0 := hu0_of hr
    have hu2 := hu2_of hr
    have tk := takes_of (X := (cxOf (L2.CX P w) P w K mg base ["cls", "field", "position"] "State.empty" (defScope s_State_empty) T.a_State_empty cdv A outer s H E)) rfl rfl rfl rfl
    have hp := passes_of (X := (cxOf (L2.CX P w) P w K mg base ["cls", "field", "position"] "State.empty" (defScope s_State_empty) T.a_State_empty cdv A outer s H E)) rfl
    exact (dss_one (ds_ret (J1 := []) (de_new (dn_makeL 0 T.mk_State T.ic_State ((ok_State___init__ T).mono (k := 5) (by decide)) hr hgu tk (da_cons (de_var 1) (da_cons (de_var 2) da_nil))))))) fun _ _ _ _ h => h
theorem sc_l_right : FnScope ["_law_pulls_here", "_law_spot", "_law_heap", "_law_by", "_law_ground", "_law_before", "_law_state", "_law_due", "_law_some", "_law_one", "_law_far", "_law_later", "_law_blank", "_law_place_here", "_law_counts_here", "_law_a", "_law_b"] ["_law_pulls_here", "_law_spot", "_law_heap", "_law_by"] (defScope s_l_right) := ⟨rfl, rfl, rfl, by decide +kernel, rfl, by decide +kernel, by decide +kernel⟩
theorem ok_l_right (T : Tx K mg) : FnG P w K mg base 8 T.a_l_right (spD K 4 [] G_l_right) :=
  okG_of (J := []) (Fd := F_l_right) T.F_l_right T.b_l_right sc_l_right rfl (fun cdv A outer s H E hr hgu => by
    have hu1 := hu_of hr
    have hu65 := hu65_of hr
    have hu64 := hu64_of hr
    have hu0 := hu0_of hr
    have hu2 := hu2_of hr
    have tk := takes_of (X := (cxOf (L2.CX P w) P w K mg base ["_law_pulls_here", "_law_spot", "_law_heap", "_law_by", "_law_ground", "_law_before", "_law_state", "_law_due", "_law_some", "_law_one", "_law_far", "_law_later", "_law_blank", "_law_place_here", "_law_counts_here", "_law_a", "_law_b"] "_law_right" (defScope s_l_right) T.a_l_right cdv A outer s H E)) rfl rfl rfl rfl
    have hp := passes_of (X := (cxOf (L2.CX P w) P w K mg base ["_law_pulls_here", "_law_spot", "_law_heap", "_law_by", "_law_ground", "_law_before", "_law_state", "_law_due", "_law_some", "_law_one", "_law_far", "_law_later", "_law_blank", "_law_place_here", "_law_counts_here", "_law_a", "_law_b"] "_law_right" (defScope s_l_right) T.a_l_right cdv A outer s H E)) rfl
    exact (dss_cons (ds_set 4 sc_l_right.nd (de_callG ((ok_l_field T).mono (k := 7) (by decide)) hr hgu T.m_l_field T.k_l_field tk (do_val (de_var 0) do_nil)))
      (dss_cons (ds_set 5 sc_l_right.nd (de_callB (call_reprD hgu hu65) rv_repr T.n_repr (by rfl) (dao_one (deo (de_var 2)))))
      (dss_cons (ds_par 6 7 rfl sc_l_right.nd (da_cons (de_callG ((ok_l_made T).mono (k := 7) (by decide)) hr hgu T.m_l_made T.k_l_made tk (do_val (de_var 4) (do_val (de_var 1) (do_val (de_var 2) do_nil)))) (da_cons (de_callG ((ok_l_laid T).mono (k := 7) (by decide)) hr hgu T.m_l_laid T.k_l_laid tk (do_val (de_var 2) do_nil)) da_nil)))
      (dss_cons (ds_if (J := []) (dt_w (dw_or (dt_cmp (op_neU hu64) rv_neU (de_callB (call_reprD hgu hu65) rv_repr T.n_repr (by rfl) (dao_one (deo (de_propG T.ic_State T.cl_State T.pr_State_parts ((ok_State_parts T).mono (k := 6) (by decide)) hr hgu (de_var 6))))) (deo (de_callB (call_reprD hgu hu65) rv_repr T.n_repr (by rfl) (dao_one (deo (de_tup (da_cons (de_var 1) (da_cons (de_var 7) da_nil)))))))) (dw_or1 (dt_cmp (op_neU hu64) rv_neU (de_callB (call_reprD hgu hu65) rv_repr T.n_repr (by rfl) (dao_one (deo (de_tup (da_cons (de_propG T.ic_State T.cl_State T.pr_State_position ((ok_State_position T).mono (k := 6) (by decide)) hr hgu (de_var 6)) (da_cons (de_propG T.ic_State T.cl_State T.pr_State_pieces ((ok_State_pieces T).mono (k := 6) (by decide)) hr hgu (de_var 6)) da_nil)))))) (deo (de_callB (call_reprD hgu hu65) rv_repr T.n_repr (by rfl) (dao_one (deo (de_tup (da_cons (de_var 1) (da_cons (de_var 7) da_nil)))))))))))
      (dss_one (ds_ret (J1 := []) de_bl))
      dss_nil)
      (dss_cons (ds_if (J := []) (dt_w (dw_or (dt_cmp (op_neU hu64) rv_neU (de_callB (call_reprD hgu hu65) rv_repr T.n_repr (by rfl) (dao_one (deo (de_lenOwn T.ic_State T.gs_State___len__ T.gi_State___len__ ((ok_State___len__ T).mono (k := 6) (by decide)) hr hgu T.n_len (de_var 6))))) (deo (de_callB (call_reprD hgu hu65) rv_repr T.n_repr (by rfl) (dao_one (deo (de_callB call_lenU rv_len T.n_len (by rfl) (dao_one (deo (de_var 7))))))))) (dw_or1 (dt_not (dt_eqOwn false (op_eqOwn T.ef_Field ((ok_Field___eq__ T).mono (k := 6) (by decide)) hr hgu) T.ic_Field (de_propG T.ic_State T.cl_State T.pr_State_field ((ok_State_field T).mono (k := 6) (by decide)) hr hgu (de_var 6)) (de_var 4))))))
      (dss_one (ds_ret (J1 := []) de_bl))
      dss_nil)
      (dss_cons (ds_set 8 sc_l_right.nd (de_bin op_addU rv_add (de_new (dn_of (dx_lc ["_law_pulls_here", "_law_spot", "_law_heap", "_law_by", "_law_ground", "_law_before", "_law_state", "_law_due", "_law_some", "_law_one", "_law_far", "_law_later", "_law_blank", "_law_place_here", "_law_counts_here", "_law_a", "_law_b"] (defScope s_l_right) [("_law_place_here", 13), ("_law_counts_here", 14)] [13, 14] rfl sc_l_right.nd (di_seq (de_var 2)) (by decide +kernel) (fun _ _ _ _ _ => ⟨_, (dg_tup rfl (dgs_cons (dg_name 13 sc_l_right.nd) (dgs_cons (dg_name 14 sc_l_right.nd) dgs_nil)) (fun ds ρ k h => ((gl_cons gs_nm (gl_cons gs_nm gl_nil)) ds ρ k h).1))⟩) (fun _ _ _ _ _ => ⟨_, dts_nil⟩) (fun _ _ _ _ _ => ⟨_, (de_var 13)⟩)))) (deo (de_new (dn_lst (da_cons (de_var 1) (da_cons (de_tup (da_cons de_int (da_cons de_int da_nil))) (da_cons (de_var 3) (da_cons (de_tup (da_cons (de_bin op_addU rv_add (de_ix (ix_U hu1) rv_ix (de_var 1) (deo de_int)) (deo de_int)) (da_cons (de_ix (ix_U hu1) rv_ix (de_var 1) (deo de_int)) da_nil))) da_nil)))))))))
      (dss_cons (ds_if (J := []) (dt_not (dt_val (de_callG ((ok_l_places_right T).mono (k := 7) (by decide)) hr hgu T.m_l_places_right T.k_l_places_right tk (do_val (de_var 6) (do_val (de_var 7) (do_val (de_var 0) (do_val (de_var 8) do_nil)))))))
      (dss_one (ds_ret (J1 := []) de_bl))
      dss_nil)
      (dss_cons (ds_if (J := []) (dt_w (dw_or (dt_not (dt_eqOwn false (op_eqOwn T.ef_State ((ok_State___eq__ T).mono (k := 6) (by decide)) hr hgu) T.ic_State (de_var 6) (de_callG ((ok_l_made T).mono (k := 7) (by decide)) hr hgu T.m_l_made T.k_l_made tk (do_val (de_var 4) (do_val (de_var 1) (do_val (de_back (de_var 2) (do_some (de_un un_neg rv_neg (deo de_int)))) do_nil)))))) (dw_or (dt_eqOwn false (op_eqOwn T.ef_State ((ok_State___eq__ T).mono (k := 6) (by decide)) hr hgu) T.ic_State (de_var 6) (de_tup (da_cons (de_var 1) (da_cons (de_var 7) da_nil)))) (dw_or1 (dt_eqOwn false (op_eqOwn T.ef_State ((ok_State___eq__ T).mono (k := 6) (by decide)) hr hgu) T.ic_State (de_var 6) de_non)))))
      (dss_one (ds_ret (J1 := []) de_bl))
      dss_nil)
      (dss_cons (ds_set 9 sc_l_right.nd (de_bin op_addU rv_add (de_bin op_mulZ rv_mulZ (de_tup (da_cons de_int da_nil)) (deo (de_bin op_sub rv_sub (de_callB call_lenU rv_len T.n_len (by rfl) (dao_one (deo (de_var 0)))) (deo de_int)))) (deo (de_tup (da_cons de_int da_nil)))))
      (dss_cons (ds_if (J := []) (dt_w (dw_and (dt_eqOwn false (op_eqOwn T.ef_State ((ok_State___eq__ T).mono (k := 6) (by decide)) hr hgu) T.ic_State (de_var 6) (de_callG ((ok_l_made T).mono (k := 7) (by decide)) hr hgu T.m_l_made T.k_l_made tk (do_val (de_var 4) (do_val (de_var 1) (do_val (de_bin op_addU rv_add (de_cut (de_var 2) do_none (do_some de_int)) (deo (de_new (dn_lst (da_cons (de_tup (da_cons (de_var 3) (da_cons (de_var 9) da_nil))) da_nil))))) do_nil))))) (dw_and1 (dt_cmp (op_ltU hu0) rv_lt (de_callB call_lenU rv_len T.n_len (by rfl) (dao_one (deo (de_var 2)))) (deo de_int)))))
      (dss_one (ds_ret (J1 := []) de_bl))
      dss_nil)
      (dss_cons (ds_if (J := []) (dt_eqOwn false (op_eqOwn T.ef_State ((ok_State___eq__ T).mono (k := 6) (by decide)) hr hgu) T.ic_State (de_var 6) (de_callG ((ok_l_made T).mono (k := 7) (by decide)) hr hgu T.m_l_made T.k_l_made tk (do_val (de_var 4) (do_val (de_tup (da_cons (de_ix (ix_U hu1) rv_ix (de_var 1) (deo de_int)) (da_cons (de_bin op_addU rv_add (de_ix (ix_U hu1) rv_ix (de_var 1) (deo de_int)) (deo de_int)) da_nil))) (do_val (de_var 2) do_nil)))))
      (dss_one (ds_ret (J1 := []) de_bl))
      dss_nil)
      (dss_cons (ds_set 10 sc_l_right.nd (de_callG ((ok_l_made T).mono (k := 7) (by decide)) hr hgu T.m_l_made T.k_l_made tk (do_val (de_callG ((ok_l_field T).mono (k := 7) (by decide)) hr hgu T.m_l_field T.k_l_field tk (do_val (de_callTy call_tuple_of rv_tuple T.n_tuple (by rfl) (dao_one (deo (de_new (dn_of (dx_lc ["_law_pulls_here", "_law_spot", "_law_heap", "_law_by", "_law_ground", "_law_before", "_law_state", "_law_due", "_law_some", "_law_one", "_law_far", "_law_later", "_law_blank", "_law_place_here", "_law_counts_here", "_law_a", "_law_b"] (defScope s_l_right) [("_law_a", 15), ("_law_b", 16)] [15, 16] rfl sc_l_right.nd (di_seq (de_var 0)) (by decide +kernel) (fun _ _ _ _ _ => ⟨_, (dg_tup rfl (dgs_cons (dg_name 15 sc_l_right.nd) (dgs_cons (dg_name 16 sc_l_right.nd) dgs_nil)) (fun ds ρ k h => ((gl_cons gs_nm (gl_cons gs_nm gl_nil)) ds ρ k h).1))⟩) (fun _ _ _ _ _ => ⟨_, dts_nil⟩) (fun _ _ _ _ _ => ⟨_, (de_tup (da_cons (de_bin op_sub rv_sub de_int (deo (de_var 15))) (da_cons (de_bin op_sub rv_sub de_int (deo (de_var 16))) da_nil)))⟩))))))) do_nil)) (do_val (de_var 1) (do_val (de_var 2) do_nil)))))
      (dss_cons (ds_if (J := []) (dt_w (dw_or (dt_eqOwn false (op_eqOwn T.ef_State ((ok_State___eq__ T).mono (k := 6) (by decide)) hr hgu) T.ic_State (de_var 6) (de_var 10)) (dw_or1 (dt_cmp (op_neU hu64) rv_neU (de_propG T.ic_State T.cl_State T.pr_State_velocity ((ok_State_velocity T).mono (k := 6) (by decide)) hr hgu (de_var 10)) (deo (de_tup (da_cons (de_bin op_sub rv_sub de_int (deo (de_ix (ix_U hu1) rv_ix (de_propG T.ic_State T.cl_State T.pr_State_velocity ((ok_State_velocity T).mono (k := 6) (by decide)) hr hgu (de_var 6)) (deo de_int)))) (da_cons (de_bin op_sub rv_sub de_int (deo (de_ix (ix_U hu1) rv_ix (de_propG T.ic_State T.cl_State T.pr_State_velocity ((ok_State_velocity T).mono (k := 6) (by decide)) hr hgu (de_var 6)) (deo de_int)))) da_nil))))))))
      (dss_one (ds_ret (J1 := []) de_bl))
      dss_nil)
      (dss_cons (ds_if (J := []) (dt_cmp (op_neU hu64) rv_neU (de_eqOwn T.ic_State T.ef_State ((ok_State___eq__ T).mono (k := 6) (by decide)) hr hgu (de_var 6) (de_callG ((ok_l_made T).mono (k := 7) (by decide)) hr hgu T.m_l_made T.k_l_made tk (do_val (de_new (dn_makeS T.mk_Field T.ic_Field ((ok_Field___init__ T).mono (k := 6) (by decide)) hr hgu T.mc_Field tk (da_cons (de_tup (da_cons de_int (da_cons de_int da_nil))) da_nil))) (do_val (de_var 1) (do_val (de_new (dn_lst da_nil)) do_nil))))) (deo (de_and (de_cmp (op_eqU hu64) rv_eqU (de_var 0) (deo (de_tup (da_cons (de_tup (da_cons de_int (da_cons de_int da_nil))) da_nil)))) (de_one (de_cmp (op_eqU hu64) rv_eqU (de_var 7) (deo (de_tup da_nil)))))))
      (dss_one (ds_ret (J1 := []) de_bl))
      dss_nil)
      (dss_cons (ds_set 11 sc_l_right.nd (de_methG T.ic_State T.cl_State T.mt_State_shifted ((ok_State_shifted T).mono (k := 7) (by decide)) hr hgu tk (de_var 6) (do_val (de_var 3) do_nil)))
      (dss_cons (ds_if (J := []) (dt_cmp (op_neU hu64) rv_neU (de_callB (call_reprD hgu hu65) rv_repr T.n_repr (by rfl) (dao_one (deo (de_propG T.ic_State T.cl_State T.pr_State_parts ((ok_State_parts T).mono (k := 6) (by decide)) hr hgu (de_var 11))))) (deo (de_callB (call_reprD hgu hu65) rv_repr T.n_repr (by rfl) (dao_one (deo (de_tup (da_cons (de_tup (da_cons (de_bin op_addU rv_add (de_ix (ix_U hu1) rv_ix (de_var 1) (deo de_int)) (deo (de_ix (ix_U hu1) rv_ix (de_var 3) (deo de_int)))) (da_cons (de_bin op_addU rv_add (de_ix (ix_U hu1) rv_ix (de_var 1) (deo de_int)) (deo (de_ix (ix_U hu1) rv_ix (de_var 3) (deo de_int)))) da_nil))) (da_cons (de_callG ((ok_l_moved T).mono (k := 7) (by decide)) hr hgu T.m_l_moved T.k_l_moved tk (do_val (de_var 7) (do_val (de_var 3) do_nil))) da_nil))))))))
      (dss_one (ds_ret (J1 := []) de_bl))
      dss_nil)
      (dss_cons (ds_set 12 sc_l_right.nd (de_cmeth T.ic_State T.mc_State T.cr_State T.cm_State_empty ((ok_State_empty_fl T).mono (k := 7) (by decide)) hr hgu tk (do_val (de_var 4) (do_val (de_var 1) do_nil))))
      (dss_one (ds_ret (J1 := []) (de_and (de_cmp (op_eqU hu64) rv_eqU (de_propG T.ic_State T.cl_State T.pr_State_parts ((ok_State_parts T).mono (k := 6) (by decide)) hr hgu (de_var 12)) (deo (de_tup (da_cons (de_var 1) (da_cons (de_tup da_nil) da_nil))))) (de_and (de_cmp (op_eqU hu64) rv_eqU (de_lenOwn T.ic_State T.gs_State___len__ T.gi_State___len__ ((ok_State___len__ T).mono (k := 6) (by decide)) hr hgu T.n_len (de_var 12)) (deo de_int)) (de_and (de_cmp (op_eqU hu64) rv_eqU (de_callB (call_reprD hgu hu65) rv_repr T.n_repr (by rfl) (dao_one (deo (de_var 2)))) (deo (de_var 5))) (de_one (de_cmp (op_eqU hu64) rv_eqU (de_propG T.ic_State T.cl_State T.pr_State_parts ((ok_State_parts T).mono (k := 6) (by decide)) hr hgu (de_var 6)) (deo (de_tup (da_cons (de_var 1) (da_cons (de_var 7) da_nil))))))))))))))))))))))))))))) fun _ _ _ _ h => h
theorem sc_law : FnScope ["_law_script", "_law_pen_here", "_law_turn", "_law_pulls_here", "_law_spot", "_law_heap", "_law_by"] ["_law_script"] (defScope s_law) := ⟨rfl, rfl, rfl, by decide +kernel, rfl, by decide +kernel, by decide +kernel⟩
theorem ok_law {f : Addr} {fd : FuncData} (T : Tx K mg) (F : FunG K "law" "law" s_law f fd) (B : Binds K fd ["_law_script"] []) : FnG P w K mg base 9 f (spD K 1 [] G_law) :=
  okG_of (J := [1]) (Fd := F_law) F B sc_law rfl (fun cdv A outer s H E hr hgu => by
    have hu1 := hu_of hr
    have hu65 := hu65_of hr
    have hu64 := hu64_of hr
    have hu0 := hu0_of hr
    have hu2 := hu2_of hr
    have tk := takes_of (X := (cxOf (L2.CX P w) P w K mg base ["_law_script", "_law_pen_here", "_law_turn", "_law_pulls_here", "_law_spot", "_law_heap", "_law_by"] "law" (defScope s_law) f cdv A outer s H E)) rfl rfl rfl rfl
    have hp := passes_of (X := (cxOf (L2.CX P w) P w K mg base ["_law_script", "_law_pen_here", "_law_turn", "_law_pulls_here", "_law_spot", "_law_heap", "_law_by"] "law" (defScope s_law) f cdv A outer s H E)) rfl
    exact (dss_cons (ds_setN 1 sc_law.nd (dn_callG ((ok_l_pen T).mono (k := 8) (by decide)) hr hgu T.m_l_pen T.k_l_pen tk (do_val (de_var 0) do_nil)))
      (dss_cons (ds_for hp rfl (J := [1]) (di_range1 T.n_range (da_cons de_int da_nil)) (dg_name 2 sc_law.nd)
      (dss_cons (ds_asg (de_callG ((ok_l_deal T).mono (k := 8) (by decide)) hr hgu T.m_l_deal T.k_l_deal tk (do_own 1 (do_val de_int (do_val de_int do_nil)))) (dg_tup rfl (dgs_cons (dg_name 3 sc_law.nd) (dgs_cons (dg_name 4 sc_law.nd) (dgs_cons (dg_name 5 sc_law.nd) dgs_nil))) (fun ds ρ k h => ((gl_cons gs_nm (gl_cons gs_nm (gl_cons gs_nm gl_nil))) ds ρ k h).1)))
      (dss_cons (ds_set 6 sc_law.nd (de_callG ((ok_l_place T).mono (k := 8) (by decide)) hr hgu T.m_l_place T.k_l_place tk (do_own 1 (do_val de_int do_nil))))
      (dss_one (ds_if (J := [1]) (dt_not (dt_val (de_callG ((ok_l_right T).mono (k := 8) (by decide)) hr hgu T.m_l_right T.k_l_right tk (do_val (de_var 3) (do_val (de_var 4) (do_val (de_var 5) (do_val (de_var 6) do_nil)))))))
      (dss_one (ds_ret (J1 := [1]) de_bl))
      dss_nil)))))
      (dss_one (ds_ret (J1 := [1]) (de_cmp (op_eqU hu64) rv_eqU (de_propG T.ic_State T.cl_State T.pr_State_parts ((ok_State_parts T).mono (k := 7) (by decide)) hr hgu (de_cmeth T.ic_State T.mc_State T.cr_State T.cm_State_empty ((ok_State_empty T).mono (k := 8) (by decide)) hr hgu tk (do_val (de_new (dn_makeS T.mk_Field T.ic_Field ((ok_Field___init__ T).mono (k := 7) (by decide)) hr hgu T.mc_Field tk (da_cons (de_tup (da_cons de_int (da_cons de_int da_nil))) da_nil))) do_nil))) (deo (de_tup (da_cons (de_tup (da_cons de_int (da_cons de_int da_nil))) (da_cons (de_tup da_nil) da_nil)))))))))) fun _ _ _ _ h => h
end
theorem all_mk {l : PySem.W.OpenLaw} {w : World} {K : PySem.W.Frag} {h : Heap} {mg : Str → Option Value} {fa : Addr} (X : K.In h) (G : h.Ns mainGlobals mg) (hfa : mg "law" = some (.ref fa))
    {C0 : Addr}
    {C1 : Addr}
    {f0 : Addr} {od0 an0 : Option Addr} {sl0 : Array (Option Value)} {oc0 kV0 dc0 pm0 cd0 ct0 : Value}
    {f1 : Addr} {od1 an1 : Option Addr} {sl1 : Array (Option Value)} {oc1 kV1 dc1 pm1 cd1 ct1 : Value}
    {f2 : Addr} {od2 an2 : Option Addr} {sl2 : Array (Option Value)} {oc2 kV2 dc2 pm2 cd2 ct2 : Value}
    {f3 : Addr} {od3 an3 : Option Addr} {sl3 : Array (Option Value)} {oc3 kV3 dc3 pm3 cd3 ct3 : Value}
    {f4 : Addr} {od4 an4 : Option Addr} {sl4 : Array (Option Value)} {oc4 kV4 dc4 pm4 cd4 ct4 : Value}
    {f5 : Addr} {od5 an5 : Option Addr} {sl5 : Array (Option Value)} {oc5 kV5 dc5 pm5 cd5 ct5 : Value}
    {f6 : Addr} {od6 an6 : Option Addr} {sl6 : Array (Option Value)} {oc6 kV6 dc6 pm6 cd6 ct6 : Value}
    {f7 : Addr} {od7 an7 : Option Addr} {sl7 : Array (Option Value)} {oc7 kV7 dc7 pm7 cd7 ct7 : Value}
    {f8 : Addr} {od8 an8 : Option Addr} {sl8 : Array (Option Value)} {oc8 kV8 dc8 pm8 cd8 ct8 : Value}
    {f9 : Addr} {od9 an9 : Option Addr} {sl9 : Array (Option Value)} {oc9 kV9 dc9 pm9 cd9 ct9 : Value}
    {f10 : Addr} {od10 an10 : Option Addr} {sl10 : Array (Option Value)} {oc10 kV10 dc10 pm10 cd10 ct10 : Value}
    {f11 : Addr} {od11 an11 : Option Addr} {sl11 : Array (Option Value)} {oc11 kV11 dc11 pm11 cd11 ct11 : Value}
    {q11 : Addr} {rr11 : List Value}
    {f12 : Addr} {od12 an12 : Option Addr} {sl12 : Array (Option Value)} {oc12 kV12 dc12 pm12 cd12 ct12 : Value}
    {f13 : Addr} {od13 an13 : Option Addr} {sl13 : Array (Option Value)} {oc13 kV13 dc13 pm13 cd13 ct13 : Value}
    {f14 : Addr} {od14 an14 : Option Addr} {sl14 : Array (Option Value)} {oc14 kV14 dc14 pm14 cd14 ct14 : Value}
    {f15 : Addr} {od15 an15 : Option Addr} {sl15 : Array (Option Value)} {oc15 kV15 dc15 pm15 cd15 ct15 : Value}
    {f16 : Addr} {od16 an16 : Option Addr} {sl16 : Array (Option Value)} {oc16 kV16 dc16 pm16 cd16 ct16 : Value}
    {f17 : Addr} {od17 an17 : Option Addr} {sl17 : Array (Option Value)} {oc17 kV17 dc17 pm17 cd17 ct17 : Value}
    {f18 : Addr} {od18 an18 : Option Addr} {sl18 : Array (Option Value)} {oc18 kV18 dc18 pm18 cd18 ct18 : Value}
    {f19 : Addr} {od19 an19 : Option Addr} {sl19 : Array (Option Value)} {oc19 kV19 dc19 pm19 cd19 ct19 : Value}
    {q19 : Addr} {rr19 : List Value}
    {f20 : Addr} {od20 an20 : Option Addr} {sl20 : Array (Option Value)} {oc20 kV20 dc20 pm20 cd20 ct20 : Value}
    {q20 : Addr} {rr20 : List Value}
    {f21 : Addr} {od21 an21 : Option Addr} {sl21 : Array (Option Value)} {oc21 kV21 dc21 pm21 cd21 ct21 : Value}
    {q21 : Addr} {rr21 : List Value}
    {f22 : Addr} {od22 an22 : Option Addr} {sl22 : Array (Option Value)} {oc22 kV22 dc22 pm22 cd22 ct22 : Value}
    {f23 : Addr} {od23 an23 : Option Addr} {sl23 : Array (Option Value)} {oc23 kV23 dc23 pm23 cd23 ct23 : Value}
    {f24 : Addr} {od24 an24 : Option Addr} {sl24 : Array (Option Value)} {oc24 kV24 dc24 pm24 cd24 ct24 : Value}
    {q24 : Addr} {rr24 : List Value}
    {f25 : Addr} {od25 an25 : Option Addr} {sl25 : Array (Option Value)} {oc25 kV25 dc25 pm25 cd25 ct25 : Value}
    {f26 : Addr} {od26 an26 : Option Addr} {sl26 : Array (Option Value)} {oc26 kV26 dc26 pm26 cd26 ct26 : Value}
    {f27 : Addr} {od27 an27 : Option Addr} {sl27 : Array (Option Value)} {oc27 kV27 dc27 pm27 cd27 ct27 : Value}
    {f28 : Addr} {od28 an28 : Option Addr} {sl28 : Array (Option Value)} {oc28 kV28 dc28 pm28 cd28 ct28 : Value}
    {f29 : Addr} {od29 an29 : Option Addr} {sl29 : Array (Option Value)} {oc29 kV29 dc29 pm29 cd29 ct29 : Value}
    {q29 : Addr} {rr29 : List Value}
    {f30 : Addr} {od30 an30 : Option Addr} {sl30 : Array (Option Value)} {oc30 kV30 dc30 pm30 cd30 ct30 : Value}
    {q30 : Addr} {rr30 : List Value}
    {f31 : Addr} {od31 an31 : Option Addr} {sl31 : Array (Option Value)} {oc31 kV31 dc31 pm31 cd31 ct31 : Value}
    {f32 : Addr} {od32 an32 : Option Addr} {sl32 : Array (Option Value)} {oc32 kV32 dc32 pm32 cd32 ct32 : Value}
    {f33 : Addr} {od33 an33 : Option Addr} {sl33 : Array (Option Value)} {oc33 kV33 dc33 pm33 cd33 ct33 : Value}
    {q33 : Addr} {rr33 : List Value}
    {f34 : Addr} {od34 an34 : Option Addr} {sl34 : Array (Option Value)} {oc34 kV34 dc34 pm34 cd34 ct34 : Value}
    {f35 : Addr} {od35 an35 : Option Addr} {sl35 : Array (Option Value)} {oc35 kV35 dc35 pm35 cd35 ct35 : Value}
    (aC0 : PySem.W.nsIn K mainGlobals "Field" = some (some (.ref C0)))
    (pg0 : PySem.W.plainGet K C0 Str.empty = true)
    (hd0 : PySem.W.hasDictIn K C0 = true)
    (po0 : PySem.W.plainOver K C0 = true)
    (sa0 : PySem.W.findIn K (.ref C0) "__setattr__" = some (some (.builtin "object.__setattr__")))
    (mk0 : PySem.W.makesIn K C0 = true)
    (kc0 : PySem.W.keepIn K (.ref C0) = true)
    (rd0 : PySem.W.readsIn K C0 (.type "type") = true)
    (gt0 : PySem.W.specialIn K (.ref C0) "__getattribute__" = some (some (.builtin "type.__getattribute__")))
    {tk0_GREATEST : Tok}
    (cv0_GREATEST : PySem.W.findCls K (.ref C0) (.type "type") "GREATEST" = some (.val (.int 9 tk0_GREATEST)))
    {tk0_MOST_KINDS : Tok}
    (cv0_MOST_KINDS : PySem.W.findCls K (.ref C0) (.type "type") "MOST_KINDS" = some (.val (.int 4 tk0_MOST_KINDS)))
    (mo0 : PySem.W.mroIn K C0 (.type "object") = some true)
    (ne0 : PySem.W.findIn K (.ref C0) "__ne__" = some (some (.builtin "object.__ne__")))
    (mN0 : PySem.W.mroIn K C0 (.type "NoneType") = some false)
    (mI0 : PySem.W.mroIn K C0 (.type "int") = some false)
    (mT0 : PySem.W.mroIn K C0 (.type "tuple") = some false)
    (qa0 : PySem.W.findIn K (.ref C0) "__class__" = some (some (.builtin "object.__class__")))
    (qn0 : PySem.W.specialIn K (.builtin "object.__class__") "__get__" = some (some (.builtin "getset_descriptor.__get__")))
    (qt0 : PySem.W.takesIn K (.builtin "object.__class__") = some true)
    (kN0 : PySem.W.kitOne K (.type "NoneType") (.ref C0) = some false)
    (kI0 : PySem.W.kitOne K (.type "int") (.ref C0) = some false)
    (kT0 : PySem.W.kitOne K (.type "tuple") (.ref C0) = some false)
    (na0_vectors : PySem.W.findIn K (.ref C0) "vectors" = some none)
    (aC1 : PySem.W.nsIn K mainGlobals "State" = some (some (.ref C1)))
    (pg1 : PySem.W.plainGet K C1 Str.empty = true)
    (hd1 : PySem.W.hasDictIn K C1 = true)
    (po1 : PySem.W.plainOver K C1 = true)
    (sa1 : PySem.W.findIn K (.ref C1) "__setattr__" = some (some (.builtin "object.__setattr__")))
    (mk1 : PySem.W.makesIn K C1 = true)
    (kc1 : PySem.W.keepIn K (.ref C1) = true)
    (rd1 : PySem.W.readsIn K C1 (.type "type") = true)
    (gt1 : PySem.W.specialIn K (.ref C1) "__getattribute__" = some (some (.builtin "type.__getattribute__")))
    (mo1 : PySem.W.mroIn K C1 (.type "object") = some true)
    (ne1 : PySem.W.findIn K (.ref C1) "__ne__" = some (some (.builtin "object.__ne__")))
    (mN1 : PySem.W.mroIn K C1 (.type "NoneType") = some false)
    (mI1 : PySem.W.mroIn K C1 (.type "int") = some false)
    (mT1 : PySem.W.mroIn K C1 (.type "tuple") = some false)
    (qa1 : PySem.W.findIn K (.ref C1) "__class__" = some (some (.builtin "object.__class__")))
    (qn1 : PySem.W.specialIn K (.builtin "object.__class__") "__get__" = some (some (.builtin "getset_descriptor.__get__")))
    (qt1 : PySem.W.takesIn K (.builtin "object.__class__") = some true)
    (kN1 : PySem.W.kitOne K (.type "NoneType") (.ref C1) = some false)
    (kI1 : PySem.W.kitOne K (.type "int") (.ref C1) = some false)
    (kT1 : PySem.W.kitOne K (.type "tuple") (.ref C1) = some false)
    (na1_ground : PySem.W.findIn K (.ref C1) "ground" = some none)
    (na1_key : PySem.W.findIn K (.ref C1) "key" = some none)
    (na1_laid : PySem.W.findIn K (.ref C1) "laid" = some none)
    (na1_rows : PySem.W.findIn K (.ref C1) "rows" = some none)
    (na1_stand : PySem.W.findIn K (.ref C1) "stand" = some none)
    (a0 : PySem.W.nsIn K mainGlobals "_law_pen" = some (some (.ref f0)))
    (l0 : K.lookup f0 = some ⟨oc0, od0, .func (PySem.W.fnOf "_law_pen" "_law_pen" (defArgs s_l_pen) (defBody s_l_pen) (defScope s_l_pen) .none kV0 dc0 pm0 an0 cd0 ct0), sl0⟩)
    (c0 : PySem.W.codeIn K cd0 "_law_pen" = true)
    (k0 : PySem.W.keepIn K (.ref f0) = true)
    (a1 : PySem.W.nsIn K mainGlobals "_law_draw" = some (some (.ref f1)))
    (l1 : K.lookup f1 = some ⟨oc1, od1, .func (PySem.W.fnOf "_law_draw" "_law_draw" (defArgs s_l_draw) (defBody s_l_draw) (defScope s_l_draw) .none kV1 dc1 pm1 an1 cd1 ct1), sl1⟩)
    (c1 : PySem.W.codeIn K cd1 "_law_draw" = true)
    (k1 : PySem.W.keepIn K (.ref f1) = true)
    (a2 : PySem.W.nsIn K mainGlobals "_law_pulls" = some (some (.ref f2)))
    (l2 : K.lookup f2 = some ⟨oc2, od2, .func (PySem.W.fnOf "_law_pulls" "_law_pulls" (defArgs s_l_pulls) (defBody s_l_pulls) (defScope s_l_pulls) .none kV2 dc2 pm2 an2 cd2 ct2), sl2⟩)
    (c2 : PySem.W.codeIn K cd2 "_law_pulls" = true)
    (k2 : PySem.W.keepIn K (.ref f2) = true)
    (a3 : PySem.W.nsIn K mainGlobals "_law_place" = some (some (.ref f3)))
    (l3 : K.lookup f3 = some ⟨oc3, od3, .func (PySem.W.fnOf "_law_place" "_law_place" (defArgs s_l_place) (defBody s_l_place) (defScope s_l_place) .none kV3 dc3 pm3 an3 cd3 ct3), sl3⟩)
    (c3 : PySem.W.codeIn K cd3 "_law_place" = true)
    (k3 : PySem.W.keepIn K (.ref f3) = true)
    (a4 : PySem.W.nsIn K mainGlobals "_law_counts" = some (some (.ref f4)))
    (l4 : K.lookup f4 = some ⟨oc4, od4, .func (PySem.W.fnOf "_law_counts" "_law_counts" (defArgs s_l_counts) (defBody s_l_counts) (defScope s_l_counts) .none kV4 dc4 pm4 an4 cd4 ct4), sl4⟩)
    (c4 : PySem.W.codeIn K cd4 "_law_counts" = true)
    (k4 : PySem.W.keepIn K (.ref f4) = true)
    (a5 : PySem.W.nsIn K mainGlobals "_law_deal" = some (some (.ref f5)))
    (l5 : K.lookup f5 = some ⟨oc5, od5, .func (PySem.W.fnOf "_law_deal" "_law_deal" (defArgs s_l_deal) (defBody s_l_deal) (defScope s_l_deal) .none kV5 dc5 pm5 an5 cd5 ct5), sl5⟩)
    (c5 : PySem.W.codeIn K cd5 "_law_deal" = true)
    (k5 : PySem.W.keepIn K (.ref f5) = true)
    (a6 : PySem.W.nsIn K mainGlobals "is_integer" = some (some (.ref f6)))
    (l6 : K.lookup f6 = some ⟨oc6, od6, .func (PySem.W.fnOf "is_integer" "is_integer" (defArgs s_is_integer) (defBody s_is_integer) (defScope s_is_integer) .none kV6 dc6 pm6 an6 cd6 ct6), sl6⟩)
    (c6 : PySem.W.codeIn K cd6 "is_integer" = true)
    (k6 : PySem.W.keepIn K (.ref f6) = true)
    (a7 : PySem.W.nsIn K mainGlobals "is_pair" = some (some (.ref f7)))
    (l7 : K.lookup f7 = some ⟨oc7, od7, .func (PySem.W.fnOf "is_pair" "is_pair" (defArgs s_is_pair) (defBody s_is_pair) (defScope s_is_pair) .none kV7 dc7 pm7 an7 cd7 ct7), sl7⟩)
    (c7 : PySem.W.codeIn K cd7 "is_pair" = true)
    (k7 : PySem.W.keepIn K (.ref f7) = true)
    (a8 : PySem.W.nsIn K mainGlobals "is_pull" = some (some (.ref f8)))
    (l8 : K.lookup f8 = some ⟨oc8, od8, .func (PySem.W.fnOf "is_pull" "is_pull" (defArgs s_is_pull) (defBody s_is_pull) (defScope s_is_pull) .none kV8 dc8 pm8 an8 cd8 ct8), sl8⟩)
    (c8 : PySem.W.codeIn K cd8 "is_pull" = true)
    (k8 : PySem.W.keepIn K (.ref f8) = true)
    (a9 : PySem.W.findIn K (.ref C0) "__init__" = some (some (.ref f9)))
    (i9 : PySem.W.isFn K (.ref f9) = true)
    (l9 : K.lookup f9 = some ⟨oc9, od9, .func (PySem.W.fnOf "__init__" "Field.__init__" (defArgs s_Field___init__) (defBody s_Field___init__) (defScope s_Field___init__) .none kV9 dc9 pm9 an9 cd9 ct9), sl9⟩)
    (c9 : PySem.W.codeIn K cd9 "Field.__init__" = true)
    (k9 : PySem.W.keepIn K (.ref f9) = true)
    (a10 : PySem.W.nsIn K mainGlobals "_law_field" = some (some (.ref f10)))
    (l10 : K.lookup f10 = some ⟨oc10, od10, .func (PySem.W.fnOf "_law_field" "_law_field" (defArgs s_l_field) (defBody s_l_field) (defScope s_l_field) .none kV10 dc10 pm10 an10 cd10 ct10), sl10⟩)
    (c10 : PySem.W.codeIn K cd10 "_law_field" = true)
    (k10 : PySem.W.keepIn K (.ref f10) = true)
    (a11 : PySem.W.findIn K (.ref C0) "kinds" = some (some (.ref q11)))
    (g11 : PySem.W.specialIn K (.ref q11) "__get__" = some (some (.builtin "property.__get__")))
    (t11 : PySem.W.takesIn K (.ref q11) = some true)
    (r11 : PySem.W.recIn K q11 "property" = some (.ref f11 :: rr11))
    (l11 : K.lookup f11 = some ⟨oc11, od11, .func (PySem.W.fnOf "kinds" "Field.kinds" (defArgs s_Field_kinds) (defBody s_Field_kinds) (defScope s_Field_kinds) .none kV11 dc11 pm11 an11 cd11 ct11), sl11⟩)
    (c11 : PySem.W.codeIn K cd11 "Field.kinds" = true)
    (k11 : PySem.W.keepIn K (.ref f11) = true)
    (a12 : PySem.W.nsIn K mainGlobals "are_counts" = some (some (.ref f12)))
    (l12 : K.lookup f12 = some ⟨oc12, od12, .func (PySem.W.fnOf "are_counts" "are_counts" (defArgs s_are_counts) (defBody s_are_counts) (defScope s_are_counts) .none kV12 dc12 pm12 an12 cd12 ct12), sl12⟩)
    (c12 : PySem.W.codeIn K cd12 "are_counts" = true)
    (k12 : PySem.W.keepIn K (.ref f12) = true)
    (a13 : PySem.W.nsIn K mainGlobals "is_piece" = some (some (.ref f13)))
    (l13 : K.lookup f13 = some ⟨oc13, od13, .func (PySem.W.fnOf "is_piece" "is_piece" (defArgs s_is_piece) (defBody s_is_piece) (defScope s_is_piece) .none kV13 dc13 pm13 an13 cd13 ct13), sl13⟩)
    (c13 : PySem.W.codeIn K cd13 "is_piece" = true)
    (k13 : PySem.W.keepIn K (.ref f13) = true)
    (a14 : PySem.W.nsIn K mainGlobals "added" = some (some (.ref f14)))
    (l14 : K.lookup f14 = some ⟨oc14, od14, .func (PySem.W.fnOf "added" "added" (defArgs s_added) (defBody s_added) (defScope s_added) .none kV14 dc14 pm14 an14 cd14 ct14), sl14⟩)
    (c14 : PySem.W.codeIn K cd14 "added" = true)
    (k14 : PySem.W.keepIn K (.ref f14) = true)
    (a15 : PySem.W.nsIn K mainGlobals "merged" = some (some (.ref f15)))
    (l15 : K.lookup f15 = some ⟨oc15, od15, .func (PySem.W.fnOf "merged" "merged" (defArgs s_merged) (defBody s_merged) (defScope s_merged) .none kV15 dc15 pm15 an15 cd15 ct15), sl15⟩)
    (c15 : PySem.W.codeIn K cd15 "merged" = true)
    (k15 : PySem.W.keepIn K (.ref f15) = true)
    (a16 : PySem.W.findIn K (.ref C1) "__init__" = some (some (.ref f16)))
    (i16 : PySem.W.isFn K (.ref f16) = true)
    (l16 : K.lookup f16 = some ⟨oc16, od16, .func (PySem.W.fnOf "__init__" "State.__init__" (defArgs s_State___init__) (defBody s_State___init__) (defScope s_State___init__) .none kV16 dc16 pm16 an16 cd16 ct16), sl16⟩)
    (c16 : PySem.W.codeIn K cd16 "State.__init__" = true)
    (k16 : PySem.W.keepIn K (.ref f16) = true)
    (a17 : PySem.W.nsIn K mainGlobals "_law_made" = some (some (.ref f17)))
    (l17 : K.lookup f17 = some ⟨oc17, od17, .func (PySem.W.fnOf "_law_made" "_law_made" (defArgs s_l_made) (defBody s_l_made) (defScope s_l_made) .none kV17 dc17 pm17 an17 cd17 ct17), sl17⟩)
    (c17 : PySem.W.codeIn K cd17 "_law_made" = true)
    (k17 : PySem.W.keepIn K (.ref f17) = true)
    (a18 : PySem.W.nsIn K mainGlobals "_law_laid" = some (some (.ref f18)))
    (l18 : K.lookup f18 = some ⟨oc18, od18, .func (PySem.W.fnOf "_law_laid" "_law_laid" (defArgs s_l_laid) (defBody s_l_laid) (defScope s_l_laid) .none kV18 dc18 pm18 an18 cd18 ct18), sl18⟩)
    (c18 : PySem.W.codeIn K cd18 "_law_laid" = true)
    (k18 : PySem.W.keepIn K (.ref f18) = true)
    (a19 : PySem.W.findIn K (.ref C1) "parts" = some (some (.ref q19)))
    (g19 : PySem.W.specialIn K (.ref q19) "__get__" = some (some (.builtin "property.__get__")))
    (t19 : PySem.W.takesIn K (.ref q19) = some true)
    (r19 : PySem.W.recIn K q19 "property" = some (.ref f19 :: rr19))
    (l19 : K.lookup f19 = some ⟨oc19, od19, .func (PySem.W.fnOf "parts" "State.parts" (defArgs s_State_parts) (defBody s_State_parts) (defScope s_State_parts) .none kV19 dc19 pm19 an19 cd19 ct19), sl19⟩)
    (c19 : PySem.W.codeIn K cd19 "State.parts" = true)
    (k19 : PySem.W.keepIn K (.ref f19) = true)
    (a20 : PySem.W.findIn K (.ref C1) "position" = some (some (.ref q20)))
    (g20 : PySem.W.specialIn K (.ref q20) "__get__" = some (some (.builtin "property.__get__")))
    (t20 : PySem.W.takesIn K (.ref q20) = some true)
    (r20 : PySem.W.recIn K q20 "property" = some (.ref f20 :: rr20))
    (l20 : K.lookup f20 = some ⟨oc20, od20, .func (PySem.W.fnOf "position" "State.position" (defArgs s_State_position) (defBody s_State_position) (defScope s_State_position) .none kV20 dc20 pm20 an20 cd20 ct20), sl20⟩)
    (c20 : PySem.W.codeIn K cd20 "State.position" = true)
    (k20 : PySem.W.keepIn K (.ref f20) = true)
    (a21 : PySem.W.findIn K (.ref C1) "pieces" = some (some (.ref q21)))
    (g21 : PySem.W.specialIn K (.ref q21) "__get__" = some (some (.builtin "property.__get__")))
    (t21 : PySem.W.takesIn K (.ref q21) = some true)
    (r21 : PySem.W.recIn K q21 "property" = some (.ref f21 :: rr21))
    (l21 : K.lookup f21 = some ⟨oc21, od21, .func (PySem.W.fnOf "pieces" "State.pieces" (defArgs s_State_pieces) (defBody s_State_pieces) (defScope s_State_pieces) .none kV21 dc21 pm21 an21 cd21 ct21), sl21⟩)
    (c21 : PySem.W.codeIn K cd21 "State.pieces" = true)
    (k21 : PySem.W.keepIn K (.ref f21) = true)
    (a22 : PySem.W.findIn K (.ref C1) "__len__" = some (some (.ref f22)))
    (i22 : PySem.W.isFn K (.ref f22) = true)
    (l22 : K.lookup f22 = some ⟨oc22, od22, .func (PySem.W.fnOf "__len__" "State.__len__" (defArgs s_State___len__) (defBody s_State___len__) (defScope s_State___len__) .none kV22 dc22 pm22 an22 cd22 ct22), sl22⟩)
    (c22 : PySem.W.codeIn K cd22 "State.__len__" = true)
    (k22 : PySem.W.keepIn K (.ref f22) = true)
    (a23 : PySem.W.findIn K (.ref C0) "__eq__" = some (some (.ref f23)))
    (i23 : PySem.W.isFn K (.ref f23) = true)
    (l23 : K.lookup f23 = some ⟨oc23, od23, .func (PySem.W.fnOf "__eq__" "Field.__eq__" (defArgs s_Field___eq__) (defBody s_Field___eq__) (defScope s_Field___eq__) .none kV23 dc23 pm23 an23 cd23 ct23), sl23⟩)
    (c23 : PySem.W.codeIn K cd23 "Field.__eq__" = true)
    (k23 : PySem.W.keepIn K (.ref f23) = true)
    (a24 : PySem.W.findIn K (.ref C1) "field" = some (some (.ref q24)))
    (g24 : PySem.W.specialIn K (.ref q24) "__get__" = some (some (.builtin "property.__get__")))
    (t24 : PySem.W.takesIn K (.ref q24) = some true)
    (r24 : PySem.W.recIn K q24 "property" = some (.ref f24 :: rr24))
    (l24 : K.lookup f24 = some ⟨oc24, od24, .func (PySem.W.fnOf "field" "State.field" (defArgs s_State_field) (defBody s_State_field) (defScope s_State_field) .none kV24 dc24 pm24 an24 cd24 ct24), sl24⟩)
    (c24 : PySem.W.codeIn K cd24 "State.field" = true)
    (k24 : PySem.W.keepIn K (.ref f24) = true)
    (a25 : PySem.W.findIn K (.ref C1) "__getitem__" = some (some (.ref f25)))
    (i25 : PySem.W.isFn K (.ref f25) = true)
    (n25 : PySem.W.fnIn K f25 = true)
    (l25 : K.lookup f25 = some ⟨oc25, od25, .func (PySem.W.fnOf "__getitem__" "State.__getitem__" (defArgs s_State___getitem__) (defBody s_State___getitem__) (defScope s_State___getitem__) .none kV25 dc25 pm25 an25 cd25 ct25), sl25⟩)
    (c25 : PySem.W.codeIn K cd25 "State.__getitem__" = true)
    (k25 : PySem.W.keepIn K (.ref f25) = true)
    (a26 : PySem.W.findIn K (.ref C1) "__contains__" = some (some (.ref f26)))
    (i26 : PySem.W.isFn K (.ref f26) = true)
    (l26 : K.lookup f26 = some ⟨oc26, od26, .func (PySem.W.fnOf "__contains__" "State.__contains__" (defArgs s_State___contains__) (defBody s_State___contains__) (defScope s_State___contains__) .none kV26 dc26 pm26 an26 cd26 ct26), sl26⟩)
    (c26 : PySem.W.codeIn K cd26 "State.__contains__" = true)
    (k26 : PySem.W.keepIn K (.ref f26) = true)
    (a27 : PySem.W.nsIn K mainGlobals "_law_places_right" = some (some (.ref f27)))
    (l27 : K.lookup f27 = some ⟨oc27, od27, .func (PySem.W.fnOf "_law_places_right" "_law_places_right" (defArgs s_l_places_right) (defBody s_l_places_right) (defScope s_l_places_right) .none kV27 dc27 pm27 an27 cd27 ct27), sl27⟩)
    (c27 : PySem.W.codeIn K cd27 "_law_places_right" = true)
    (k27 : PySem.W.keepIn K (.ref f27) = true)
    (a28 : PySem.W.findIn K (.ref C1) "__eq__" = some (some (.ref f28)))
    (i28 : PySem.W.isFn K (.ref f28) = true)
    (l28 : K.lookup f28 = some ⟨oc28, od28, .func (PySem.W.fnOf "__eq__" "State.__eq__" (defArgs s_State___eq__) (defBody s_State___eq__) (defScope s_State___eq__) .none kV28 dc28 pm28 an28 cd28 ct28), sl28⟩)
    (c28 : PySem.W.codeIn K cd28 "State.__eq__" = true)
    (k28 : PySem.W.keepIn K (.ref f28) = true)
    (a29 : PySem.W.findIn K (.ref C1) "totals" = some (some (.ref q29)))
    (g29 : PySem.W.specialIn K (.ref q29) "__get__" = some (some (.builtin "property.__get__")))
    (t29 : PySem.W.takesIn K (.ref q29) = some true)
    (r29 : PySem.W.recIn K q29 "property" = some (.ref f29 :: rr29))
    (l29 : K.lookup f29 = some ⟨oc29, od29, .func (PySem.W.fnOf "totals" "State.totals" (defArgs s_State_totals) (defBody s_State_totals) (defScope s_State_totals) .none kV29 dc29 pm29 an29 cd29 ct29), sl29⟩)
    (c29 : PySem.W.codeIn K cd29 "State.totals" = true)
    (k29 : PySem.W.keepIn K (.ref f29) = true)
    (a30 : PySem.W.findIn K (.ref C1) "velocity" = some (some (.ref q30)))
    (g30 : PySem.W.specialIn K (.ref q30) "__get__" = some (some (.builtin "property.__get__")))
    (t30 : PySem.W.takesIn K (.ref q30) = some true)
    (r30 : PySem.W.recIn K q30 "property" = some (.ref f30 :: rr30))
    (l30 : K.lookup f30 = some ⟨oc30, od30, .func (PySem.W.fnOf "velocity" "State.velocity" (defArgs s_State_velocity) (defBody s_State_velocity) (defScope s_State_velocity) .none kV30 dc30 pm30 an30 cd30 ct30), sl30⟩)
    (c30 : PySem.W.codeIn K cd30 "State.velocity" = true)
    (k30 : PySem.W.keepIn K (.ref f30) = true)
    (a31 : PySem.W.findIn K (.ref C1) "shifted" = some (some (.ref f31)))
    (i31 : PySem.W.isFn K (.ref f31) = true)
    (l31 : K.lookup f31 = some ⟨oc31, od31, .func (PySem.W.fnOf "shifted" "State.shifted" (defArgs s_State_shifted) (defBody s_State_shifted) (defScope s_State_shifted) .none kV31 dc31 pm31 an31 cd31 ct31), sl31⟩)
    (c31 : PySem.W.codeIn K cd31 "State.shifted" = true)
    (k31 : PySem.W.keepIn K (.ref f31) = true)
    (a32 : PySem.W.nsIn K mainGlobals "_law_moved" = some (some (.ref f32)))
    (l32 : K.lookup f32 = some ⟨oc32, od32, .func (PySem.W.fnOf "_law_moved" "_law_moved" (defArgs s_l_moved) (defBody s_l_moved) (defScope s_l_moved) .none kV32 dc32 pm32 an32 cd32 ct32), sl32⟩)
    (c32 : PySem.W.codeIn K cd32 "_law_moved" = true)
    (k32 : PySem.W.keepIn K (.ref f32) = true)
    (w33 : PySem.W.findCls K (.ref C1) (.type "type") "empty" = some (.get (.builtin "classmethod.__get__") (.ref q33) .none (.ref C1)))
    (r33 : PySem.W.recIn K q33 "classmethod" = some (.ref f33 :: rr33))
    (n33 : PySem.W.fnIn K f33 = true)
    {T33 : Addr} {oT33 : Option Addr} {nT33 : Nat} {cT33 : Value} {sT33 : Array (Option Value)} {v33_0 : Value}
    (l33 : K.lookup f33 = some ⟨oc33, od33, .func (PySem.W.fnOf "empty" "State.empty" (defArgs s_State_empty) (defBody s_State_empty) (defScope s_State_empty) (.ref T33) kV33 dc33 pm33 an33 cd33 ct33), sl33⟩)
    (uT33 : DH.tupB K [0, 0] v33_0 = true)
    (dT33 : K.lookup T33 = some ⟨cT33, oT33, .seq #[v33_0] nT33, sT33⟩)
    (c33 : PySem.W.codeIn K cd33 "State.empty" = true)
    (k33 : PySem.W.keepIn K (.ref f33) = true)
    (a34 : PySem.W.nsIn K mainGlobals "_law_right" = some (some (.ref f34)))
    (l34 : K.lookup f34 = some ⟨oc34, od34, .func (PySem.W.fnOf "_law_right" "_law_right" (defArgs s_l_right) (defBody s_l_right) (defScope s_l_right) .none kV34 dc34 pm34 an34 cd34 ct34), sl34⟩)
    (c34 : PySem.W.codeIn K cd34 "_law_right" = true)
    (k34 : PySem.W.keepIn K (.ref f34) = true)
    (a35 : PySem.W.nsIn K mainGlobals "law" = some (some (.ref f35)))
    (l35 : K.lookup f35 = some ⟨oc35, od35, .func (PySem.W.fnOf "law" "law" (defArgs s_law) (defBody s_law) (defScope s_law) .none kV35 dc35 pm35 an35 cd35 ct35), sl35⟩)
    (c35 : PySem.W.codeIn K cd35 "law" = true)
    (k35 : PySem.W.keepIn K (.ref f35) = true)
    (z_abs : PySem.W.nsIn K mainGlobals "abs" = some none)
    (z_all : PySem.W.nsIn K mainGlobals "all" = some none)
    (z_any : PySem.W.nsIn K mainGlobals "any" = some none)
    (z_bool : PySem.W.nsIn K mainGlobals "bool" = some none)
    (z_dict : PySem.W.nsIn K mainGlobals "dict" = some none)
    (z_int : PySem.W.nsIn K mainGlobals "int" = some none)
    (z_isinstance : PySem.W.nsIn K mainGlobals "isinstance" = some none)
    (z_len : PySem.W.nsIn K mainGlobals "len" = some none)
    (z_list : PySem.W.nsIn K mainGlobals "list" = some none)
    (z_max : PySem.W.nsIn K mainGlobals "max" = some none)
    (z_range : PySem.W.nsIn K mainGlobals "range" = some none)
    (z_repr : PySem.W.nsIn K mainGlobals "repr" = some none)
    (z_sorted : PySem.W.nsIn K mainGlobals "sorted" = some none)
    (z_sum : PySem.W.nsIn K mainGlobals "sum" = some none)
    (z_tuple : PySem.W.nsIn K mainGlobals "tuple" = some none)
    (z_zip : PySem.W.nsIn K mainGlobals "zip" = some none)
    (hlaw : ∀ ns : List Int, ns.length ≤ 63 → G_law [some (.slst (ns.map D.int))] (fun d _ => d = .bl true) fun _ _ => False) :
    ∀ base : Heap, K.In base → base.Ns mainGlobals mg → FnG l.prog w K mg base 9 fa (spLaw K) := by
  have e := hfa.symm.trans (PySem.W.mg_of X G a35)
  cases e
  have F0 := funG_mk (st := s_l_pen) l0 c0 k0
  have b0 := binds_none (K := K) (ps := ["_law_script"]) (fd := PySem.W.fnOf "_law_pen" "_law_pen" (defArgs s_l_pen) (defBody s_l_pen) (defScope s_l_pen) .none kV0 dc0 pm0 an0 cd0 ct0) fun us hl => match us, hl with | [_], _ => rfl
  have F1 := funG_mk (st := s_l_draw) l1 c1 k1
  have b1 := binds_none (K := K) (ps := ["_law_pen_here", "_law_many"]) (fd := PySem.W.fnOf "_law_draw" "_law_draw" (defArgs s_l_draw) (defBody s_l_draw) (defScope s_l_draw) .none kV1 dc1 pm1 an1 cd1 ct1) fun us hl => match us, hl with | [_, _], _ => rfl
  have F2 := funG_mk (st := s_l_pulls) l2 c2 k2
  have b2 := binds_none (K := K) (ps := ["_law_pen_here", "_law_most"]) (fd := PySem.W.fnOf "_law_pulls" "_law_pulls" (defArgs s_l_pulls) (defBody s_l_pulls) (defScope s_l_pulls) .none kV2 dc2 pm2 an2 cd2 ct2) fun us hl => match us, hl with | [_, _], _ => rfl
  have F3 := funG_mk (st := s_l_place) l3 c3 k3
  have b3 := binds_none (K := K) (ps := ["_law_pen_here", "_law_wide"]) (fd := PySem.W.fnOf "_law_place" "_law_place" (defArgs s_l_place) (defBody s_l_place) (defScope s_l_place) .none kV3 dc3 pm3 an3 cd3 ct3) fun us hl => match us, hl with | [_, _], _ => rfl
  have F4 := funG_mk (st := s_l_counts) l4 c4 k4
  have b4 := binds_none (K := K) (ps := ["_law_pen_here", "_law_many", "_law_most"]) (fd := PySem.W.fnOf "_law_counts" "_law_counts" (defArgs s_l_counts) (defBody s_l_counts) (defScope s_l_counts) .none kV4 dc4 pm4 an4 cd4 ct4) fun us hl => match us, hl with | [_, _, _], _ => rfl
  have F5 := funG_mk (st := s_l_deal) l5 c5 k5
  have b5 := binds_none (K := K) (ps := ["_law_pen_here", "_law_many", "_law_most"]) (fd := PySem.W.fnOf "_law_deal" "_law_deal" (defArgs s_l_deal) (defBody s_l_deal) (defScope s_l_deal) .none kV5 dc5 pm5 an5 cd5 ct5) fun us hl => match us, hl with | [_, _, _], _ => rfl
  have F6 := funG_mk (st := s_is_integer) l6 c6 k6
  have b6 := binds_none (K := K) (ps := ["value"]) (fd := PySem.W.fnOf "is_integer" "is_integer" (defArgs s_is_integer) (defBody s_is_integer) (defScope s_is_integer) .none kV6 dc6 pm6 an6 cd6 ct6) fun us hl => match us, hl with | [_], _ => rfl
  have F7 := funG_mk (st := s_is_pair) l7 c7 k7
  have b7 := binds_none (K := K) (ps := ["value"]) (fd := PySem.W.fnOf "is_pair" "is_pair" (defArgs s_is_pair) (defBody s_is_pair) (defScope s_is_pair) .none kV7 dc7 pm7 an7 cd7 ct7) fun us hl => match us, hl with | [_], _ => rfl
  have F8 := funG_mk (st := s_is_pull) l8 c8 k8
  have b8 := binds_none (K := K) (ps := ["value"]) (fd := PySem.W.fnOf "is_pull" "is_pull" (defArgs s_is_pull) (defBody s_is_pull) (defScope s_is_pull) .none kV8 dc8 pm8 an8 cd8 ct8) fun us hl => match us, hl with | [_], _ => rfl
  have F9 := funG_mk (st := s_Field___init__) l9 c9 k9
  have b9 : ∀ us rest : List Value, us.length = (["self"] : List Str).length → bindArgs (PySem.W.fnOf "__init__" "Field.__init__" (defArgs s_Field___init__) (defBody s_Field___init__) (defScope s_Field___init__) .none kV9 dc9 pm9 an9 cd9 ct9) ⟨us ++ rest, []⟩ = (newTuple rest >>= fun t => pure (List.zip (["self"] : List Str) us ++ [(("pulls" : Str), t)])) := fun us rest hl => match us, rest, hl with | [_], [], _ => rfl | [_], _ :: _, _ => rfl
  have F10 := funG_mk (st := s_l_field) l10 c10 k10
  have b10 := binds_none (K := K) (ps := ["_law_pulls_here"]) (fd := PySem.W.fnOf "_law_field" "_law_field" (defArgs s_l_field) (defBody s_l_field) (defScope s_l_field) .none kV10 dc10 pm10 an10 cd10 ct10) fun us hl => match us, hl with | [_], _ => rfl
  have F11 := funG_mk (st := s_Field_kinds) l11 c11 k11
  have b11 := binds_none (K := K) (ps := ["self"]) (fd := PySem.W.fnOf "kinds" "Field.kinds" (defArgs s_Field_kinds) (defBody s_Field_kinds) (defScope s_Field_kinds) .none kV11 dc11 pm11 an11 cd11 ct11) fun us hl => match us, hl with | [_], _ => rfl
  have F12 := funG_mk (st := s_are_counts) l12 c12 k12
  have b12 := binds_none (K := K) (ps := ["field", "value"]) (fd := PySem.W.fnOf "are_counts" "are_counts" (defArgs s_are_counts) (defBody s_are_counts) (defScope s_are_counts) .none kV12 dc12 pm12 an12 cd12 ct12) fun us hl => match us, hl with | [_, _], _ => rfl
  have F13 := funG_mk (st := s_is_piece) l13 c13 k13
  have b13 := binds_none (K := K) (ps := ["field", "value"]) (fd := PySem.W.fnOf "is_piece" "is_piece" (defArgs s_is_piece) (defBody s_is_piece) (defScope s_is_piece) .none kV13 dc13 pm13 an13 cd13 ct13) fun us hl => match us, hl with | [_, _], _ => rfl
  have F14 := funG_mk (st := s_added) l14 c14 k14
  have b14 := binds_none (K := K) (ps := ["one", "other"]) (fd := PySem.W.fnOf "added" "added" (defArgs s_added) (defBody s_added) (defScope s_added) .none kV14 dc14 pm14 an14 cd14 ct14) fun us hl => match us, hl with | [_, _], _ => rfl
  have F15 := funG_mk (st := s_merged) l15 c15 k15
  have b15 := binds_none (K := K) (ps := ["pieces"]) (fd := PySem.W.fnOf "merged" "merged" (defArgs s_merged) (defBody s_merged) (defScope s_merged) .none kV15 dc15 pm15 an15 cd15 ct15) fun us hl => match us, hl with | [_], _ => rfl
  have F16 := funG_mk (st := s_State___init__) l16 c16 k16
  have b16 : ∀ us rest : List Value, us.length = (["self", "field", "position"] : List Str).length → bindArgs (PySem.W.fnOf "__init__" "State.__init__" (defArgs s_State___init__) (defBody s_State___init__) (defScope s_State___init__) .none kV16 dc16 pm16 an16 cd16 ct16) ⟨us ++ rest, []⟩ = (newTuple rest >>= fun t => pure (List.zip (["self", "field", "position"] : List Str) us ++ [(("pieces" : Str), t)])) := fun us rest hl => match us, rest, hl with | [_, _, _], [], _ => rfl | [_, _, _], _ :: _, _ => rfl
  have F17 := funG_mk (st := s_l_made) l17 c17 k17
  have b17 := binds_none (K := K) (ps := ["_law_ground", "_law_spot", "_law_heap"]) (fd := PySem.W.fnOf "_law_made" "_law_made" (defArgs s_l_made) (defBody s_l_made) (defScope s_l_made) .none kV17 dc17 pm17 an17 cd17 ct17) fun us hl => match us, hl with | [_, _, _], _ => rfl
  have F18 := funG_mk (st := s_l_laid) l18 c18 k18
  have b18 := binds_none (K := K) (ps := ["_law_pieces"]) (fd := PySem.W.fnOf "_law_laid" "_law_laid" (defArgs s_l_laid) (defBody s_l_laid) (defScope s_l_laid) .none kV18 dc18 pm18 an18 cd18 ct18) fun us hl => match us, hl with | [_], _ => rfl
  have F19 := funG_mk (st := s_State_parts) l19 c19 k19
  have b19 := binds_none (K := K) (ps := ["self"]) (fd := PySem.W.fnOf "parts" "State.parts" (defArgs s_State_parts) (defBody s_State_parts) (defScope s_State_parts) .none kV19 dc19 pm19 an19 cd19 ct19) fun us hl => match us, hl with | [_], _ => rfl
  have F20 := funG_mk (st := s_State_position) l20 c20 k20
  have b20 := binds_none (K := K) (ps := ["self"]) (fd := PySem.W.fnOf "position" "State.position" (defArgs s_State_position) (defBody s_State_position) (defScope s_State_position) .none kV20 dc20 pm20 an20 cd20 ct20) fun us hl => match us, hl with | [_], _ => rfl
  have F21 := funG_mk (st := s_State_pieces) l21 c21 k21
  have b21 := binds_none (K := K) (ps := ["self"]) (fd := PySem.W.fnOf "pieces" "State.pieces" (defArgs s_State_pieces) (defBody s_State_pieces) (defScope s_State_pieces) .none kV21 dc21 pm21 an21 cd21 ct21) fun us hl => match us, hl with | [_], _ => rfl
  have F22 := funG_mk (st := s_State___len__) l22 c22 k22
  have b22 := binds_none (K := K) (ps := ["self"]) (fd := PySem.W.fnOf "__len__" "State.__len__" (defArgs s_State___len__) (defBody s_State___len__) (defScope s_State___len__) .none kV22 dc22 pm22 an22 cd22 ct22) fun us hl => match us, hl with | [_], _ => rfl
  have F23 := funG_mk (st := s_Field___eq__) l23 c23 k23
  have b23 := binds_none (K := K) (ps := ["self", "other"]) (fd := PySem.W.fnOf "__eq__" "Field.__eq__" (defArgs s_Field___eq__) (defBody s_Field___eq__) (defScope s_Field___eq__) .none kV23 dc23 pm23 an23 cd23 ct23) fun us hl => match us, hl with | [_, _], _ => rfl
  have F24 := funG_mk (st := s_State_field) l24 c24 k24
  have b24 := binds_none (K := K) (ps := ["self"]) (fd := PySem.W.fnOf "field" "State.field" (defArgs s_State_field) (defBody s_State_field) (defScope s_State_field) .none kV24 dc24 pm24 an24 cd24 ct24) fun us hl => match us, hl with | [_], _ => rfl
  have F25 := funG_mk (st := s_State___getitem__) l25 c25 k25
  have b25 := binds_none (K := K) (ps := ["self", "place"]) (fd := PySem.W.fnOf "__getitem__" "State.__getitem__" (defArgs s_State___getitem__) (defBody s_State___getitem__) (defScope s_State___getitem__) .none kV25 dc25 pm25 an25 cd25 ct25) fun us hl => match us, hl with | [_, _], _ => rfl
  have F26 := funG_mk (st := s_State___contains__) l26 c26 k26
  have b26 := binds_none (K := K) (ps := ["self", "place"]) (fd := PySem.W.fnOf "__contains__" "State.__contains__" (defArgs s_State___contains__) (defBody s_State___contains__) (defScope s_State___contains__) .none kV26 dc26 pm26 an26 cd26 ct26) fun us hl => match us, hl with | [_, _], _ => rfl
  have F27 := funG_mk (st := s_l_places_right) l27 c27 k27
  have b27 := binds_none (K := K) (ps := ["_law_state", "_law_due", "_law_pulls_here", "_law_some"]) (fd := PySem.W.fnOf "_law_places_right" "_law_places_right" (defArgs s_l_places_right) (defBody s_l_places_right) (defScope s_l_places_right) .none kV27 dc27 pm27 an27 cd27 ct27) fun us hl => match us, hl with | [_, _, _, _], _ => rfl
  have F28 := funG_mk (st := s_State___eq__) l28 c28 k28
  have b28 := binds_none (K := K) (ps := ["self", "other"]) (fd := PySem.W.fnOf "__eq__" "State.__eq__" (defArgs s_State___eq__) (defBody s_State___eq__) (defScope s_State___eq__) .none kV28 dc28 pm28 an28 cd28 ct28) fun us hl => match us, hl with | [_, _], _ => rfl
  have F29 := funG_mk (st := s_State_totals) l29 c29 k29
  have b29 := binds_none (K := K) (ps := ["self"]) (fd := PySem.W.fnOf "totals" "State.totals" (defArgs s_State_totals) (defBody s_State_totals) (defScope s_State_totals) .none kV29 dc29 pm29 an29 cd29 ct29) fun us hl => match us, hl with | [_], _ => rfl
  have F30 := funG_mk (st := s_State_velocity) l30 c30 k30
  have b30 := binds_none (K := K) (ps := ["self"]) (fd := PySem.W.fnOf "velocity" "State.velocity" (defArgs s_State_velocity) (defBody s_State_velocity) (defScope s_State_velocity) .none kV30 dc30 pm30 an30 cd30 ct30) fun us hl => match us, hl with | [_], _ => rfl
  have F31 := funG_mk (st := s_State_shifted) l31 c31 k31
  have b31 := binds_none (K := K) (ps := ["self", "by"]) (fd := PySem.W.fnOf "shifted" "State.shifted" (defArgs s_State_shifted) (defBody s_State_shifted) (defScope s_State_shifted) .none kV31 dc31 pm31 an31 cd31 ct31) fun us hl => match us, hl with | [_, _], _ => rfl
  have F32 := funG_mk (st := s_l_moved) l32 c32 k32
  have b32 := binds_none (K := K) (ps := ["_law_due", "_law_by"]) (fd := PySem.W.fnOf "_law_moved" "_law_moved" (defArgs s_l_moved) (defBody s_l_moved) (defScope s_l_moved) .none kV32 dc32 pm32 an32 cd32 ct32) fun us hl => match us, hl with | [_, _], _ => rfl
  have F33 := funG_mk (st := s_State_empty) l33 c33 k33
  have b33 : Binds K (PySem.W.fnOf "empty" "State.empty" (defArgs s_State_empty) (defBody s_State_empty) (defScope s_State_empty) (.ref T33) kV33 dc33 pm33 an33 cd33 ct33) ["cls", "field", "position"] [v33_0] := binds_last dT33 rfl fun us hl => match us, hl with | [_, _], _ => ⟨_, rfl, rfl⟩
  have bf33 : Binds K (PySem.W.fnOf "empty" "State.empty" (defArgs s_State_empty) (defBody s_State_empty) (defScope s_State_empty) (.ref T33) kV33 dc33 pm33 an33 cd33 ct33) ["cls", "field", "position"] [] := binds_full dT33 rfl fun us hl => match us, hl with | [_, _, _], _ => ⟨_, rfl, rfl⟩
  have F34 := funG_mk (st := s_l_right) l34 c34 k34
  have b34 := binds_none (K := K) (ps := ["_law_pulls_here", "_law_spot", "_law_heap", "_law_by"]) (fd := PySem.W.fnOf "_law_right" "_law_right" (defArgs s_l_right) (defBody s_l_right) (defScope s_l_right) .none kV34 dc34 pm34 an34 cd34 ct34) fun us hl => match us, hl with | [_, _, _, _], _ => rfl
  have F35 := funG_mk (st := s_law) l35 c35 k35
  have b35 := binds_none (K := K) (ps := ["_law_script"]) (fd := PySem.W.fnOf "law" "law" (defArgs s_law) (defBody s_law) (defScope s_law) .none kV35 dc35 pm35 an35 cd35 ct35) fun us hl => match us, hl with | [_], _ => rfl
  have T : Tx K mg := ⟨C0, aC0, ⟨pg0, hd0, po0, sa0⟩, PySem.W.mg_of X G aC0, ⟨rd0, gt0⟩, _, ⟨cv0_GREATEST, ⟨_, rfl⟩⟩, _, ⟨cv0_MOST_KINDS, ⟨_, rfl⟩⟩, ⟨fun _ _ _ _ e => .base (.ins e ⟨pg0, hd0, po0, sa0⟩ qa0 qn0 qt0 mo0), kN0, kI0, kT0⟩, na0_vectors, C1, aC1, ⟨pg1, hd1, po1, sa1⟩, PySem.W.mg_of X G aC1, ⟨rd1, gt1⟩, ⟨fun _ _ _ _ e => .base (.ins e ⟨pg1, hd1, po1, sa1⟩ qa1 qn1 qt1 mo1), kN1, kI1, kT1⟩, na1_ground, na1_key, na1_laid, na1_rows, na1_stand, f0, _, F0, b0, PySem.W.mg_of X G a0, k0, f1, _, F1, b1, PySem.W.mg_of X G a1, k1, f2, _, F2, b2, PySem.W.mg_of X G a2, k2, f3, _, F3, b3, PySem.W.mg_of X G a3, k3, f4, _, F4, b4, PySem.W.mg_of X G a4, k4, f5, _, F5, b5, PySem.W.mg_of X G a5, k5, f6, _, F6, b6, PySem.W.mg_of X G a6, k6, f7, _, F7, b7, PySem.W.mg_of X G a7, k7, f8, _, F8, b8, PySem.W.mg_of X G a8, k8, f9, _, F9, b9, ⟨mk0, a9, i9, kc0⟩, f10, _, F10, b10, PySem.W.mg_of X G a10, k10, f11, _, F11, b11, q11, ⟨a11, g11, t11, _, r11⟩, f12, _, F12, b12, PySem.W.mg_of X G a12, k12, f13, _, F13, b13, PySem.W.mg_of X G a13, k13, f14, _, F14, b14, PySem.W.mg_of X G a14, k14, f15, _, F15, b15, PySem.W.mg_of X G a15, k15, f16, _, F16, b16, ⟨mk1, a16, i16, kc1⟩, f17, _, F17, b17, PySem.W.mg_of X G a17, k17, f18, _, F18, b18, PySem.W.mg_of X G a18, k18, f19, _, F19, b19, q19, ⟨a19, g19, t19, _, r19⟩, f20, _, F20, b20, q20, ⟨a20, g20, t20, _, r20⟩, f21, _, F21, b21, q21, ⟨a21, g21, t21, _, r21⟩, f22, _, F22, b22, ⟨a22, i22, k22⟩, a22, i22, f23, _, F23, b23, ⟨a23, i23, k23⟩, ⟨a23, i23, ne0, mo0, mN0, mI0, mT0⟩, f24, _, F24, b24, q24, ⟨a24, g24, t24, _, r24⟩, f25, _, F25, b25, ⟨a25, i25, k25⟩, a25, n25, i25, f26, _, F26, b26, ⟨a26, i26, k26⟩, f27, _, F27, b27, PySem.W.mg_of X G a27, k27, f28, _, F28, b28, ⟨a28, i28, k28⟩, ⟨a28, i28, ne1, mo1, mN1, mI1, mT1⟩, f29, _, F29, b29, q29, ⟨a29, g29, t29, _, r29⟩, f30, _, F30, b30, q30, ⟨a30, g30, t30, _, r30⟩, f31, _, F31, b31, ⟨a31, i31, k31⟩, f32, _, F32, b32, PySem.W.mg_of X G a32, k32, f33, _, F33, v33_0, DH.tup_get uT33, b33, bf33, q33, ⟨w33, ⟨_, r33⟩, n33⟩, f34, _, F34, b34, PySem.W.mg_of X G a34, k34, PySem.W.mg_none_of X G z_abs, PySem.W.mg_none_of X G z_all, PySem.W.mg_none_of X G z_any, PySem.W.mg_none_of X G z_bool, PySem.W.mg_none_of X G z_dict, PySem.W.mg_none_of X G z_int, PySem.W.mg_none_of X G z_isinstance, PySem.W.mg_none_of X G z_len, PySem.W.mg_none_of X G z_list, PySem.W.mg_none_of X G z_max, PySem.W.mg_none_of X G z_range, PySem.W.mg_none_of X G z_repr, PySem.W.mg_none_of X G z_sorted, PySem.W.mg_none_of X G z_sum, PySem.W.mg_none_of X G z_tuple, PySem.W.mg_none_of X G z_zip⟩
  exact fun base _ _ => okG_law (ok_law T F35 b35) hlaw
theorem hp0 {K : PySem.W.Frag} (c : DH.Says hfa hds K) : (PySem.W.nsIn K mainGlobals "Field" = some (some (.ref (hC0 K)))) ∧ (PySem.W.plainGet K (hC0 K) Str.empty = true) ∧ (PySem.W.hasDictIn K (hC0 K) = true) ∧ (PySem.W.plainOver K (hC0 K) = true) ∧ (PySem.W.findIn K (.ref (hC0 K)) "__setattr__" = some (some (.builtin "object.__setattr__"))) ∧ (PySem.W.makesIn K (hC0 K) = true) ∧ (PySem.W.keepIn K (.ref (hC0 K)) = true) ∧ (PySem.W.readsIn K (hC0 K) (.type "type") = true) := of_decide_eq_true (show decide ((PySem.W.nsIn K mainGlobals "Field" = some (some (.ref (hC0 K)))) ∧ (PySem.W.plainGet K (hC0 K) Str.empty = true) ∧ (PySem.W.hasDictIn K (hC0 K) = true) ∧ (PySem.W.plainOver K (hC0 K) = true) ∧ (PySem.W.findIn K (.ref (hC0 K)) "__setattr__" = some (some (.builtin "object.__setattr__"))) ∧ (PySem.W.makesIn K (hC0 K) = true) ∧ (PySem.W.keepIn K (.ref (hC0 K)) = true) ∧ (PySem.W.readsIn K (hC0 K) (.type "type") = true)) = true from c.fact 0 rfl)
theorem hp1 {K : PySem.W.Frag} (c : DH.Says hfa hds K) : (PySem.W.specialIn K (.ref (hC0 K)) "__getattribute__" = some (some (.builtin "type.__getattribute__"))) := of_decide_eq_true (show decide ((PySem.W.specialIn K (.ref (hC0 K)) "__getattribute__" = some (some (.builtin "type.__getattribute__")))) = true from c.fact 1 rfl)
theorem hp4 {K : PySem.W.Frag} (c : DH.Says hfa hds K) : (PySem.W.mroIn K (hC0 K) (.type "object") = some true) ∧ (PySem.W.findIn K (.ref (hC0 K)) "__ne__" = some (some (.builtin "object.__ne__"))) ∧ (PySem.W.mroIn K (hC0 K) (.type "NoneType") = some false) ∧ (PySem.W.mroIn K (hC0 K) (.type "int") = some false) ∧ (PySem.W.mroIn K (hC0 K) (.type "tuple") = some false) ∧ (PySem.W.findIn K (.ref (hC0 K)) "__class__" = some (some (.builtin "object.__class__"))) ∧ (PySem.W.specialIn K (.builtin "object.__class__") "__get__" = some (some (.builtin "getset_descriptor.__get__"))) ∧ (PySem.W.takesIn K (.builtin "object.__class__") = some true) := of_decide_eq_true (show decide ((PySem.W.mroIn K (hC0 K) (.type "object") = some true) ∧ (PySem.W.findIn K (.ref (hC0 K)) "__ne__" = some (some (.builtin "object.__ne__"))) ∧ (PySem.W.mroIn K (hC0 K) (.type "NoneType") = some false) ∧ (PySem.W.mroIn K (hC0 K) (.type "int") = some false) ∧ (PySem.W.mroIn K (hC0 K) (.type "tuple") = some false) ∧ (PySem.W.findIn K (.ref (hC0 K)) "__class__" = some (some (.builtin "object.__class__"))) ∧ (PySem.W.specialIn K (.builtin "object.__class__") "__get__" = some (some (.builtin "getset_descriptor.__get__"))) ∧ (PySem.W.takesIn K (.builtin "object.__class__") = some true)) = true from c.fact 4 rfl)
theorem hp5 {K : PySem.W.Frag} (c : DH.Says hfa hds K) : (PySem.W.kitOne K (.type "NoneType") (.ref (hC0 K)) = some false) ∧ (PySem.W.kitOne K (.type "int") (.ref (hC0 K)) = some false) ∧ (PySem.W.kitOne K (.type "tuple") (.ref (hC0 K)) = some false) ∧ (PySem.W.findIn K (.ref (hC0 K)) "vectors" = some none) ∧ (PySem.W.nsIn K mainGlobals "State" = some (some (.ref (hC1 K)))) ∧ (PySem.W.plainGet K (hC1 K) Str.empty = true) ∧ (PySem.W.hasDictIn K (hC1 K) = true) ∧ (PySem.W.plainOver K (hC1 K) = true) := of_decide_eq_true (show decide ((PySem.W.kitOne K (.type "NoneType") (.ref (hC0 K)) = some false) ∧ (PySem.W.kitOne K (.type "int") (.ref (hC0 K)) = some false) ∧ (PySem.W.kitOne K (.type "tuple") (.ref (hC0 K)) = some false) ∧ (PySem.W.findIn K (.ref (hC0 K)) "vectors" = some none) ∧ (PySem.W.nsIn K mainGlobals "State" = some (some (.ref (hC1 K)))) ∧ (PySem.W.plainGet K (hC1 K) Str.empty = true) ∧ (PySem.W.hasDictIn K (hC1 K) = true) ∧ (PySem.W.plainOver K (hC1 K) = true)) = true from c.fact 5 rfl)
theorem hp6 {K : PySem.W.Frag} (c : DH.Says hfa hds K) : (PySem.W.findIn K (.ref (hC1 K)) "__setattr__" = some (some (.builtin "object.__setattr__"))) ∧ (PySem.W.makesIn K (hC1 K) = true) ∧ (PySem.W.keepIn K (.ref (hC1 K)) = true) ∧ (PySem.W.readsIn K (hC1 K) (.type "type") = true) ∧ (PySem.W.specialIn K (.ref (hC1 K)) "__getattribute__" = some (some (.builtin "type.__getattribute__"))) ∧ (PySem.W.mroIn K (hC1 K) (.type "object") = some true) ∧ (PySem.W.findIn K (.ref (hC1 K)) "__ne__" = some (some (.builtin "object.__ne__"))) ∧ (PySem.W.mroIn K (hC1 K) (.type "NoneType") = some false) := of_decide_eq_true (show decide ((PySem.W.findIn K (.ref (hC1 K)) "__setattr__" = some (some (.builtin "object.__setattr__"))) ∧ (PySem.W.makesIn K (hC1 K) = true) ∧ (PySem.W.keepIn K (.ref (hC1 K)) = true) ∧ (PySem.W.readsIn K (hC1 K) (.type "type") = true) ∧ (PySem.W.specialIn K (.ref (hC1 K)) "__getattribute__" = some (some (.builtin "type.__getattribute__"))) ∧ (PySem.W.mroIn K (hC1 K) (.type "object") = some true) ∧ (PySem.W.findIn K (.ref (hC1 K)) "__ne__" = some (some (.builtin "object.__ne__"))) ∧ (PySem.W.mroIn K (hC1 K) (.type "NoneType") = some false)) = true from c.fact 6 rfl)
theorem hp7 {K : PySem.W.Frag} (c : DH.Says hfa hds K) : (PySem.W.mroIn K (hC1 K) (.type "int") = some false) ∧ (PySem.W.mroIn K (hC1 K) (.type "tuple") = some false) ∧ (PySem.W.findIn K (.ref (hC1 K)) "__class__" = some (some (.builtin "object.__class__"))) ∧ (PySem.W.specialIn K (.builtin "object.__class__") "__get__" = some (some (.builtin "getset_descriptor.__get__"))) ∧ (PySem.W.takesIn K (.builtin "object.__class__") = some true) ∧ (PySem.W.kitOne K (.type "NoneType") (.ref (hC1 K)) = some false) ∧ (PySem.W.kitOne K (.type "int") (.ref (hC1 K)) = some false) ∧ (PySem.W.kitOne K (.type "tuple") (.ref (hC1 K)) = some false) := of_decide_eq_true (show decide ((PySem.W.mroIn K (hC1 K) (.type "int") = some false) ∧ (PySem.W.mroIn K (hC1 K) (.type "tuple") = some false) ∧ (PySem.W.findIn K (.ref (hC1 K)) "__class__" = some (some (.builtin "object.__class__"))) ∧ (PySem.W.specialIn K (.builtin "object.__class__") "__get__" = some (some (.builtin "getset_descriptor.__get__"))) ∧ (PySem.W.takesIn K (.builtin "object.__class__") = some true) ∧ (PySem.W.kitOne K (.type "NoneType") (.ref (hC1 K)) = some false) ∧ (PySem.W.kitOne K (.type "int") (.ref (hC1 K)) = some false) ∧ (PySem.W.kitOne K (.type "tuple") (.ref (hC1 K)) = some false)) = true from c.fact 7 rfl)
theorem hp8 {K : PySem.W.Frag} (c : DH.Says hfa hds K) : (PySem.W.findIn K (.ref (hC1 K)) "ground" = some none) ∧ (PySem.W.findIn K (.ref (hC1 K)) "key" = some none) ∧ (PySem.W.findIn K (.ref (hC1 K)) "laid" = some none) ∧ (PySem.W.findIn K (.ref (hC1 K)) "rows" = some none) ∧ (PySem.W.findIn K (.ref (hC1 K)) "stand" = some none) ∧ (PySem.W.nsIn K mainGlobals "_law_pen" = some (some (.ref (hf0 K)))) := of_decide_eq_true (show decide ((PySem.W.findIn K (.ref (hC1 K)) "ground" = some none) ∧ (PySem.W.findIn K (.ref (hC1 K)) "key" = some none) ∧ (PySem.W.findIn K (.ref (hC1 K)) "laid" = some none) ∧ (PySem.W.findIn K (.ref (hC1 K)) "rows" = some none) ∧ (PySem.W.findIn K (.ref (hC1 K)) "stand" = some none) ∧ (PySem.W.nsIn K mainGlobals "_law_pen" = some (some (.ref (hf0 K))))) = true from c.fact 8 rfl)
theorem hp11 {K : PySem.W.Frag} (c : DH.Says hfa hds K) : (PySem.W.keepIn K (.ref (hf0 K)) = true) ∧ (PySem.W.nsIn K mainGlobals "_law_draw" = some (some (.ref (hf1 K)))) := of_decide_eq_true (show decide ((PySem.W.keepIn K (.ref (hf0 K)) = true) ∧ (PySem.W.nsIn K mainGlobals "_law_draw" = some (some (.ref (hf1 K))))) = true from c.fact 11 rfl)
theorem hp14 {K : PySem.W.Frag} (c : DH.Says hfa hds K) : (PySem.W.keepIn K (.ref (hf1 K)) = true) ∧ (PySem.W.nsIn K mainGlobals "_law_pulls" = some (some (.ref (hf2 K)))) := of_decide_eq_true (show decide ((PySem.W.keepIn K (.ref (hf1 K)) = true) ∧ (PySem.W.nsIn K mainGlobals "_law_pulls" = some (some (.ref (hf2 K))))) = true from c.fact 14 rfl)
theorem hp17 {K : PySem.W.Frag} (c : DH.Says hfa hds K) : (PySem.W.keepIn K (.ref (hf2 K)) = true) ∧ (PySem.W.nsIn K mainGlobals "_law_place" = some (some (.ref (hf3 K)))) := of_decide_eq_true (show decide ((PySem.W.keepIn K (.ref (hf2 K)) = true) ∧ (PySem.W.nsIn K mainGlobals "_law_place" = some (some (.ref (hf3 K))))) = true from c.fact 17 rfl)
theorem hp20 {K : PySem.W.Frag} (c : DH.Says hfa hds K) : (PySem.W.keepIn K (.ref (hf3 K)) = true) ∧ (PySem.W.nsIn K mainGlobals "_law_counts" = some (some (.ref (hf4 K)))) := of_decide_eq_true (show decide ((PySem.W.keepIn K (.ref (hf3 K)) = true) ∧ (PySem.W.nsIn K mainGlobals "_law_counts" = some (some (.ref (hf4 K))))) = true from c.fact 20 rfl)
theorem hp23 {K : PySem.W.Frag} (c : DH.Says hfa hds K) : (PySem.W.keepIn K (.ref (hf4 K)) = true) ∧ (PySem.W.nsIn K mainGlobals "_law_deal" = some (some (.ref (hf5 K)))) := of_decide_eq_true (show decide ((PySem.W.keepIn K (.ref (hf4 K)) = true) ∧ (PySem.W.nsIn K mainGlobals "_law_deal" = some (some (.ref (hf5 K))))) = true from c.fact 23 rfl)
theorem hp26 {K : PySem.W.Frag} (c : DH.Says hfa hds K) : (PySem.W.keepIn K (.ref (hf5 K)) = true) ∧ (PySem.W.nsIn K mainGlobals "is_integer" = some (some (.ref (hf6 K)))) := of_decide_eq_true (show decide ((PySem.W.keepIn K (.ref (hf5 K)) = true) ∧ (PySem.W.nsIn K mainGlobals "is_integer" = some (some (.ref (hf6 K))))) = true from c.fact 26 rfl)
theorem hp29 {K : PySem.W.Frag} (c : DH.Says hfa hds K) : (PySem.W.keepIn K (.ref (hf6 K)) = true) ∧ (PySem.W.nsIn K mainGlobals "is_pair" = some (some (.ref (hf7 K)))) := of_decide_eq_true (show decide ((PySem.W.keepIn K (.ref (hf6 K)) = true) ∧ (PySem.W.nsIn K mainGlobals "is_pair" = some (some (.ref (hf7 K))))) = true from c.fact 29 rfl)
theorem hp32 {K : PySem.W.Frag} (c : DH.Says hfa hds K) : (PySem.W.keepIn K (.ref (hf7 K)) = true) ∧ (PySem.W.nsIn K mainGlobals "is_pull" = some (some (.ref (hf8 K)))) := of_decide_eq_true (show decide ((PySem.W.keepIn K (.ref (hf7 K)) = true) ∧ (PySem.W.nsIn K mainGlobals "is_pull" = some (some (.ref (hf8 K))))) = true from c.fact 32 rfl)
theorem hp35 {K : PySem.W.Frag} (c : DH.Says hfa hds K) : (PySem.W.keepIn K (.ref (hf8 K)) = true) ∧ (PySem.W.findIn K (.ref (hC0 K)) "__init__" = some (some (.ref (hf9 K)))) ∧ (PySem.W.isFn K (.ref (hf9 K)) = true) := of_decide_eq_true (show decide ((PySem.W.keepIn K (.ref (hf8 K)) = true) ∧ (PySem.W.findIn K (.ref (hC0 K)) "__init__" = some (some (.ref (hf9 K)))) ∧ (PySem.W.isFn K (.ref (hf9 K)) = true)) = true from c.fact 35 rfl)
theorem hp38 {K : PySem.W.Frag} (c : DH.Says hfa hds K) : (PySem.W.keepIn K (.ref (hf9 K)) = true) ∧ (PySem.W.nsIn K mainGlobals "_law_field" = some (some (.ref (hf10 K)))) := of_decide_eq_true (show decide ((PySem.W.keepIn K (.ref (hf9 K)) = true) ∧ (PySem.W.nsIn K mainGlobals "_law_field" = some (some (.ref (hf10 K))))) = true from c.fact 38 rfl)
theorem hp41 {K : PySem.W.Frag} (c : DH.Says hfa hds K) : (PySem.W.keepIn K (.ref (hf10 K)) = true) ∧ (PySem.W.findIn K (.ref (hC0 K)) "kinds" = some (some (.ref (hq11 K)))) ∧ (PySem.W.specialIn K (.ref (hq11 K)) "__get__" = some (some (.builtin "property.__get__"))) ∧ (PySem.W.takesIn K (.ref (hq11 K)) = some true) := of_decide_eq_true (show decide ((PySem.W.keepIn K (.ref (hf10 K)) = true) ∧ (PySem.W.findIn K (.ref (hC0 K)) "kinds" = some (some (.ref (hq11 K)))) ∧ (PySem.W.specialIn K (.ref (hq11 K)) "__get__" = some (some (.builtin "property.__get__"))) ∧ (PySem.W.takesIn K (.ref (hq11 K)) = some true)) = true from c.fact 41 rfl)
theorem hp45 {K : PySem.W.Frag} (c : DH.Says hfa hds K) : (PySem.W.keepIn K (.ref (hf11 K)) = true) ∧ (PySem.W.nsIn K mainGlobals "are_counts" = some (some (.ref (hf12 K)))) := of_decide_eq_true (show decide ((PySem.W.keepIn K (.ref (hf11 K)) = true) ∧ (PySem.W.nsIn K mainGlobals "are_counts" = some (some (.ref (hf12 K))))) = true from c.fact 45 rfl)
theorem hp48 {K : PySem.W.Frag} (c : DH.Says hfa hds K) : (PySem.W.keepIn K (.ref (hf12 K)) = true) ∧ (PySem.W.nsIn K mainGlobals "is_piece" = some (some (.ref (hf13 K)))) := of_decide_eq_true (show decide ((PySem.W.keepIn K (.ref (hf12 K)) = true) ∧ (PySem.W.nsIn K mainGlobals "is_piece" = some (some (.ref (hf13 K))))) = true from c.fact 48 rfl)
theorem hp51 {K : PySem.W.Frag} (c : DH.Says hfa hds K) : (PySem.W.keepIn K (.ref (hf13 K)) = true) ∧ (PySem.W.nsIn K mainGlobals "added" = some (some (.ref (hf14 K)))) := of_decide_eq_true (show decide ((PySem.W.keepIn K (.ref (hf13 K)) = true) ∧ (PySem.W.nsIn K mainGlobals "added" = some (some (.ref (hf14 K))))) = true from c.fact 51 rfl)
theorem hp54 {K : PySem.W.Frag} (c : DH.Says hfa hds K) : (PySem.W.keepIn K (.ref (hf14 K)) = true) ∧ (PySem.W.nsIn K mainGlobals "merged" = some (some (.ref (hf15 K)))) := of_decide_eq_true (show decide ((PySem.W.keepIn K (.ref (hf14 K)) = true) ∧ (PySem.W.nsIn K mainGlobals "merged" = some (some (.ref (hf15 K))))) = true from c.fact 54 rfl)
theorem hp57 {K : PySem.W.Frag} (c : DH.Says hfa hds K) : (PySem.W.keepIn K (.ref (hf15 K)) = true) ∧ (PySem.W.findIn K (.ref (hC1 K)) "__init__" = some (some (.ref (hf16 K)))) ∧ (PySem.W.isFn K (.ref (hf16 K)) = true) := of_decide_eq_true (show decide ((PySem.W.keepIn K (.ref (hf15 K)) = true) ∧ (PySem.W.findIn K (.ref (hC1 K)) "__init__" = some (some (.ref (hf16 K)))) ∧ (PySem.W.isFn K (.ref (hf16 K)) = true)) = true from c.fact 57 rfl)
theorem hp60 {K : PySem.W.Frag} (c : DH.Says hfa hds K) : (PySem.W.keepIn K (.ref (hf16 K)) = true) ∧ (PySem.W.nsIn K mainGlobals "_law_made" = some (some (.ref (hf17 K)))) := of_decide_eq_true (show decide ((PySem.W.keepIn K (.ref (hf16 K)) = true) ∧ (PySem.W.nsIn K mainGlobals "_law_made" = some (some (.ref (hf17 K))))) = true from c.fact 60 rfl)
theorem hp63 {K : PySem.W.Frag} (c : DH.Says hfa hds K) : (PySem.W.keepIn K (.ref (hf17 K)) = true) ∧ (PySem.W.nsIn K mainGlobals "_law_laid" = some (some (.ref (hf18 K)))) := of_decide_eq_true (show decide ((PySem.W.keepIn K (.ref (hf17 K)) = true) ∧ (PySem.W.nsIn K mainGlobals "_law_laid" = some (some (.ref (hf18 K))))) = true from c.fact 63 rfl)
theorem hp66 {K : PySem.W.Frag} (c : DH.Says hfa hds K) : (PySem.W.keepIn K (.ref (hf18 K)) = true) ∧ (PySem.W.findIn K (.ref (hC1 K)) "parts" = some (some (.ref (hq19 K)))) ∧ (PySem.W.specialIn K (.ref (hq19 K)) "__get__" = some (some (.builtin "property.__get__"))) ∧ (PySem.W.takesIn K (.ref (hq19 K)) = some true) := of_decide_eq_true (show decide ((PySem.W.keepIn K (.ref (hf18 K)) = true) ∧ (PySem.W.findIn K (.ref (hC1 K)) "parts" = some (some (.ref (hq19 K)))) ∧ (PySem.W.specialIn K (.ref (hq19 K)) "__get__" = some (some (.builtin "property.__get__"))) ∧ (PySem.W.takesIn K (.ref (hq19 K)) = some true)) = true from c.fact 66 rfl)
theorem hp70 {K : PySem.W.Frag} (c : DH.Says hfa hds K) : (PySem.W.keepIn K (.ref (hf19 K)) = true) ∧ (PySem.W.findIn K (.ref (hC1 K)) "position" = some (some (.ref (hq20 K)))) ∧ (PySem.W.specialIn K (.ref (hq20 K)) "__get__" = some (some (.builtin "property.__get__"))) ∧ (PySem.W.takesIn K (.ref (hq20 K)) = some true) := of_decide_eq_true (show decide ((PySem.W.keepIn K (.ref (hf19 K)) = true) ∧ (PySem.W.findIn K (.ref (hC1 K)) "position" = some (some (.ref (hq20 K)))) ∧ (PySem.W.specialIn K (.ref (hq20 K)) "__get__" = some (some (.builtin "property.__get__"))) ∧ (PySem.W.takesIn K (.ref (hq20 K)) = some true)) = true from c.fact 70 rfl)
theorem hp74 {K : PySem.W.Frag} (c : DH.Says hfa hds K) : (PySem.W.keepIn K (.ref (hf20 K)) = true) ∧ (PySem.W.findIn K (.ref (hC1 K)) "pieces" = some (some (.ref (hq21 K)))) ∧ (PySem.W.specialIn K (.ref (hq21 K)) "__get__" = some (some (.builtin "property.__get__"))) ∧ (PySem.W.takesIn K (.ref (hq21 K)) = some true) := of_decide_eq_true (show decide ((PySem.W.keepIn K (.ref (hf20 K)) = true) ∧ (PySem.W.findIn K (.ref (hC1 K)) "pieces" = some (some (.ref (hq21 K)))) ∧ (PySem.W.specialIn K (.ref (hq21 K)) "__get__" = some (some (.builtin "property.__get__"))) ∧ (PySem.W.takesIn K (.ref (hq21 K)) = some true)) = true from c.fact 74 rfl)
theorem hp78 {K : PySem.W.Frag} (c : DH.Says hfa hds K) : (PySem.W.keepIn K (.ref (hf21 K)) = true) ∧ (PySem.W.findIn K (.ref (hC1 K)) "__len__" = some (some (.ref (hf22 K)))) ∧ (PySem.W.isFn K (.ref (hf22 K)) = true) := of_decide_eq_true (show decide ((PySem.W.keepIn K (.ref (hf21 K)) = true) ∧ (PySem.W.findIn K (.ref (hC1 K)) "__len__" = some (some (.ref (hf22 K)))) ∧ (PySem.W.isFn K (.ref (hf22 K)) = true)) = true from c.fact 78 rfl)
theorem hp81 {K : PySem.W.Frag} (c : DH.Says hfa hds K) : (PySem.W.keepIn K (.ref (hf22 K)) = true) ∧ (PySem.W.findIn K (.ref (hC0 K)) "__eq__" = some (some (.ref (hf23 K)))) ∧ (PySem.W.isFn K (.ref (hf23 K)) = true) := of_decide_eq_true (show decide ((PySem.W.keepIn K (.ref (hf22 K)) = true) ∧ (PySem.W.findIn K (.ref (hC0 K)) "__eq__" = some (some (.ref (hf23 K)))) ∧ (PySem.W.isFn K (.ref (hf23 K)) = true)) = true from c.fact 81 rfl)
theorem hp84 {K : PySem.W.Frag} (c : DH.Says hfa hds K) : (PySem.W.keepIn K (.ref (hf23 K)) = true) ∧ (PySem.W.findIn K (.ref (hC1 K)) "field" = some (some (.ref (hq24 K)))) ∧ (PySem.W.specialIn K (.ref (hq24 K)) "__get__" = some (some (.builtin "property.__get__"))) ∧ (PySem.W.takesIn K (.ref (hq24 K)) = some true) := of_decide_eq_true (show decide ((PySem.W.keepIn K (.ref (hf23 K)) = true) ∧ (PySem.W.findIn K (.ref (hC1 K)) "field" = some (some (.ref (hq24 K)))) ∧ (PySem.W.specialIn K (.ref (hq24 K)) "__get__" = some (some (.builtin "property.__get__"))) ∧ (PySem.W.takesIn K (.ref (hq24 K)) = some true)) = true from c.fact 84 rfl)
theorem hp88 {K : PySem.W.Frag} (c : DH.Says hfa hds K) : (PySem.W.keepIn K (.ref (hf24 K)) = true) ∧ (PySem.W.findIn K (.ref (hC1 K)) "__getitem__" = some (some (.ref (hf25 K)))) ∧ (PySem.W.isFn K (.ref (hf25 K)) = true) ∧ (PySem.W.fnIn K (hf25 K) = true) := of_decide_eq_true (show decide ((PySem.W.keepIn K (.ref (hf24 K)) = true) ∧ (PySem.W.findIn K (.ref (hC1 K)) "__getitem__" = some (some (.ref (hf25 K)))) ∧ (PySem.W.isFn K (.ref (hf25 K)) = true) ∧ (PySem.W.fnIn K (hf25 K) = true)) = true from c.fact 88 rfl)
theorem hp91 {K : PySem.W.Frag} (c : DH.Says hfa hds K) : (PySem.W.keepIn K (.ref (hf25 K)) = true) ∧ (PySem.W.findIn K (.ref (hC1 K)) "__contains__" = some (some (.ref (hf26 K)))) ∧ (PySem.W.isFn K (.ref (hf26 K)) = true) := of_decide_eq_true (show decide ((PySem.W.keepIn K (.ref (hf25 K)) = true) ∧ (PySem.W.findIn K (.ref (hC1 K)) "__contains__" = some (some (.ref (hf26 K)))) ∧ (PySem.W.isFn K (.ref (hf26 K)) = true)) = true from c.fact 91 rfl)
theorem hp94 {K : PySem.W.Frag} (c : DH.Says hfa hds K) : (PySem.W.keepIn K (.ref (hf26 K)) = true) ∧ (PySem.W.nsIn K mainGlobals "_law_places_right" = some (some (.ref (hf27 K)))) := of_decide_eq_true (show decide ((PySem.W.keepIn K (.ref (hf26 K)) = true) ∧ (PySem.W.nsIn K mainGlobals "_law_places_right" = some (some (.ref (hf27 K))))) = true from c.fact 94 rfl)
theorem hp97 {K : PySem.W.Frag} (c : DH.Says hfa hds K) : (PySem.W.keepIn K (.ref (hf27 K)) = true) ∧ (PySem.W.findIn K (.ref (hC1 K)) "__eq__" = some (some (.ref (hf28 K)))) ∧ (PySem.W.isFn K (.ref (hf28 K)) = true) := of_decide_eq_true (show decide ((PySem.W.keepIn K (.ref (hf27 K)) = true) ∧ (PySem.W.findIn K (.ref (hC1 K)) "__eq__" = some (some (.ref (hf28 K)))) ∧ (PySem.W.isFn K (.ref (hf28 K)) = true)) = true from c.fact 97 rfl)
theorem hp100 {K : PySem.W.Frag} (c : DH.Says hfa hds K) : (PySem.W.keepIn K (.ref (hf28 K)) = true) ∧ (PySem.W.findIn K (.ref (hC1 K)) "totals" = some (some (.ref (hq29 K)))) ∧ (PySem.W.specialIn K (.ref (hq29 K)) "__get__" = some (some (.builtin "property.__get__"))) ∧ (PySem.W.takesIn K (.ref (hq29 K)) = some true) := of_decide_eq_true (show decide ((PySem.W.keepIn K (.ref (hf28 K)) = true) ∧ (PySem.W.findIn K (.ref (hC1 K)) "totals" = some (some (.ref (hq29 K)))) ∧ (PySem.W.specialIn K (.ref (hq29 K)) "__get__" = some (some (.builtin "property.__get__"))) ∧ (PySem.W.takesIn K (.ref (hq29 K)) = some true)) = true from c.fact 100 rfl)
theorem hp104 {K : PySem.W.Frag} (c : DH.Says hfa hds K) : (PySem.W.keepIn K (.ref (hf29 K)) = true) ∧ (PySem.W.findIn K (.ref (hC1 K)) "velocity" = some (some (.ref (hq30 K)))) ∧ (PySem.W.specialIn K (.ref (hq30 K)) "__get__" = some (some (.builtin "property.__get__"))) ∧ (PySem.W.takesIn K (.ref (hq30 K)) = some true) := of_decide_eq_true (show decide ((PySem.W.keepIn K (.ref (hf29 K)) = true) ∧ (PySem.W.findIn K (.ref (hC1 K)) "velocity" = some (some (.ref (hq30 K)))) ∧ (PySem.W.specialIn K (.ref (hq30 K)) "__get__" = some (some (.builtin "property.__get__"))) ∧ (PySem.W.takesIn K (.ref (hq30 K)) = some true)) = true from c.fact 104 rfl)
theorem hp108 {K : PySem.W.Frag} (c : DH.Says hfa hds K) : (PySem.W.keepIn K (.ref (hf30 K)) = true) ∧ (PySem.W.findIn K (.ref (hC1 K)) "shifted" = some (some (.ref (hf31 K)))) ∧ (PySem.W.isFn K (.ref (hf31 K)) = true) := of_decide_eq_true (show decide ((PySem.W.keepIn K (.ref (hf30 K)) = true) ∧ (PySem.W.findIn K (.ref (hC1 K)) "shifted" = some (some (.ref (hf31 K)))) ∧ (PySem.W.isFn K (.ref (hf31 K)) = true)) = true from c.fact 108 rfl)
theorem hp111 {K : PySem.W.Frag} (c : DH.Says hfa hds K) : (PySem.W.keepIn K (.ref (hf31 K)) = true) ∧ (PySem.W.nsIn K mainGlobals "_law_moved" = some (some (.ref (hf32 K)))) := of_decide_eq_true (show decide ((PySem.W.keepIn K (.ref (hf31 K)) = true) ∧ (PySem.W.nsIn K mainGlobals "_law_moved" = some (some (.ref (hf32 K))))) = true from c.fact 111 rfl)
theorem hp114 {K : PySem.W.Frag} (c : DH.Says hfa hds K) : (PySem.W.keepIn K (.ref (hf32 K)) = true) := of_decide_eq_true (show decide ((PySem.W.keepIn K (.ref (hf32 K)) = true)) = true from c.fact 114 rfl)
theorem hp117 {K : PySem.W.Frag} (c : DH.Says hfa hds K) : (PySem.W.fnIn K (hf33 K) = true) := of_decide_eq_true (show decide ((PySem.W.fnIn K (hf33 K) = true)) = true from c.fact 117 rfl)
theorem hp120 {K : PySem.W.Frag} (c : DH.Says hfa hds K) : (PySem.W.keepIn K (.ref (hf33 K)) = true) ∧ (PySem.W.nsIn K mainGlobals "_law_right" = some (some (.ref (hf34 K)))) := of_decide_eq_true (show decide ((PySem.W.keepIn K (.ref (hf33 K)) = true) ∧ (PySem.W.nsIn K mainGlobals "_law_right" = some (some (.ref (hf34 K))))) = true from c.fact 120 rfl)
theorem hp123 {K : PySem.W.Frag} (c : DH.Says hfa hds K) : (PySem.W.keepIn K (.ref (hf34 K)) = true) ∧ (PySem.W.nsIn K mainGlobals "law" = some (some (.ref (hf35 K)))) := of_decide_eq_true (show decide ((PySem.W.keepIn K (.ref (hf34 K)) = true) ∧ (PySem.W.nsIn K mainGlobals "law" = some (some (.ref (hf35 K))))) = true from c.fact 123 rfl)
theorem hp126 {K : PySem.W.Frag} (c : DH.Says hfa hds K) : (PySem.W.keepIn K (.ref (hf35 K)) = true) ∧ (PySem.W.nsIn K mainGlobals "abs" = some none) ∧ (PySem.W.nsIn K mainGlobals "all" = some none) ∧ (PySem.W.nsIn K mainGlobals "any" = some none) ∧ (PySem.W.nsIn K mainGlobals "bool" = some none) ∧ (PySem.W.nsIn K mainGlobals "dict" = some none) ∧ (PySem.W.nsIn K mainGlobals "int" = some none) ∧ (PySem.W.nsIn K mainGlobals "isinstance" = some none) := of_decide_eq_true (show decide ((PySem.W.keepIn K (.ref (hf35 K)) = true) ∧ (PySem.W.nsIn K mainGlobals "abs" = some none) ∧ (PySem.W.nsIn K mainGlobals "all" = some none) ∧ (PySem.W.nsIn K mainGlobals "any" = some none) ∧ (PySem.W.nsIn K mainGlobals "bool" = some none) ∧ (PySem.W.nsIn K mainGlobals "dict" = some none) ∧ (PySem.W.nsIn K mainGlobals "int" = some none) ∧ (PySem.W.nsIn K mainGlobals "isinstance" = some none)) = true from c.fact 126 rfl)
theorem hp127 {K : PySem.W.Frag} (c : DH.Says hfa hds K) : (PySem.W.nsIn K mainGlobals "len" = some none) ∧ (PySem.W.nsIn K mainGlobals "list" = some none) ∧ (PySem.W.nsIn K mainGlobals "max" = some none) ∧ (PySem.W.nsIn K mainGlobals "range" = some none) ∧ (PySem.W.nsIn K mainGlobals "repr" = some none) ∧ (PySem.W.nsIn K mainGlobals "sorted" = some none) ∧ (PySem.W.nsIn K mainGlobals "sum" = some none) ∧ (PySem.W.nsIn K mainGlobals "tuple" = some none) := of_decide_eq_true (show decide ((PySem.W.nsIn K mainGlobals "len" = some none) ∧ (PySem.W.nsIn K mainGlobals "list" = some none) ∧ (PySem.W.nsIn K mainGlobals "max" = some none) ∧ (PySem.W.nsIn K mainGlobals "range" = some none) ∧ (PySem.W.nsIn K mainGlobals "repr" = some none) ∧ (PySem.W.nsIn K mainGlobals "sorted" = some none) ∧ (PySem.W.nsIn K mainGlobals "sum" = some none) ∧ (PySem.W.nsIn K mainGlobals "tuple" = some none)) = true from c.fact 127 rfl)
theorem hp128 {K : PySem.W.Frag} (c : DH.Says hfa hds K) : (PySem.W.nsIn K mainGlobals "zip" = some none) := of_decide_eq_true (show decide ((PySem.W.nsIn K mainGlobals "zip" = some none)) = true from c.fact 128 rfl)
theorem head_ok {l : PySem.W.OpenLaw} {w : World} {K : PySem.W.Frag} {h : Heap} {mg : Str → Option Value} {fa : Addr} (X : K.In h) (G : h.Ns mainGlobals mg) (hfa0 : mg "law" = some (.ref fa)) (c : DH.Says hfa hds K)
    (hlaw : ∀ ns : List Int, ns.length ≤ 63 → G_law [some (.slst (ns.map D.int))] (fun d _ => d = .bl true) fun _ _ => False) : ∀ base : Heap, K.In base → base.Ns mainGlobals mg → FnG l.prog w K mg base 9 fa (spLaw K) := by
  obtain ⟨tk0_GREATEST, cv0_GREATEST⟩ := DH.cv_get (c.fact 2 rfl)
  obtain ⟨tk0_MOST_KINDS, cv0_MOST_KINDS⟩ := DH.cv_get (c.fact 3 rfl)
  obtain ⟨oc0, od0, sl0, kV0, dc0, pm0, an0, cd0, ct0, l0, c0⟩ := DH.def_none (c.def_ 0 rfl) (c.fact 9 rfl) (c.fact 10 rfl)
  obtain ⟨oc1, od1, sl1, kV1, dc1, pm1, an1, cd1, ct1, l1, c1⟩ := DH.def_none (c.def_ 1 rfl) (c.fact 12 rfl) (c.fact 13 rfl)
  obtain ⟨oc2, od2, sl2, kV2, dc2, pm2, an2, cd2, ct2, l2, c2⟩ := DH.def_none (c.def_ 2 rfl) (c.fact 15 rfl) (c.fact 16 rfl)
  obtain ⟨oc3, od3, sl3, kV3, dc3, pm3, an3, cd3, ct3, l3, c3⟩ := DH.def_none (c.def_ 3 rfl) (c.fact 18 rfl) (c.fact 19 rfl)
  obtain ⟨oc4, od4, sl4, kV4, dc4, pm4, an4, cd4, ct4, l4, c4⟩ := DH.def_none (c.def_ 4 rfl) (c.fact 21 rfl) (c.fact 22 rfl)
  obtain ⟨oc5, od5, sl5, kV5, dc5, pm5, an5, cd5, ct5, l5, c5⟩ := DH.def_none (c.def_ 5 rfl) (c.fact 24 rfl) (c.fact 25 rfl)
  obtain ⟨oc6, od6, sl6, kV6, dc6, pm6, an6, cd6, ct6, l6, c6⟩ := DH.def_none (c.def_ 6 rfl) (c.fact 27 rfl) (c.fact 28 rfl)
  obtain ⟨oc7, od7, sl7, kV7, dc7, pm7, an7, cd7, ct7, l7, c7⟩ := DH.def_none (c.def_ 7 rfl) (c.fact 30 rfl) (c.fact 31 rfl)
  obtain ⟨oc8, od8, sl8, kV8, dc8, pm8, an8, cd8, ct8, l8, c8⟩ := DH.def_none (c.def_ 8 rfl) (c.fact 33 rfl) (c.fact 34 rfl)
  obtain ⟨oc9, od9, sl9, kV9, dc9, pm9, an9, cd9, ct9, l9, c9⟩ := DH.def_none (c.def_ 9 rfl) (c.fact 36 rfl) (c.fact 37 rfl)
  obtain ⟨oc10, od10, sl10, kV10, dc10, pm10, an10, cd10, ct10, l10, c10⟩ := DH.def_none (c.def_ 10 rfl) (c.fact 39 rfl) (c.fact 40 rfl)
  obtain ⟨rr11, r11⟩ := DH.rec_get (c.fact 42 rfl)
  obtain ⟨oc11, od11, sl11, kV11, dc11, pm11, an11, cd11, ct11, l11, c11⟩ := DH.def_none (c.def_ 11 rfl) (c.fact 43 rfl) (c.fact 44 rfl)
  obtain ⟨oc12, od12, sl12, kV12, dc12, pm12, an12, cd12, ct12, l12, c12⟩ := DH.def_none (c.def_ 12 rfl) (c.fact 46 rfl) (c.fact 47 rfl)
  obtain ⟨oc13, od13, sl13, kV13, dc13, pm13, an13, cd13, ct13, l13, c13⟩ := DH.def_none (c.def_ 13 rfl) (c.fact 49 rfl) (c.fact 50 rfl)
  obtain ⟨oc14, od14, sl14, kV14, dc14, pm14, an14, cd14, ct14, l14, c14⟩ := DH.def_none (c.def_ 14 rfl) (c.fact 52 rfl) (c.fact 53 rfl)
  obtain ⟨oc15, od15, sl15, kV15, dc15, pm15, an15, cd15, ct15, l15, c15⟩ := DH.def_none (c.def_ 15 rfl) (c.fact 55 rfl) (c.fact 56 rfl)
  obtain ⟨oc16, od16, sl16, kV16, dc16, pm16, an16, cd16, ct16, l16, c16⟩ := DH.def_none (c.def_ 16 rfl) (c.fact 58 rfl) (c.fact 59 rfl)
  obtain ⟨oc17, od17, sl17, kV17, dc17, pm17, an17, cd17, ct17, l17, c17⟩ := DH.def_none (c.def_ 17 rfl) (c.fact 61 rfl) (c.fact 62 rfl)
  obtain ⟨oc18, od18, sl18, kV18, dc18, pm18, an18, cd18, ct18, l18, c18⟩ := DH.def_none (c.def_ 18 rfl) (c.fact 64 rfl) (c.fact 65 rfl)
  obtain ⟨rr19, r19⟩ := DH.rec_get (c.fact 67 rfl)
  obtain ⟨oc19, od19, sl19, kV19, dc19, pm19, an19, cd19, ct19, l19, c19⟩ := DH.def_none (c.def_ 19 rfl) (c.fact 68 rfl) (c.fact 69 rfl)
  obtain ⟨rr20, r20⟩ := DH.rec_get (c.fact 71 rfl)
  obtain ⟨oc20, od20, sl20, kV20, dc20, pm20, an20, cd20, ct20, l20, c20⟩ := DH.def_none (c.def_ 20 rfl) (c.fact 72 rfl) (c.fact 73 rfl)
  obtain ⟨rr21, r21⟩ := DH.rec_get (c.fact 75 rfl)
  obtain ⟨oc21, od21, sl21, kV21, dc21, pm21, an21, cd21, ct21, l21, c21⟩ := DH.def_none (c.def_ 21 rfl) (c.fact 76 rfl) (c.fact 77 rfl)
  obtain ⟨oc22, od22, sl22, kV22, dc22, pm22, an22, cd22, ct22, l22, c22⟩ := DH.def_none (c.def_ 22 rfl) (c.fact 79 rfl) (c.fact 80 rfl)
  obtain ⟨oc23, od23, sl23, kV23, dc23, pm23, an23, cd23, ct23, l23, c23⟩ := DH.def_none (c.def_ 23 rfl) (c.fact 82 rfl) (c.fact 83 rfl)
  obtain ⟨rr24, r24⟩ := DH.rec_get (c.fact 85 rfl)
  obtain ⟨oc24, od24, sl24, kV24, dc24, pm24, an24, cd24, ct24, l24, c24⟩ := DH.def_none (c.def_ 24 rfl) (c.fact 86 rfl) (c.fact 87 rfl)
  obtain ⟨oc25, od25, sl25, kV25, dc25, pm25, an25, cd25, ct25, l25, c25⟩ := DH.def_none (c.def_ 25 rfl) (c.fact 89 rfl) (c.fact 90 rfl)
  obtain ⟨oc26, od26, sl26, kV26, dc26, pm26, an26, cd26, ct26, l26, c26⟩ := DH.def_none (c.def_ 26 rfl) (c.fact 92 rfl) (c.fact 93 rfl)
  obtain ⟨oc27, od27, sl27, kV27, dc27, pm27, an27, cd27, ct27, l27, c27⟩ := DH.def_none (c.def_ 27 rfl) (c.fact 95 rfl) (c.fact 96 rfl)
  obtain ⟨oc28, od28, sl28, kV28, dc28, pm28, an28, cd28, ct28, l28, c28⟩ := DH.def_none (c.def_ 28 rfl) (c.fact 98 rfl) (c.fact 99 rfl)
  obtain ⟨rr29, r29⟩ := DH.rec_get (c.fact 101 rfl)
  obtain ⟨oc29, od29, sl29, kV29, dc29, pm29, an29, cd29, ct29, l29, c29⟩ := DH.def_none (c.def_ 29 rfl) (c.fact 102 rfl) (c.fact 103 rfl)
  obtain ⟨rr30, r30⟩ := DH.rec_get (c.fact 105 rfl)
  obtain ⟨oc30, od30, sl30, kV30, dc30, pm30, an30, cd30, ct30, l30, c30⟩ := DH.def_none (c.def_ 30 rfl) (c.fact 106 rfl) (c.fact 107 rfl)
  obtain ⟨oc31, od31, sl31, kV31, dc31, pm31, an31, cd31, ct31, l31, c31⟩ := DH.def_none (c.def_ 31 rfl) (c.fact 109 rfl) (c.fact 110 rfl)
  obtain ⟨oc32, od32, sl32, kV32, dc32, pm32, an32, cd32, ct32, l32, c32⟩ := DH.def_none (c.def_ 32 rfl) (c.fact 112 rfl) (c.fact 113 rfl)
  obtain ⟨rr33, r33⟩ := DH.rec_get (c.fact 116 rfl)
  obtain ⟨T33, cT33, oT33, v33_0, nT33, sT33, oc33, od33, sl33, kV33, dc33, pm33, an33, cd33, ct33, uT33, dT33, l33, c33⟩ := DH.def_oneT (c.def_ 33 rfl) (c.fact 118 rfl) (c.fact 119 rfl)
  obtain ⟨oc34, od34, sl34, kV34, dc34, pm34, an34, cd34, ct34, l34, c34⟩ := DH.def_none (c.def_ 34 rfl) (c.fact 121 rfl) (c.fact 122 rfl)
  obtain ⟨oc35, od35, sl35, kV35, dc35, pm35, an35, cd35, ct35, l35, c35⟩ := DH.def_none (c.def_ 35 rfl) (c.fact 124 rfl) (c.fact 125 rfl)
  exact all_mk X G hfa0 (hp0 c).1 (hp0 c).2.1 (hp0 c).2.2.1 (hp0 c).2.2.2.1 (hp0 c).2.2.2.2.1 (hp0 c).2.2.2.2.2.1 (hp0 c).2.2.2.2.2.2.1 (hp0 c).2.2.2.2.2.2.2 (hp1 c) cv0_GREATEST cv0_MOST_KINDS (hp4 c).1 (hp4 c).2.1 (hp4 c).2.2.1 (hp4 c).2.2.2.1 (hp4 c).2.2.2.2.1 (hp4 c).2.2.2.2.2.1 (hp4 c).2.2.2.2.2.2.1 (hp4 c).2.2.2.2.2.2.2 (hp5 c).1 (hp5 c).2.1 (hp5 c).2.2.1 (hp5 c).2.2.2.1 (hp5 c).2.2.2.2.1 (hp5 c).2.2.2.2.2.1 (hp5 c).2.2.2.2.2.2.1 (hp5 c).2.2.2.2.2.2.2 (hp6 c).1 (hp6 c).2.1 (hp6 c).2.2.1 (hp6 c).2.2.2.1 (hp6 c).2.2.2.2.1 (hp6 c).2.2.2.2.2.1 (hp6 c).2.2.2.2.2.2.1 (hp6 c).2.2.2.2.2.2.2 (hp7 c).1 (hp7 c).2.1 (hp7 c).2.2.1 (hp7 c).2.2.2.1 (hp7 c).2.2.2.2.1 (hp7 c).2.2.2.2.2.1 (hp7 c).2.2.2.2.2.2.1 (hp7 c).2.2.2.2.2.2.2 (hp8 c).1 (hp8 c).2.1 (hp8 c).2.2.1 (hp8 c).2.2.2.1 (hp8 c).2.2.2.2.1 (hp8 c).2.2.2.2.2 l0 c0 (hp11 c).1 (hp11 c).2 l1 c1 (hp14 c).1 (hp14 c).2 l2 c2 (hp17 c).1 (hp17 c).2 l3 c3 (hp20 c).1 (hp20 c).2 l4 c4 (hp23 c).1 (hp23 c).2 l5 c5 (hp26 c).1 (hp26 c).2 l6 c6 (hp29 c).1 (hp29 c).2 l7 c7 (hp32 c).1 (hp32 c).2 l8 c8 (hp35 c).1 (hp35 c).2.1 (hp35 c).2.2 l9 c9 (hp38 c).1 (hp38 c).2 l10 c10 (hp41 c).1 (hp41 c).2.1 (hp41 c).2.2.1 (hp41 c).2.2.2 r11 l11 c11 (hp45 c).1 (hp45 c).2 l12 c12 (hp48 c).1 (hp48 c).2 l13 c13 (hp51 c).1 (hp51 c).2 l14 c14 (hp54 c).1 (hp54 c).2 l15 c15 (hp57 c).1 (hp57 c).2.1 (hp57 c).2.2 l16 c16 (hp60 c).1 (hp60 c).2 l17 c17 (hp63 c).1 (hp63 c).2 l18 c18 (hp66 c).1 (hp66 c).2.1 (hp66 c).2.2.1 (hp66 c).2.2.2 r19 l19 c19 (hp70 c).1 (hp70 c).2.1 (hp70 c).2.2.1 (hp70 c).2.2.2 r20 l20 c20 (hp74 c).1 (hp74 c).2.1 (hp74 c).2.2.1 (hp74 c).2.2.2 r21 l21 c21 (hp78 c).1 (hp78 c).2.1 (hp78 c).2.2 l22 c22 (hp81 c).1 (hp81 c).2.1 (hp81 c).2.2 l23 c23 (hp84 c).1 (hp84 c).2.1 (hp84 c).2.2.1 (hp84 c).2.2.2 r24 l24 c24 (hp88 c).1 (hp88 c).2.1 (hp88 c).2.2.1 (hp88 c).2.2.2 l25 c25 (hp91 c).1 (hp91 c).2.1 (hp91 c).2.2 l26 c26 (hp94 c).1 (hp94 c).2 l27 c27 (hp97 c).1 (hp97 c).2.1 (hp97 c).2.2 l28 c28 (hp100 c).1 (hp100 c).2.1 (hp100 c).2.2.1 (hp100 c).2.2.2 r29 l29 c29 (hp104 c).1 (hp104 c).2.1 (hp104 c).2.2.1 (hp104 c).2.2.2 r30 l30 c30 (hp108 c).1 (hp108 c).2.1 (hp108 c).2.2 l31 c31 (hp111 c).1 (hp111 c).2 l32 c32 (hp114 c) (DH.cm_get (c.fact 115 rfl)) r33 (hp117 c) l33 uT33 dT33 c33 (hp120 c).1 (hp120 c).2 l34 c34 (hp123 c).1 (hp123 c).2 l35 c35 (hp126 c).1 (hp126 c).2.1 (hp126 c).2.2.1 (hp126 c).2.2.2.1 (hp126 c).2.2.2.2.1 (hp126 c).2.2.2.2.2.1 (hp126 c).2.2.2.2.2.2.1 (hp126 c).2.2.2.2.2.2.2 (hp127 c).1 (hp127 c).2.1 (hp127 c).2.2.1 (hp127 c).2.2.2.1 (hp127 c).2.2.2.2.1 (hp127 c).2.2.2.2.2.1 (hp127 c).2.2.2.2.2.2.1 (hp127 c).2.2.2.2.2.2.2 (hp128 c) hlaw
end LAW
open PySem PySem.W PyProof.Rows in
set_option maxRecDepth 100000 in
set_option maxHeartbeats 0 in
theorem PySem.Challenge.cw_pullplain_k03_states_put_together_holds : PySem.Challenge.rw_pullplain_k03_states_put_together.Holds := by
  w_on; refine LAW.hopen fun said => ?_
  refine HandSHeadRun.head_any (r := OpenLaw.row PySem.Challenge.rw_pullplain_k03_states_put_together) (q := LAW.hqv) (H := LAW.hhk) (ob := LAW.hob) (M := 15000) (loose := LAW.hnames) (d := HandSHeadRun.topDef (OpenLaw.row PySem.Challenge.rw_pullplain_k03_states_put_together).prog 43) (kwd := []) LAW.hob_eq (by kernel_rfl) (fun s => by kernel_rfl) LAW.hrun (by kernel_rfl) (by kernel_rfl) (by kernel_rfl) (by rfl) (by first | assumption | decide +kernel) (by decide +kernel) ⟨rfl, rfl, rfl, rfl, rfl, by decide +kernel⟩ ?hw ?hc
  case hw => w_witness2
  case hc =>
    refine DL.walk_ofGE (l := PySem.Challenge.rw_pullplain_k03_states_put_together) (k := 9) rfl (by kernel_rfl) ⟨rfl, by decide, by decide⟩ ?F
    intro w mg fa h Y G hmg0
    obtain ⟨K, KX, hT, c⟩ := Y
    have hmg : mg ("law" : PySem.Str) = some (.ref fa) := by
      have e : (HandSHeadRun.topDef (OpenLaw.row PySem.Challenge.rw_pullplain_k03_states_put_together).prog 43).name = ("law" : PySem.Str) := by kernel_rfl
      rw [← e]
      exact hmg0
    exact ⟨K, KX, hT, LAW.head_ok (l := PySem.Challenge.rw_pullplain_k03_states_put_together) (w := w) KX G hmg c LAW.law_ok⟩
