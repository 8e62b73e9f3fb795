import PyProof.Rows.All
import HandS.Base
import HandS.Call
import HandS.List
import HandS.Comp
import HandS.Dict
import HandS.Exc
import HandS.Lambda
import HandS.Wide
import HandS.TupLe
import HandS.TupAny
import HandS.IsInst
import HandS.Deep
import HandS.TupMul
import HandS.TupLen
import HandS.WordsDict
import HandS.Text
import HandS.ForExc
import HandS.Small
import HandS.Ends
import HandS.RaiseMore
import HandS.Defaults
import HandS.More
import HandS.Star
import HandS.Property
import OpenK.KMeth
import HandS.ClsMeth
import HandS.OwnEq
import HandS.Zip
import HandS.SortRule
import HandS.Iter
import HandS.DictTup
import HandS.DictComp
import HandS.ExcValue
import PyProof.ReprLen
import HandS.ExcInit
import HandS.ExcField
import HandS.ExcIs
import KE.KExcIs
import KE.KRevSl
import KE.GoesEnum
import KE.KDictKeyed
import KE.KDictCopyH
import PyProof.WalkInts
import PyProof.SeqI3
import HandS.Style
import KE.KDictWalk
import PyProof.Rows.RuleB_bool
import HandS.GenList
import HandS.RepeatKit
import HandS.SetFor
import HandS.Strs
import PyProof.Rows.RuleDivmod
import HandS.Conv
import HandS.SortKw
import KE.DataMinMax
import HandS.Flow
import PyProof.CollectIter
import KE.GoesEnumKw
import HandS.FStr
import KE.KUnpackStar
import PyProof.FString3
import PyProof.StrOps2
import PyProof.Rows.StrIntSpec
import HandS.SuiteRaise
import HandS.RaiseFrom
import HandS.ExcInitHot
import HandS.ForMost
import KE.KStateDown
import HandS.Head0
import HandS.Head1
import HandS.Head2
import HandS.HeadHook1
import HandS.HeadHook2
import KE.RegKIsAll
import HandS.WordsExc
import KE.KNestM
import Wide.FinOn
import PySem.Challenge.RW_pullplain_k16_words_made
set_option Elab.async false
set_option linter.all false
set_option maxRecDepth 100000
set_option maxHeartbeats 4000000
/-! DT0: marks in the part of the heap: which tables of code objects are told of. -/
namespace DL
open PySem L2
/-- the table, the name of the lambdas made there, the code object -/
def TKc (K : PySem.W.Frag) : List (Addr × Str × Addr) := K.filterMap fun e => match Nat.beq e.1 mainGlobals with
  | true => (match e.2.data with
    | .fields vs => (match vs.toList with
      | [.ref P, .str q _, .ref c] => some (P, q, c)
      | _ => none)
    | _ => none)
  | false => none
def TK (K : PySem.W.Frag) : List (Addr × Str) := (TKc K).map fun t => (t.1, t.2.1)
end DL

/-! DH: the head's facts, read by a Hook of one's own. -/
namespace DH
open PySem PySem.Spec PyProof.Rows L2
/-- a property's getter, a class method's def, by their records -/
def recF (K : PySem.W.Frag) (q : Addr) (n : String) : Addr := match PySem.W.recIn K q n with
  | some (.ref f :: _) => f
  | _ => 0
def recB (K : PySem.W.Frag) (q : Addr) (n : String) : Bool := match PySem.W.recIn K q n with
  | some (.ref _ :: _) => true
  | _ => false
theorem rec_get {K : PySem.W.Frag} {q : Addr} {n : String} (h : recB K q n = true) : ∃ rr, PySem.W.recIn K q n = some (.ref (recF K q n) :: rr) := by
  unfold recB at h
  unfold recF
  split at h
  · rename_i f rr e
    rw [e]
    exact ⟨rr, rfl⟩
  · cases h
/-- a class method as it is found -/
def cmQ (K : PySem.W.Frag) (C : Addr) (m : Str) : Addr := match PySem.W.findCls K (.ref C) (.type "type") m with
  | some (.get _ (.ref q) _ _) => q
  | _ => 0
def cmB (K : PySem.W.Frag) (C : Addr) (m : Str) : Bool := match PySem.W.findCls K (.ref C) (.type "type") m with
  | some (.get g (.ref _) a b) => decide (g = .builtin "classmethod.__get__") && (decide (a = .none) && decide (b = .ref C))
  | _ => false
theorem cm_get {K : PySem.W.Frag} {C : Addr} {m : Str} (h : cmB K C m = true) : PySem.W.findCls K (.ref C) (.type "type") m = some (.get (.builtin "classmethod.__get__") (.ref (cmQ K C m)) .none (.ref C)) := by
  unfold cmB at h
  unfold cmQ
  split at h
  · rename_i g q a b e
    rw [e]
    obtain ⟨h1, h2⟩ := Bool.and_eq_true_iff.mp h
    obtain ⟨h2, h3⟩ := Bool.and_eq_true_iff.mp h2
    rw [of_decide_eq_true h1, of_decide_eq_true h2, of_decide_eq_true h3]
  · cases h
/-- a class's whole number -/
def cvB (K : PySem.W.Frag) (C : Addr) (m : Str) (v : Int) : Bool := match PySem.W.findCls K (.ref C) (.type "type") m with
  | some (.val (.int j _)) => decide (j = v)
  | _ => false
theorem cv_get {K : PySem.W.Frag} {C : Addr} {m : Str} {v : Int} (h : cvB K C m v = true) : ∃ t, PySem.W.findCls K (.ref C) (.type "type") m = some (.val (.int v t)) := by
  unfold cvB at h
  split at h
  · rename_i j t e
    have := of_decide_eq_true h
    subst this
    exact ⟨t, e⟩
  · cases h
/-- a module's whole number -/
def giB (K : PySem.W.Frag) (g : Str) (v : Int) : Bool := match PySem.W.nsIn K mainGlobals g with
  | some (some (.int j _)) => decide (j = v)
  | _ => false
theorem gi_get {K : PySem.W.Frag} {g : Str} {v : Int} (h : giB K g v = true) : ∃ t, PySem.W.nsIn K mainGlobals g = some (some (.int v t)) := by
  unfold giB at h
  split at h
  · rename_i j t e
    have := of_decide_eq_true h
    subst this
    exact ⟨t, e⟩
  · cases h
def gsB (K : PySem.W.Frag) (g : Str) (v : Str) : Bool := match PySem.W.nsIn K mainGlobals g with
  | some (some (.str j _)) => decide (j = v)
  | _ => false
theorem gs_get {K : PySem.W.Frag} {g : Str} {v : Str} (h : gsB K g v = true) : ∃ t, PySem.W.nsIn K mainGlobals g = some (some (.str v t)) := by
  unfold gsB at h
  split at h
  · rename_i j t e
    have := of_decide_eq_true h
    subst this
    exact ⟨t, e⟩
  · cases h
/-- a def as it stands at an address -/
abbrev FnX : Type := Option (Str × Str × Arguments × FuncBody × Scope × Addr × List (Str × Addr) × Addr)
def fnX (K : PySem.W.Frag) (f : Addr) : FnX := match K.lookup f with
  | some ⟨_, _, .func fd, _⟩ => some (fd.name, fd.qualname, fd.params, fd.body, fd.scope, fd.globals, fd.closure, fd.builtins)
  | _ => none
def dvOf (K : PySem.W.Frag) (f : Addr) : Value := match K.lookup f with
  | some ⟨_, _, .func fd, _⟩ => fd.defaults
  | _ => .none
def codeB (K : PySem.W.Frag) (f : Addr) (q : Str) : Bool := match K.lookup f with
  | some ⟨_, _, .func fd, _⟩ => PySem.W.codeIn K fd.code q
  | _ => false
def isNone : Value → Bool
  | .none => true
  | _ => false
theorem isNone_ok {v : Value} (h : isNone v = true) : v = .none := by
  cases v <;> first | rfl | cases h
structure DefX where
  ad : PySem.W.Frag → Addr
  name : Str
  qual : Str
  st : Stmt
def DefX.val (d : DefX) : FnX := some (d.name, d.qual, L2.defArgs d.st, .stmts (L2.defBody d.st), L2.defScope d.st, mainGlobals, [], builtinsNs)
theorem def_get {K : PySem.W.Frag} {f : Addr} {nm q : Str} {args : Arguments} {body : List Stmt} {sc : Scope} (e : fnX K f = some (nm, q, args, .stmts body, sc, mainGlobals, [], builtinsNs)) (c : codeB K f q = true) :
    ∃ oc od sl kV dc pm an cd ct, K.lookup f = some ⟨oc, od, .func (PySem.W.fnOf nm q args body sc (dvOf K f) kV dc pm an cd ct), sl⟩ ∧ PySem.W.codeIn K cd q = true := by
  unfold fnX at e
  unfold codeB at c
  unfold dvOf
  cases z : K.lookup f with
  | none => rw [z] at e; cases e
  | some o =>
    obtain ⟨oc, od, dt, osl⟩ := o
    rw [z] at c e
    cases dt with
    | func fd =>
      obtain ⟨n1, n2, n3, n4, n5, n6, n7, n8, n9, n10, n11, n12, n13, n14, n15⟩ := fd
      have e2 : (some (n1, n2, n3, n4, n5, n6, n7, n15) : FnX) = some (nm, q, args, .stmts body, sc, mainGlobals, [], builtinsNs) := e
      simp only [Option.some.injEq, Prod.mk.injEq] at e2
      obtain ⟨h1, h2, h3, h4, h5, h6, h7, h8⟩ := e2
      subst h1 h2 h3 h4 h5 h6 h7 h8
      exact ⟨oc, od, osl, n9, n10, n11, n12, n13, n14, rfl, c⟩
    | _ => cases c
theorem def_none {K : PySem.W.Frag} {f : Addr} {nm q : Str} {args : Arguments} {body : List Stmt} {sc : Scope} (e : fnX K f = some (nm, q, args, .stmts body, sc, mainGlobals, [], builtinsNs)) (c : codeB K f q = true) (d : isNone (dvOf K f) = true) :
    ∃ oc od sl kV dc pm an cd ct, K.lookup f = some ⟨oc, od, .func (PySem.W.fnOf nm q args body sc .none kV dc pm an cd ct), sl⟩ ∧ PySem.W.codeIn K cd q = true := by
  have h := def_get e c
  rw [isNone_ok d] at h
  exact h
/-- one default, a tuple of one value -/
def dfB (K : PySem.W.Frag) (v : Value) : Bool := match v with
  | .ref T => (match K.lookup T with
    | some ⟨_, _, .seq its _, _⟩ => (match its.toList with
      | [_] => true
      | _ => false)
    | _ => false)
  | _ => false
theorem df_get {K : PySem.W.Frag} {v : Value} (h : dfB K v = true) : ∃ T cT oT x nT sT, v = .ref T ∧ K.lookup T = some ⟨cT, oT, .seq #[x] nT, sT⟩ := by
  unfold dfB at h
  split at h
  · rename_i T
    split at h
    · rename_i cT oT its nT sT e
      split at h
      · rename_i x e2
        have : its = #[x] := by
          obtain ⟨l⟩ := its
          simp only at e2
          rw [e2]
        subst this
        exact ⟨T, _, _, _, _, _, rfl, e⟩
      · cases h
    · cases h
  · cases h
theorem def_one {K : PySem.W.Frag} {f : Addr} {nm q : Str} {args : Arguments} {body : List Stmt} {sc : Scope} (e : fnX K f = some (nm, q, args, .stmts body, sc, mainGlobals, [], builtinsNs)) (c : codeB K f q = true) (d : dfB K (dvOf K f) = true) :
    ∃ T cT oT x nT sT oc od sl kV dc pm an cd ct, K.lookup T = some ⟨cT, oT, .seq #[x] nT, sT⟩ ∧ K.lookup f = some ⟨oc, od, .func (PySem.W.fnOf nm q args body sc (.ref T) kV dc pm an cd ct), sl⟩ ∧ PySem.W.codeIn K cd q = true := by
  have h := def_get e c
  obtain ⟨T, cT, oT, x, nT, sT, e1, e2⟩ := df_get d
  rw [e1] at h
  obtain ⟨oc, od, sl, kV, dc, pm, an, cd, ct, l, c⟩ := h
  exact ⟨T, cT, oT, x, nT, sT, oc, od, sl, kV, dc, pm, an, cd, ct, e2, l, c⟩
/-- an own exception class with an __init__ -/
def oexB (K : PySem.W.Frag) (C : Addr) : Bool := match K.lookup C with
  | some ⟨.type n, _, .cls cd, sl⟩ => (match cd.mro, sl.toList with
    | .ref C' :: bm, [_, _, _, _, some (.builtin m), _] => n == "type" && C' == C && m == "ValueError.__new__" && !cd.hasDel && cd.hasDict && PySem.HandSPX.refsVE bm
    | _, _ => false)
  | _ => false
theorem oex_get {K : PySem.W.Frag} {C : Addr} (q : oexB K C = true) : ∃ nm q N bs bm sn sub ab col dd k0 k1 k2 k3 k5, K.lookup C = some (excClassObj nm q C N bs bm true sn sub ab col dd k0 k1 k2 k3 k5 "ValueError.__new__") ∧ PySem.HandSPX.refsVE bm = true := by
  unfold oexB at q
  split at q
  · rename_i dd cd sl ho
    split at q
    · rename_i C' bm k0 k1 k2 k3 m k5 hm hs
      simp only [Bool.and_eq_true, beq_iff_eq, Bool.not_eq_true'] at q
      obtain ⟨⟨⟨⟨⟨rfl, rfl⟩, rfl⟩, hdel⟩, hdct⟩, ht⟩ := q
      obtain ⟨nm, bs, mro, ns, qn, hd, sn, sub, ab, col, del⟩ := cd
      dsimp only at hm hdel hdct
      subst hm hdel hdct
      have hsl : sl = #[k0, k1, k2, k3, some (.builtin "ValueError.__new__"), k5] := by
        obtain ⟨l⟩ := sl
        simp only at hs
        rw [hs]
      subst hsl
      exact ⟨nm, qn, ns, bs, bm, sn, sub, ab, col, _, k0, k1, k2, k3, k5, ho, ht⟩
    · cases q
  · cases q
/-- one default, a tuple of whole numbers -/
def intV : Value → Option Int
  | .int i _ => some i
  | _ => none
def tupB (K : PySem.W.Frag) (l : List Int) (v : Value) : Bool := match v with
  | .ref a => (match K.lookup a with
    | some ⟨.type n, none, .seq its _, _⟩ => (n == "tuple") && decide (its.toList.map intV = l.map some) && decide (its.size ≤ 100)
    | _ => false)
  | _ => false
theorem vals_ints : ∀ {l : List Int} {us : List Value}, us.map intV = l.map some → L2.Vals (l.map L2.V.int) us
  | [], [], _ => .nil
  | [], u :: us, h => by cases h
  | i :: l, [], h => by cases h
  | i :: l, u :: us, h => by
    rw [List.map_cons, List.map_cons, List.cons.injEq] at h
    refine .cons ?_ (vals_ints h.2)
    have h1 := h.1
    unfold intV at h1
    split at h1
    · cases h1; exact ⟨_, rfl⟩
    · cases h1
theorem tup_get {K : PySem.W.Frag} {l : List Int} {v : Value} (h : tupB K l v = true) : ∃ (a : Addr) (o : Obj) (its : Array Value) (n : Nat), v = .ref a ∧ K.lookup a = some o ∧ o.cls = .type "tuple" ∧ o.dict = none ∧ o.data = .seq its n ∧ its.size ≤ 100 ∧ L2.Vals (l.map L2.V.int) its.toList := by
  unfold tupB at h
  split at h
  · split at h
    · rename_i e
      simp only [Bool.and_eq_true, beq_iff_eq, decide_eq_true_eq] at h
      obtain ⟨⟨rfl, h1⟩, h2⟩ := h
      exact ⟨_, _, _, _, rfl, e, rfl, rfl, rfl, h2, vals_ints h1⟩
    · cases h
  · cases h
def dfTB (K : PySem.W.Frag) (l : List Int) (v : Value) : Bool := match v with
  | .ref T => (match K.lookup T with
    | some ⟨_, _, .seq its _, _⟩ => (match its.toList with
      | [x] => tupB K l x
      | _ => false)
    | _ => false)
  | _ => false
theorem dfT_get {K : PySem.W.Frag} {l : List Int} {v : Value} (h : dfTB K l v = true) : ∃ T cT oT x nT sT, v = .ref T ∧ K.lookup T = some ⟨cT, oT, .seq #[x] nT, sT⟩ ∧ tupB K l x = true := by
  unfold dfTB at h
  split at h
  · rename_i T
    split at h
    · rename_i cT oT its nT sT e
      split at h
      · rename_i x e2
        have : its = #[x] := by
          obtain ⟨l⟩ := its
          simp only at e2
          rw [e2]
        subst this
        exact ⟨T, _, _, _, _, _, rfl, e, h⟩
      · cases h
    · cases h
  · cases h
theorem def_oneT {K : PySem.W.Frag} {f : Addr} {nm q : Str} {args : Arguments} {body : List Stmt} {sc : Scope} {z : List Int} (e : fnX K f = some (nm, q, args, .stmts body, sc, mainGlobals, [], builtinsNs)) (c : codeB K f q = true) (d : dfTB K z (dvOf K f) = true) :
    ∃ T cT oT x nT sT oc od sl kV dc pm an cd ct, tupB K z x = true ∧ K.lookup T = some ⟨cT, oT, .seq #[x] nT, sT⟩ ∧ K.lookup f = some ⟨oc, od, .func (PySem.W.fnOf nm q args body sc (.ref T) kV dc pm an cd ct), sl⟩ ∧ PySem.W.codeIn K cd q = true := by
  have h := def_get e c
  obtain ⟨T, cT, oT, x, nT, sT, e1, e2, e3⟩ := dfT_get d
  rw [e1] at h
  obtain ⟨oc, od, sl, kV, dc, pm, an, cd, ct, l, c⟩ := h
  exact ⟨T, cT, oT, x, nT, sT, oc, od, sl, kV, dc, pm, an, cd, ct, e3, e2, l, c⟩
/-! ### the Hook -/
abbrev Al : Type := Bool × List FnX
def obsK (fa : List (PySem.W.Frag → Bool)) (ds : List DefX) (K : PySem.W.Frag) : Al := (fa.all fun f => f K, ds.map fun d => fnX K (d.ad K))
def valK (ds : List DefX) : Al := (true, ds.map DefX.val)
def Says (fa : List (PySem.W.Frag → Bool)) (ds : List DefX) (K : PySem.W.Frag) : Prop := obsK fa ds K = valK ds
/-- what an object names, as far as the facts go -/
def kidsO (o : Obj) : List Addr := match o.data with
  | .cls cd => [cd.ns]
  | .dict es _ => es.toList.flatMap fun e => He.refV e.val
  | .func fd => He.refV fd.code ++ He.refV fd.defaults
  | .fields vs => (match o.cls with
    | .type n => (match n == "property" || n == "classmethod" with
      | true => (match vs.toList with
        | v :: _ => He.refV v
        | [] => [])
      | false => [])
    | _ => [])
  | .seq its _ => (match its.toList with
    | [v] => He.refV v
    | _ => [])
  | _ => []
def kids (g : Addr → Option Obj) : List Addr → List Addr
  | [] => []
  | a :: r => (match g a with
    | some o => kidsO o
    | none => []) ++ kids g r
/-- globals; namespaces, code; methods; getters, code; code -/
def asH (g : Addr → Option Obj) : List Addr :=
  [mainGlobals, cStatics] ++ (kids g [mainGlobals] ++ (kids g (kids g [mainGlobals]) ++ (kids g (kids g (kids g [mainGlobals])) ++ (kids g (kids g (kids g (kids g [mainGlobals]))) ++ (kids g (kids g (kids g (kids g (kids g [mainGlobals])))) ++ kids g (kids g (kids g (kids g (kids g (kids g [mainGlobals]))))))))))
/-- the list, worked out -/
def frL {α : Type} : List Addr → (List Addr → α) → α
  | [], k => k []
  | a :: r, k => HandSHeadRun.frNat a fun a => frL r fun r => k (a :: r)
theorem frL_eq {α : Type} : ∀ (l : List Addr) (k : List Addr → α), frL l k = k l
  | [], _ => rfl
  | a :: r, k => by
    show HandSHeadRun.frNat a (fun a => frL r fun r => k (a :: r)) = _
    rw [HandSHeadRun.frNat_eq, frL_eq r]
def asF {α : Type} (g : Addr → Option Obj) (k : List Addr → α) : α :=
  frL (kids g [mainGlobals]) fun l1 => frL (kids g l1) fun l2 => frL (kids g l2) fun l3 => frL (kids g l3) fun l4 => frL (kids g l4) fun l5 => frL (kids g l5) fun l6 => frL ([mainGlobals, cStatics] ++ (l1 ++ (l2 ++ (l3 ++ (l4 ++ (l5 ++ l6)))))) k
theorem asF_eq {α : Type} (g : Addr → Option Obj) (k : List Addr → α) : asF g k = k (asH g) := by
  unfold asF
  simp only [frL_eq]
  rfl
/-- the part of the heap, worked out -/
def frF {α : Type} (g : Addr → Option Obj) : List Addr → (PySem.W.Frag → α) → α
  | [], k => k []
  | a :: r, k => match g a with
    | some ⟨c, d, dt, sl⟩ => frF g r fun R => k ((a, ⟨c, d, dt, sl⟩) :: R)
    | none => frF g r k
theorem frF_eq {α : Type} {g : Addr → Option Obj} : ∀ (l : List Addr) (k : PySem.W.Frag → α), frF g l k = k (He.frG g l)
  | [], _ => rfl
  | a :: r, k => by
    unfold frF He.frG
    cases e : g a with
    | none =>
      simp only [List.filterMap_cons, e, Option.map_none]
      exact frF_eq r k
    | some o =>
      obtain ⟨c, d, dt, sl⟩ := o
      simp only [List.filterMap_cons, e, Option.map_some]
      exact frF_eq r fun R => k ((a, ⟨c, d, dt, sl⟩) :: R)
def obsF (fa : List (PySem.W.Frag → Bool)) (ds : List DefX) (g : Addr → Option Obj) : Al := asF g fun l => frF g l fun K => obsK fa ds K
def hook (fa : List (PySem.W.Frag → Bool)) (ds : List DefX) : PySem.W.Hook where
  α := Al
  obs := fun s => obsK fa ds (He.frG s.heap.get? (asH s.heap.get?))
  val := fun _ => valK ds
  says := fun _ h => ∃ K : PySem.W.Frag, K.In h ∧ Says fa ds K
  of := fun _ _ e => ⟨_, He.frG_in, e⟩
  keeps := fun _ _ _ ⟨K, hK, c⟩ k => ⟨K, PySem.W.Frag.In.keeps hK k, c⟩
theorem obsF_eq {fa : List (PySem.W.Frag → Bool)} {ds : List DefX} {g : Addr → Option Obj} {s : Shared} (h : ∀ a, g a = s.heap.get? a) : obsF fa ds g = (hook fa ds).obs s := by
  have e : g = s.heap.get? := funext h
  unfold obsF
  rw [asF_eq, frF_eq, e]
  rfl
/-! ### marks: tables of code objects -/
/-- the code object of a def, its table -/
def tabA (K : PySem.W.Frag) (f : Addr) : Addr × Addr := match K.lookup f with
  | some ⟨_, _, .func fd, _⟩ => (match fd.code with
    | .ref c => (match K.lookup c with
      | some ⟨_, _, .fields vs, _⟩ => (match (vs[11]? : Option Value) with
        | some (.ref P) => (c, P)
        | _ => (c, 0))
      | _ => (c, 0))
    | _ => (0, 0))
  | _ => (0, 0)
abbrev Mks : Type := List ((PySem.W.Frag → Addr) × Str)
def markO (P : Addr) (q : Str) (c : Addr) : Addr × Obj := (mainGlobals, ⟨.none, none, .fields #[.ref P, .str q 0, .ref c], #[]⟩)
def marksOf (K : PySem.W.Frag) (ts : Mks) : PySem.W.Frag := ts.map fun t => markO (tabA K (t.1 K)).2 t.2 (tabA K (t.1 K)).1
def isTab : Option Obj → Bool
  | some ⟨.none, none, .fields vs, sl⟩ => vs.toList.isEmpty && sl.toList.isEmpty
  | _ => false
theorem isTab_ok {o : Option Obj} (h : isTab o = true) : o = some { cls := .none, data := .fields #[] } := by
  unfold isTab at h
  split at h
  · rename_i vs sl
    obtain ⟨vs⟩ := vs
    obtain ⟨sl⟩ := sl
    simp only [Bool.and_eq_true, List.isEmpty_iff] at h
    obtain ⟨rfl, rfl⟩ := h
    rfl
  · cases h
def tabsB (g : Addr → Option Obj) (K : PySem.W.Frag) : Bool := (DL.TKc K).all fun t => isTab (g t.1) && ((K.lookup t.1).isNone && PySem.W.codeHdIn K t.2.2 t.1)
/-- the tables stand, empty -/
def TabsThere (K : PySem.W.Frag) (h : Heap) : Prop := ∀ t ∈ DL.TKc K, h.get? t.1 = some { cls := .none, data := .fields #[] } ∧ K.lookup t.1 = none ∧ PySem.W.codeHdIn K t.2.2 t.1 = true
theorem tabs_ok {h : Heap} {K : PySem.W.Frag} (e : tabsB h.get? K = true) : TabsThere K h := fun t ht => by
  have e1 := List.all_eq_true.mp e t ht
  simp only [Bool.and_eq_true] at e1
  exact ⟨isTab_ok e1.1, by simpa using e1.2.1, e1.2.2⟩
theorem look_mem {a : Addr} {o : Obj} : ∀ M : PySem.W.Frag, M.lookup a = some o → (a, o) ∈ M
  | [], e => nomatch e
  | x :: M, e => by
    rw [List.lookup_cons] at e
    split at e
    · rename_i z
      cases e
      have : a = x.1 := by simpa using z
      subst this
      exact List.mem_cons_self
    · exact List.mem_cons_of_mem _ (look_mem M e)
theorem in_marks {K M : PySem.W.Frag} {h : Heap} (k : K.In h) (g : (K.lookup mainGlobals).isSome = true) (m : ∀ e ∈ M, e.1 = mainGlobals) : (K ++ M : PySem.W.Frag).In h := fun a o e => by
  rw [List.lookup_append] at e
  cases q : K.lookup a with
  | some u => rw [q] at e; cases e; exact k _ _ q
  | none =>
    rw [q] at e
    have e : M.lookup a = some o := e
    have : (a, o) ∈ M := look_mem M e
    have z := m _ this
    have z : a = mainGlobals := z
    subst z
    rw [q] at g; cases g
theorem marks_at (K : PySem.W.Frag) (ts : Mks) : ∀ e ∈ marksOf K ts, e.1 = mainGlobals := fun e h => by
  obtain ⟨t, _, rfl⟩ := List.mem_map.mp h
  rfl
/-- what the Hook sees: the part with its marks -/
def withM (K : PySem.W.Frag) (ts : Mks) : PySem.W.Frag := K ++ marksOf K ts
def obsT (fa : List (PySem.W.Frag → Bool)) (ds : List DefX) (ts : Mks) (g : Addr → Option Obj) (K0 : PySem.W.Frag) : Bool × Al := ((K0.lookup mainGlobals).isSome && tabsB g (withM K0 ts), obsK fa ds (withM K0 ts))
/-- the marks, worked out -/
def frM {α : Type} (K : PySem.W.Frag) : Mks → (PySem.W.Frag → α) → α
  | [], k => k []
  | t :: r, k => match tabA K (t.1 K) with
    | (c, P) => HandSHeadRun.frNat P fun P => HandSHeadRun.frNat c fun c => frM K r fun M => k (markO P t.2 c :: M)
theorem frM_eq {α : Type} {K : PySem.W.Frag} : ∀ (ts : Mks) (k : PySem.W.Frag → α), frM K ts k = k (marksOf K ts)
  | [], _ => rfl
  | t :: r, k => by
    unfold frM
    simp only [HandSHeadRun.frNat_eq]
    exact frM_eq r fun M => k (markO _ t.2 _ :: M)
def frA {α : Type} : PySem.W.Frag → PySem.W.Frag → (PySem.W.Frag → α) → α
  | [], M, k => k M
  | e :: r, M, k => frA r M fun R => k (e :: R)
theorem frA_eq {α : Type} : ∀ (K M : PySem.W.Frag) (k : PySem.W.Frag → α), frA K M k = k (K ++ M)
  | [], _, _ => rfl
  | e :: r, M, k => frA_eq r M fun R => k (e :: R)
def obsFT (fa : List (PySem.W.Frag → Bool)) (ds : List DefX) (ts : Mks) (g : Addr → Option Obj) : Bool × Al :=
  asF g fun l => frF g l fun K0 => frM K0 ts fun M => frA K0 M fun K => ((K0.lookup mainGlobals).isSome && tabsB g K, obsK fa ds K)
def hookT (fa : List (PySem.W.Frag → Bool)) (ds : List DefX) (ts : Mks) : PySem.W.Hook where
  α := Bool × Al
  obs := fun s => obsT fa ds ts s.heap.get? (He.frG s.heap.get? (asH s.heap.get?))
  val := fun _ => (true, valK ds)
  says := fun _ h => ∃ K : PySem.W.Frag, K.In h ∧ TabsThere K h ∧ Says fa ds K
  of := fun _ s e => by
    have e1 := congrArg (fun z : Bool × Al => z.1) e
    have e2 := congrArg (fun z : Bool × Al => z.2) e
    have e1 : (((He.frG s.heap.get? (asH s.heap.get?)).lookup mainGlobals).isSome && tabsB s.heap.get? (withM (He.frG s.heap.get? (asH s.heap.get?)) ts)) = true := e1
    obtain ⟨a, b⟩ := Bool.and_eq_true_iff.mp e1
    exact ⟨_, in_marks He.frG_in a (marks_at _ ts), tabs_ok b, e2⟩
  keeps := fun _ _ _ ⟨K, hK, t, c⟩ k => ⟨K, PySem.W.Frag.In.keeps hK k, fun x hx => ⟨k _ _ (t x hx).1, (t x hx).2⟩, c⟩
theorem obsFT_eq {fa : List (PySem.W.Frag → Bool)} {ds : List DefX} {ts : Mks} {g : Addr → Option Obj} {s : Shared} (h : ∀ a, g a = s.heap.get? a) : obsFT fa ds ts g = (hookT fa ds ts).obs s := by
  have e : g = s.heap.get? := funext h
  unfold obsFT
  rw [asF_eq, frF_eq, frM_eq, frA_eq, e]
  rfl
/-- the fact that a def makes lambdas: its code object, the table's mark, the built-ins' module -/
def bmB (K : PySem.W.Frag) (P : Addr) : Bool := match PySem.W.nsIn K mainGlobals "__builtins__" with
  | some (some (.ref bm)) => (!Nat.beq bm builtinsNs) && ((!Nat.beq bm mainGlobals) && ((!Nat.beq bm P) && (match K.lookup bm with
    | some ⟨.type n, some d, .plain, _⟩ => (n == "module") && Nat.beq d builtinsNs
    | _ => false)))
  | _ => false
def tabB (K : PySem.W.Frag) (f : Addr) (q : Str) : Bool := match K.lookup f with
  | some ⟨_, _, .func fd, _⟩ => (match fd.code with
    | .ref c => PySem.W.codeHdIn K c (tabA K f).2 && (((DL.TK K).any fun p => Nat.beq p.1 (tabA K f).2 && (p.2 == q)) && (((DL.TK K).all fun p => !Nat.beq p.1 (tabA K f).2 || (p.2 == q)) && (bmB K (tabA K f).2 && !Nat.beq mainGlobals (tabA K f).2)))
    | _ => false)
  | _ => false
section
variable {fa : List (PySem.W.Frag → Bool)} {ds : List DefX} {K : PySem.W.Frag}
theorem Says.fact (c : Says fa ds K) (i : Nat) {f : PySem.W.Frag → Bool} (h : fa[i]? = some f) : f K = true :=
  List.all_eq_true.mp (show (fa.all fun f => f K) = true from congrArg (fun z : Al => z.1) c) f (List.mem_of_getElem? h)
theorem Says.def_ (c : Says fa ds K) (i : Nat) {d : DefX} (h : ds[i]? = some d) : fnX K (d.ad K) = d.val := by
  have e : ds.map (fun d => fnX K (d.ad K)) = ds.map DefX.val := congrArg (fun z : Al => z.2) c
  have e2 : (ds.map fun d => fnX K (d.ad K))[i]? = (ds.map DefX.val)[i]? := by rw [e]
  rw [List.getElem?_map, List.getElem?_map, h] at e2
  exact Option.some.inj e2
end
end DH

namespace LAW
open PySem L2
open PyProof.Rows hiding St
def top (i : Nat) : Stmt := PySem.Challenge.pw_pullplain_k16_words_made.main.body.getD i (.Pass ⟨0, 0, 0, 0⟩)
abbrev s_l_pen : Stmt := (top 22)
abbrev s_is_entry : Stmt := (top 19)
abbrev s_Word___init__ : Stmt := (inClass (top 20) 0)
abbrev s_Word___eq__ : Stmt := (inClass (top 20) 5)
abbrev s_l_draw : Stmt := (top 23)
abbrev s_Word_deeds : Stmt := (inClass (top 20) 1)
abbrev s_l_told : Stmt := (top 26)
abbrev s_l_made : Stmt := (top 25)
abbrev s_l_refused : Stmt := (top 28)
abbrev s_Word___add__ : Stmt := (inClass (top 20) 6)
abbrev s_l_word : Stmt := (top 24)
abbrev s_Word___len__ : Stmt := (inClass (top 20) 2)
abbrev s_Word___getitem__ : Stmt := (inClass (top 20) 3)
abbrev s_l_faces_right : Stmt := (top 27)
abbrev s_Word___mul__ : Stmt := (inClass (top 20) 7)
abbrev s_law : Stmt := (top 29)
abbrev hC0 (K : PySem.W.Frag) : Addr := He.ga K "Word"
abbrev hE0 (K : PySem.W.Frag) : Addr := He.ga K "PlainError"
abbrev hE1 (K : PySem.W.Frag) : Addr := He.ga K "InvalidState"
abbrev hE2 (K : PySem.W.Frag) : Addr := He.ga K "InvalidWord"
abbrev hE3 (K : PySem.W.Frag) : Addr := He.ga K "InvalidDeed"
abbrev hf0 (K : PySem.W.Frag) : Addr := He.ga K "_law_pen"
abbrev hf1 (K : PySem.W.Frag) : Addr := He.ga K "is_entry"
abbrev hf2 (K : PySem.W.Frag) : Addr := He.ma K (hC0 K) "__init__"
abbrev hf3 (K : PySem.W.Frag) : Addr := He.ma K (hC0 K) "__eq__"
abbrev hf4 (K : PySem.W.Frag) : Addr := He.ga K "_law_draw"
abbrev hq5 (K : PySem.W.Frag) : Addr := He.ma K (hC0 K) "deeds"
abbrev hf5 (K : PySem.W.Frag) : Addr := DH.recF K (hq5 K) "property"
abbrev hf6 (K : PySem.W.Frag) : Addr := He.ga K "_law_told"
abbrev hf7 (K : PySem.W.Frag) : Addr := He.ga K "_law_made"
abbrev hf8 (K : PySem.W.Frag) : Addr := He.ga K "_law_refused"
abbrev hf9 (K : PySem.W.Frag) : Addr := He.ma K (hC0 K) "__add__"
abbrev hf10 (K : PySem.W.Frag) : Addr := He.ga K "_law_word"
abbrev hf11 (K : PySem.W.Frag) : Addr := He.ma K (hC0 K) "__len__"
abbrev hf12 (K : PySem.W.Frag) : Addr := He.ma K (hC0 K) "__getitem__"
abbrev hf13 (K : PySem.W.Frag) : Addr := He.ga K "_law_faces_right"
abbrev hf14 (K : PySem.W.Frag) : Addr := He.ma K (hC0 K) "__mul__"
abbrev hf15 (K : PySem.W.Frag) : Addr := He.ga K "law"
def hfa : List (PySem.W.Frag → Bool) := [fun K => decide ((PySem.W.nsIn K mainGlobals "Word" = some (some (.ref (hC0 K)))) ∧ (PySem.W.plainGet K (hC0 K) Str.empty = true) ∧ (PySem.W.hasDictIn K (hC0 K) = true) ∧ (PySem.W.plainOver K (hC0 K) = true) ∧ (PySem.W.findIn K (.ref (hC0 K)) "__setattr__" = some (some (.builtin "object.__setattr__"))) ∧ (PySem.W.makesIn K (hC0 K) = true) ∧ (PySem.W.keepIn K (.ref (hC0 K)) = true) ∧ (PySem.W.selfFirst K (hC0 K) = true)),
  fun K => decide ((PySem.W.findIn K (.ref (hC0 K)) "__rmul__" = some none) ∧ (PySem.W.mroIn K (hC0 K) (.type "object") = some true) ∧ (PySem.W.findIn K (.ref (hC0 K)) "__ne__" = some (some (.builtin "object.__ne__"))) ∧ (PySem.W.mroIn K (hC0 K) (.type "NoneType") = some false) ∧ (PySem.W.mroIn K (hC0 K) (.type "int") = some false) ∧ (PySem.W.mroIn K (hC0 K) (.type "tuple") = some false) ∧ (PySem.W.mroIn K (hC0 K) (.type "list") = some false) ∧ (PySem.W.mroIn K (hC0 K) (.type "str") = some false)),
  fun K => decide ((PySem.W.mroIn K (hC0 K) (.type "dict") = some false) ∧ (PySem.W.findIn K (.ref (hC0 K)) "__class__" = some (some (.builtin "object.__class__"))) ∧ (PySem.W.specialIn K (.builtin "object.__class__") "__get__" = some (some (.builtin "getset_descriptor.__get__"))) ∧ (PySem.W.takesIn K (.builtin "object.__class__") = some true) ∧ (PySem.W.kitOne K (.type "NoneType") (.ref (hC0 K)) = some false) ∧ (PySem.W.kitOne K (.type "int") (.ref (hC0 K)) = some false) ∧ (PySem.W.kitOne K (.type "tuple") (.ref (hC0 K)) = some false) ∧ (PySem.W.kitOne K (.type "list") (.ref (hC0 K)) = some false)),
  fun K => decide ((PySem.W.kitOne K (.type "str") (.ref (hC0 K)) = some false) ∧ (PySem.W.kitOne K (.type "dict") (.ref (hC0 K)) = some false) ∧ (PySem.W.findIn K (.ref (hC0 K)) "rows" = some none) ∧ (PySem.W.nsIn K mainGlobals "PlainError" = some (some (.ref (hE0 K)))) ∧ (PySem.W.nsIn K mainGlobals "InvalidState" = some (some (.ref (hE1 K)))) ∧ (PySem.W.nsIn K mainGlobals "InvalidWord" = some (some (.ref (hE2 K)))) ∧ (PySem.W.nsIn K mainGlobals "InvalidDeed" = some (some (.ref (hE3 K)))) ∧ (PySem.W.specialIn K (.builtin "object.__class__") "__get__" = some (some (.builtin "getset_descriptor.__get__")))),
  fun K => decide ((PySem.W.takesIn K (.builtin "object.__class__") = some true) ∧ (PySem.W.subIn K (.ref (hE0 K)) (.type "BaseException") = some true) ∧ (PySem.W.typeIn K (.ref (hE0 K)) = some (.type "type")) ∧ (PySem.W.hasDictIn K (hE0 K) = true) ∧ (PySem.W.subIn K (.ref (hE2 K)) (.type "BaseException") = some true) ∧ (PySem.W.typeIn K (.ref (hE2 K)) = some (.type "type")) ∧ (PySem.W.keepIn K (.ref (hE2 K)) = true) ∧ (PySem.W.excIn K (hE2 K) PySem.HandSPX.veTail "ValueError.__new__" = true)),
  fun K => decide ((PySem.W.hasDictIn K (hE2 K) = true) ∧ (PySem.W.findIn K (.ref (hE2 K)) "__getattribute__" = some (some (.builtin "BaseException.__getattribute__"))) ∧ (PySem.W.findIn K (.ref (hE2 K)) "__getattr__" = some none) ∧ (PySem.W.findIn K (.ref (hE2 K)) "__class__" = some (some (.builtin "object.__class__"))) ∧ (PySem.W.mroIn K (hE2 K) (.type "object") = some true) ∧ (PySem.W.subIn K (.ref (hE2 K)) (.ref (hE0 K)) = some true) ∧ (PySem.W.kitOne K (.ref (hE2 K)) (.ref (hE2 K)) = some true) ∧ (PySem.W.kitOne K (.ref (hE2 K)) (.type "ValueError") = some true)),
  fun K => decide ((PySem.W.kitOne K (.ref (hE2 K)) (.ref (hE3 K)) = some false) ∧ (PySem.W.kitOne K (.ref (hE2 K)) (.ref (hE1 K)) = some false) ∧ (PySem.W.nsIn K mainGlobals "_law_pen" = some (some (.ref (hf0 K))))),
  fun K => DH.codeB K (hf0 K) "_law_pen",
  fun K => DH.isNone (DH.dvOf K (hf0 K)),
  fun K => decide ((PySem.W.keepIn K (.ref (hf0 K)) = true) ∧ (PySem.W.nsIn K mainGlobals "is_entry" = some (some (.ref (hf1 K))))),
  fun K => DH.codeB K (hf1 K) "is_entry",
  fun K => DH.isNone (DH.dvOf K (hf1 K)),
  fun K => decide ((PySem.W.keepIn K (.ref (hf1 K)) = true) ∧ (PySem.W.findIn K (.ref (hC0 K)) "__init__" = some (some (.ref (hf2 K)))) ∧ (PySem.W.isFn K (.ref (hf2 K)) = true)),
  fun K => DH.codeB K (hf2 K) "Word.__init__",
  fun K => DH.isNone (DH.dvOf K (hf2 K)),
  fun K => decide ((PySem.W.keepIn K (.ref (hf2 K)) = true) ∧ (PySem.W.findIn K (.ref (hC0 K)) "__eq__" = some (some (.ref (hf3 K)))) ∧ (PySem.W.isFn K (.ref (hf3 K)) = true)),
  fun K => DH.codeB K (hf3 K) "Word.__eq__",
  fun K => DH.isNone (DH.dvOf K (hf3 K)),
  fun K => decide ((PySem.W.keepIn K (.ref (hf3 K)) = true) ∧ (PySem.W.nsIn K mainGlobals "_law_draw" = some (some (.ref (hf4 K))))),
  fun K => DH.codeB K (hf4 K) "_law_draw",
  fun K => DH.isNone (DH.dvOf K (hf4 K)),
  fun K => decide ((PySem.W.keepIn K (.ref (hf4 K)) = true) ∧ (PySem.W.findIn K (.ref (hC0 K)) "deeds" = some (some (.ref (hq5 K)))) ∧ (PySem.W.specialIn K (.ref (hq5 K)) "__get__" = some (some (.builtin "property.__get__"))) ∧ (PySem.W.takesIn K (.ref (hq5 K)) = some true)),
  fun K => DH.recB K (hq5 K) "property",
  fun K => DH.codeB K (hf5 K) "Word.deeds",
  fun K => DH.isNone (DH.dvOf K (hf5 K)),
  fun K => decide ((PySem.W.keepIn K (.ref (hf5 K)) = true) ∧ (PySem.W.nsIn K mainGlobals "_law_told" = some (some (.ref (hf6 K))))),
  fun K => DH.codeB K (hf6 K) "_law_told",
  fun K => DH.isNone (DH.dvOf K (hf6 K)),
  fun K => decide ((PySem.W.keepIn K (.ref (hf6 K)) = true) ∧ (PySem.W.nsIn K mainGlobals "_law_made" = some (some (.ref (hf7 K))))),
  fun K => DH.codeB K (hf7 K) "_law_made",
  fun K => DH.isNone (DH.dvOf K (hf7 K)),
  fun K => decide ((PySem.W.keepIn K (.ref (hf7 K)) = true) ∧ (PySem.W.nsIn K mainGlobals "_law_refused" = some (some (.ref (hf8 K))))),
  fun K => DH.codeB K (hf8 K) "_law_refused",
  fun K => DH.isNone (DH.dvOf K (hf8 K)),
  fun K => decide ((DH.tabB K (hf8 K) "_law_refused.<locals>.<lambda>" = true) ∧ (PySem.W.keepIn K (.ref (hf8 K)) = true) ∧ (PySem.W.findIn K (.ref (hC0 K)) "__add__" = some (some (.ref (hf9 K)))) ∧ (PySem.W.isFn K (.ref (hf9 K)) = true)),
  fun K => DH.codeB K (hf9 K) "Word.__add__",
  fun K => DH.isNone (DH.dvOf K (hf9 K)),
  fun K => decide ((PySem.W.keepIn K (.ref (hf9 K)) = true) ∧ (PySem.W.nsIn K mainGlobals "_law_word" = some (some (.ref (hf10 K))))),
  fun K => DH.codeB K (hf10 K) "_law_word",
  fun K => DH.isNone (DH.dvOf K (hf10 K)),
  fun K => decide ((PySem.W.keepIn K (.ref (hf10 K)) = true) ∧ (PySem.W.findIn K (.ref (hC0 K)) "__len__" = some (some (.ref (hf11 K)))) ∧ (PySem.W.isFn K (.ref (hf11 K)) = true)),
  fun K => DH.codeB K (hf11 K) "Word.__len__",
  fun K => DH.isNone (DH.dvOf K (hf11 K)),
  fun K => decide ((PySem.W.keepIn K (.ref (hf11 K)) = true) ∧ (PySem.W.findIn K (.ref (hC0 K)) "__getitem__" = some (some (.ref (hf12 K)))) ∧ (PySem.W.isFn K (.ref (hf12 K)) = true) ∧ (PySem.W.fnIn K (hf12 K) = true)),
  fun K => DH.codeB K (hf12 K) "Word.__getitem__",
  fun K => DH.isNone (DH.dvOf K (hf12 K)),
  fun K => decide ((PySem.W.keepIn K (.ref (hf12 K)) = true) ∧ (PySem.W.nsIn K mainGlobals "_law_faces_right" = some (some (.ref (hf13 K))))),
  fun K => DH.codeB K (hf13 K) "_law_faces_right",
  fun K => DH.isNone (DH.dvOf K (hf13 K)),
  fun K => decide ((PySem.W.keepIn K (.ref (hf13 K)) = true) ∧ (PySem.W.findIn K (.ref (hC0 K)) "__mul__" = some (some (.ref (hf14 K)))) ∧ (PySem.W.isFn K (.ref (hf14 K)) = true)),
  fun K => DH.codeB K (hf14 K) "Word.__mul__",
  fun K => DH.isNone (DH.dvOf K (hf14 K)),
  fun K => decide ((PySem.W.keepIn K (.ref (hf14 K)) = true) ∧ (PySem.W.nsIn K mainGlobals "law" = some (some (.ref (hf15 K))))),
  fun K => DH.codeB K (hf15 K) "law",
  fun K => DH.isNone (DH.dvOf K (hf15 K)),
  fun K => decide ((DH.tabB K (hf15 K) "law.<locals>.<lambda>" = true) ∧ (PySem.W.keepIn K (.ref (hf15 K)) = true)),
  fun K => DH.giB K "GREATEST_ENTRY" (4 : Int),
  fun K => DH.giB K "MOST_ENTRIES" (12 : Int),
  fun K => decide ((PySem.W.nsIn K mainGlobals "ValueError" = some none) ∧ (PySem.W.nsIn K mainGlobals "abs" = some none) ∧ (PySem.W.nsIn K mainGlobals "all" = some none) ∧ (PySem.W.nsIn K mainGlobals "bool" = some none) ∧ (PySem.W.nsIn K mainGlobals "int" = some none) ∧ (PySem.W.nsIn K mainGlobals "isinstance" = some none) ∧ (PySem.W.nsIn K mainGlobals "len" = some none) ∧ (PySem.W.nsIn K mainGlobals "list" = some none)),
  fun K => decide ((PySem.W.nsIn K mainGlobals "range" = some none) ∧ (PySem.W.nsIn K mainGlobals "repr" = some none) ∧ (PySem.W.nsIn K mainGlobals "tuple" = some none))]
def hds : List DH.DefX := [⟨fun K => hf0 K, "_law_pen", "_law_pen", s_l_pen⟩,
  ⟨fun K => hf1 K, "is_entry", "is_entry", s_is_entry⟩,
  ⟨fun K => hf2 K, "__init__", "Word.__init__", s_Word___init__⟩,
  ⟨fun K => hf3 K, "__eq__", "Word.__eq__", s_Word___eq__⟩,
  ⟨fun K => hf4 K, "_law_draw", "_law_draw", s_l_draw⟩,
  ⟨fun K => hf5 K, "deeds", "Word.deeds", s_Word_deeds⟩,
  ⟨fun K => hf6 K, "_law_told", "_law_told", s_l_told⟩,
  ⟨fun K => hf7 K, "_law_made", "_law_made", s_l_made⟩,
  ⟨fun K => hf8 K, "_law_refused", "_law_refused", s_l_refused⟩,
  ⟨fun K => hf9 K, "__add__", "Word.__add__", s_Word___add__⟩,
  ⟨fun K => hf10 K, "_law_word", "_law_word", s_l_word⟩,
  ⟨fun K => hf11 K, "__len__", "Word.__len__", s_Word___len__⟩,
  ⟨fun K => hf12 K, "__getitem__", "Word.__getitem__", s_Word___getitem__⟩,
  ⟨fun K => hf13 K, "_law_faces_right", "_law_faces_right", s_l_faces_right⟩,
  ⟨fun K => hf14 K, "__mul__", "Word.__mul__", s_Word___mul__⟩,
  ⟨fun K => hf15 K, "law", "law", s_law⟩]
def hnames0 : List PySem.Str := ["PlainError", "InvalidState", "InvalidWord", "InvalidDeed", "InvalidText", "DIGITS", "number_in", "numbers_in", "row_in", "check_deeds", "step", "run", "MOST_ENTRIES", "GREATEST_ENTRY", "is_entry", "Word", "_law_pen", "_law_draw", "_law_word", "_law_made", "_law_told", "_law_faces_right", "_law_refused"]
def hnames : List PySem.Str := hnames0
abbrev hR : PySem.W.OpenRow := PySem.W.OpenLaw.row PySem.Challenge.rw_pullplain_k16_words_made
abbrev hqv : Program := PySem.W.view hR.prog [29]
def hts : DH.Mks := [(fun K => hf8 K, "_law_refused.<locals>.<lambda>"), (fun K => hf15 K, "law.<locals>.<lambda>")]
abbrev hhk : PySem.W.Hook := DH.hookT hfa hds hts
def hob (s : PySem.W.SharedT) : Bool × DH.Al := DH.obsFT hfa hds hts (HandSHeadRun.getT s)
theorem hob_eq (s : PySem.W.SharedT) : hob s = hhk.obs s.abs := DH.obsFT_eq (HandSHeadRun.getT_eq s)
set_option maxHeartbeats 0 in
theorem hrun (w : World) : HandSHeadRun.RunEq hR hqv hhk hob 15000 hnames w := by
  intro os
  kernel_rfl
set_option maxHeartbeats 0 in
theorem hopen (h : (PySem.W.OpenLaw.row PySem.Challenge.rw_pullplain_k16_words_made).wellSaid = true → (PySem.W.OpenLaw.row PySem.Challenge.rw_pullplain_k16_words_made).Holds) : PySem.Challenge.rw_pullplain_k16_words_made.Holds := by
  w_on; o_law
  exact h (by assumption)
end LAW
/-! DL0: data over the abstract heap: D, Is, the environment's invariant EnvOk, how it is carried. -/
namespace DL
open PySem L2

/-- a dict -/
def isDO : HO → Bool
  | .dK _ => true
  | .dT _ => true
  | _ => false
/-- the same object, or the same dict locked -/
def Fz (o o' : HO) : Prop := o' = o ∨ (isDO o = true ∧ ∃ od, o' = .frz od o)
theorem Fz.trans {a b c : HO} (x : Fz a b) (y : Fz b c) : Fz a c := by
  rcases x with rfl | ⟨d, od, rfl⟩
  · exact y
  · rcases y with rfl | ⟨e, _⟩
    · exact .inr ⟨d, od, rfl⟩
    · cases e
def Sub (H H' : Hp) : Prop := ∀ a o, H a = some o → ∃ o', H' a = some o' ∧ Fz o o'
theorem Sub.refl (H : Hp) : Sub H H := fun _ o h => ⟨o, h, .inl rfl⟩
theorem Sub.trans {H H1 H2 : Hp} (a : Sub H H1) (b : Sub H1 H2) : Sub H H2 := fun x o h => by
  obtain ⟨o1, h1, f1⟩ := a x o h
  obtain ⟨o2, h2, f2⟩ := b x o1 h1
  exact ⟨o2, h2, f1.trans f2⟩
/-- an exception object that is known: its class, its dict -/
def XcO (cls : Value) (d : Option Addr) (a : Addr) : HO := .ext fun h => ∃ (oe : Obj) (vs : Array Value), h.get? a = some oe ∧ Zc cls d oe ∧ oe.data = .fields vs
/-- the class of that name -/
def IsCl (K : PySem.W.Frag) (n : Str) (C : Addr) : Prop := PySem.W.nsIn K mainGlobals n = some (some (.ref C))
theorem IsCl.eq {K : PySem.W.Frag} {n : Str} {C C' : Addr} (h : IsCl K n C) (h' : IsCl K n C') : C = C' := by
  unfold IsCl at h h'
  rw [h] at h'
  cases h'; rfl
/-- plain data -/
inductive D where
  | non | bl (b : Bool) | int (i : Int) | str (s : Str) | ty (n : String) | fn (a : Addr)
  /-- a class of the module -/
  | cl (n : Str)
  | tup (ds : List D) | lst (ds : List D)
  /-- a tuple of the module's own, the script: read only -/
  | ktp (ds : List D) | slst (ds : List D)
  | dk (kvs : List (Key × D)) | dt (kvs : List (List Key × D))
  | obj (C : Str) (fs : List (Str × D))
  /-- a dict, an object, one of whose parts is a cell of its own: the one at k, at m; it stands at q -/
  | nest (q : Addr) (k : Key) (kvs : List (Key × D))
  /-- the same, the part at k locked -/
  | nestL (q : Addr) (u : HO) (k : Key) (kvs : List (Key × D))
  | nobj (qs : List (Str × Addr)) (C : Str) (fs : List (Str × D))
  /-- an exception that was caught -/
  | xc (C : Str) (fs : List (Str × D))
  /-- a thing that is only handed on: its object, what is known of it -/
  | lam (f : Addr) (φ : Hp → Prop)

/-- a tuple without a dict of its own: made here and frozen, or the module's -/
def CqT (K : PySem.W.Frag) (H : Hp) (a : Addr) (xs : List V) : Prop :=
  (∃ o : Obj, H a = some (.frz o (.tup xs)) ∧ o.dict = none) ∨
    ∃ (o : Obj) (its : Array Value) (n : Nat), K.lookup a = some o ∧ o.cls = .type "tuple" ∧ o.dict = none ∧ o.data = .seq its n ∧ its.size ≤ sizeLine ∧ Vals xs its.toList
theorem CqT.sq {K : PySem.W.Frag} {H : Hp} {a : Addr} {xs : List V} (h : CqT K H a xs) : SqT K H a xs := by
  rcases h with ⟨o, h, _⟩ | ⟨o, its, n, h1, h2, _, h4⟩
  · exact .inl (.inr ⟨o, h⟩)
  · exact .inr ⟨o, its, n, h1, h2, h4⟩
mutual
/-- the value v stands for the data d, read in H -/
inductive Is (K : PySem.W.Frag) (H : Hp) : V → D → Prop
  | non : Is K H .non .non
  | bl (b : Bool) : Is K H (.bl b) (.bl b)
  | int (i : Int) : Is K H (.int i) (.int i)
  | str (s : Str) : Is K H (.str s) (.str s)
  | ty (n : String) : Is K H (.ty n) (.ty n)
  | fn (a : Addr) : Is K H (.ref a) (.fn a)
  | cl {n : Str} {C : Addr} : IsCl K n C → Is K H (.ref C) (.cl n)
  | tup {a : Addr} {vs : List V} {ds : List D} : H a = some (.tup vs) → IsL K H vs ds → Is K H (.ref a) (.tup ds)
  | lst {a : Addr} {vs : List V} {ds : List D} : H a = some (.lst vs) → IsL K H vs ds → Is K H (.ref a) (.lst ds)
  | ktp {a : Addr} {vs : List V} {ds : List D} : CqT K H a vs → IsL K H vs ds → Is K H (.ref a) (.ktp ds)
  | slst {a : Addr} {vs : List V} {ds : List D} : SqL K H a vs → IsL K H vs ds → Is K H (.ref a) (.slst ds)
  | dk {a : Addr} {vs : List (Key × V)} {kvs : List (Key × D)} : Rd H a (.dK vs) → vs.map (·.1) = kvs.map (·.1) → IsL K H (vs.map (·.2)) (kvs.map (·.2)) → Is K H (.ref a) (.dk kvs)
  | dt {a : Addr} {vs : List (List Key × V)} {kvs : List (List Key × D)} : Rd H a (.dT vs) → vs.map (·.1) = kvs.map (·.1) → IsL K H (vs.map (·.2)) (kvs.map (·.2)) → Is K H (.ref a) (.dt kvs)
  | obj {a C dx : Addr} {n : Str} {vs : List (Str × V)} {fs : List (Str × D)} : IsCl K n C → H a = some (.ins C dx vs) → vs.map (·.1) = fs.map (·.1) → IsL K H (vs.map (·.2)) (fs.map (·.2)) → Is K H (.ref a) (.obj n fs)
  | nest {a q : Addr} {k : Key} {vs : List (Key × V)} {kvs : List (Key × D)} : Rd H a (.dK vs) → vs.map (·.1) = kvs.map (·.1) → IsL K H (vs.map (·.2)) (kvs.map (·.2)) → Is K H (.ref a) (.nest q k kvs)
  | nestL {a q : Addr} {u : HO} {k : Key} {vs : List (Key × V)} {kvs : List (Key × D)} : Rd H a (.dK vs) → vs.map (·.1) = kvs.map (·.1) → IsL K H (vs.map (·.2)) (kvs.map (·.2)) → Is K H (.ref a) (.nestL q u k kvs)
  | nobj {a C dx : Addr} {n : Str} {qs : List (Str × Addr)} {vs : List (Str × V)} {fs : List (Str × D)} : IsCl K n C → H a = some (.ins C dx vs) → vs.map (·.1) = fs.map (·.1) → IsL K H (vs.map (·.2)) (fs.map (·.2)) → Is K H (.ref a) (.nobj qs n fs)
  | xc0 {a C : Addr} {n : Str} : IsCl K n C → H a = some (XcO (.ref C) none a) → Is K H (.ref a) (.xc n [])
  | xcd {a C d : Addr} {n : Str} {vs : List (Str × V)} {fs : List (Str × D)} : IsCl K n C → H a = some (XcO (.ref C) (some d) a) → H d = some (.xd vs) → vs.map (·.1) = fs.map (·.1) → IsL K H (vs.map (·.2)) (fs.map (·.2)) → Is K H (.ref a) (.xc n fs)
  | lam {f : Addr} {φ : Hp → Prop} : φ H → (∀ H', Sub H H' → φ H') → Is K H (.ref f) (.lam f φ)
inductive IsL (K : PySem.W.Frag) (H : Hp) : List V → List D → Prop
  | nil : IsL K H [] []
  | cons {v : V} {d : D} {vs : List V} {ds : List D} : Is K H v d → IsL K H vs ds → IsL K H (v :: vs) (d :: ds)
end

theorem Sub.of {H H' : Hp} (s : ∀ a o, H a = some o → H' a = some o) : Sub H H' := fun a o h => ⟨o, s a o h, .inl rfl⟩
/-- what is no dict stands as it stood -/
theorem Sub.at {H H' : Hp} {a : Addr} {o : HO} (s : Sub H H') (h : H a = some o) (n : isDO o = false := by rfl) : H' a = some o := by
  obtain ⟨o', h', f⟩ := s a o h
  rcases f with rfl | ⟨d, _⟩
  · exact h'
  · rw [n] at d; cases d
theorem Sub.new {H : Hp} {p : Addr} {o : HO} (h : H p = none) : Sub H (upd H p o) := .of fun a u e => by
  rw [upd_ne (ne_of_none e h)]; exact e
theorem Sub.rd {H H' : Hp} {a : Addr} {u : HO} (s : Sub H H') (h : Rd H a u) : Rd H' a u := by
  rcases h with h | ⟨o, h⟩
  · obtain ⟨o', h', f⟩ := s _ _ h
    rcases f with rfl | ⟨_, od, rfl⟩
    · exact .inl h'
    · exact .inr ⟨od, h'⟩
  · exact .inr ⟨o, s.at h⟩
theorem Sub.sqL {K : PySem.W.Frag} {H H' : Hp} {a : Addr} {xs : List V} (s : Sub H H') (h : SqL K H a xs) : SqL K H' a xs := by
  rcases h with h | h
  · exact .inl (s.rd h)
  · exact .inr h
theorem Sub.sqT {K : PySem.W.Frag} {H H' : Hp} {a : Addr} {xs : List V} (s : Sub H H') (h : SqT K H a xs) : SqT K H' a xs := by
  rcases h with h | h
  · exact .inl (s.rd h)
  · exact .inr h
theorem Sub.cqT {K : PySem.W.Frag} {H H' : Hp} {a : Addr} {xs : List V} (s : Sub H H') (h : CqT K H a xs) : CqT K H' a xs := by
  rcases h with ⟨o, h, e⟩ | h
  · exact .inl ⟨o, s.at h, e⟩
  · exact .inr h
theorem Sub.none {H H' : Hp} (s : Sub H H') {p : Addr} (h : H' p = none) : H p = none := by
  cases e : H p with
  | none => rfl
  | some o =>
    obtain ⟨_, h', _⟩ := s p o e
    rw [h'] at h; cases h

mutual
theorem Is.mono {K : PySem.W.Frag} {H H' : Hp} (s : Sub H H') : ∀ {v : V} {d : D}, Is K H v d → Is K H' v d
  | _, _, .non => .non
  | _, _, .bl b => .bl b
  | _, _, .int i => .int i
  | _, _, .str x => .str x
  | _, _, .ty n => .ty n
  | _, _, .fn a => .fn a
  | _, _, .cl c => .cl c
  | _, _, .tup h l => .tup (s.at h) (IsL.mono s l)
  | _, _, .lst h l => .lst (s.at h) (IsL.mono s l)
  | _, _, .ktp h l => .ktp (s.cqT h) (IsL.mono s l)
  | _, _, .slst h l => .slst (s.sqL h) (IsL.mono s l)
  | _, _, .dk h e l => .dk (s.rd h) e (IsL.mono s l)
  | _, _, .dt h e l => .dt (s.rd h) e (IsL.mono s l)
  | _, _, .obj c h e l => .obj c (s.at h) e (IsL.mono s l)
  | _, _, .nest h e l => .nest (s.rd h) e (IsL.mono s l)
  | _, _, .nestL h e l => .nestL (s.rd h) e (IsL.mono s l)
  | _, _, .nobj c h e l => .nobj c (s.at h) e (IsL.mono s l)
  | _, _, .xc0 c h => .xc0 c (s.at h)
  | _, _, .xcd c h g e l => .xcd c (s.at h) (s.at g) e (IsL.mono s l)
  | _, _, .lam p m => .lam (m _ s) fun H' s' => m H' (s.trans s')
theorem IsL.mono {K : PySem.W.Frag} {H H' : Hp} (s : Sub H H') : ∀ {vs : List V} {ds : List D}, IsL K H vs ds → IsL K H' vs ds
  | _, _, .nil => .nil
  | _, _, .cons a l => .cons (Is.mono s a) (IsL.mono s l)
end
section
variable {K : PySem.W.Frag} {H : Hp}
theorem IsL.length : ∀ {vs : List V} {ds : List D}, IsL K H vs ds → vs.length = ds.length
  | _, _, .nil => rfl
  | _, _, .cons _ l => congrArg (· + 1) (IsL.length l)
theorem IsL.get : ∀ {vs : List V} {ds : List D} {i : Nat} {d : D}, IsL K H vs ds → ds[i]? = some d → ∃ v, vs[i]? = some v ∧ Is K H v d
  | _, _, _, _, .nil, e => by simp at e
  | _, _, 0, _, .cons a l, e => by simp at e; subst e; exact ⟨_, rfl, a⟩
  | _, _, i + 1, _, .cons a l, e => by
    obtain ⟨v, h1, h2⟩ := IsL.get (i := i) l (by simpa using e)
    exact ⟨v, by simpa using h1, h2⟩
theorem IsL.append : ∀ {vs ws : List V} {ds es : List D}, IsL K H vs ds → IsL K H ws es → IsL K H (vs ++ ws) (ds ++ es)
  | _, _, _, _, .nil, l => l
  | _, _, _, _, .cons a l, m => .cons a (IsL.append l m)
theorem IsL.take : ∀ {vs : List V} {ds : List D} (n : Nat), IsL K H vs ds → IsL K H (vs.take n) (ds.take n)
  | _, _, 0, _ => .nil
  | _, _, _ + 1, .nil => .nil
  | _, _, n + 1, .cons a l => .cons a (IsL.take n l)
theorem IsL.drop : ∀ {vs : List V} {ds : List D} (n : Nat), IsL K H vs ds → IsL K H (vs.drop n) (ds.drop n)
  | _, _, 0, l => l
  | _, _, _ + 1, .nil => .nil
  | _, _, n + 1, .cons a l => IsL.drop n l
theorem IsL.reverse : ∀ {vs : List V} {ds : List D}, IsL K H vs ds → IsL K H vs.reverse ds.reverse
  | _, _, .nil => .nil
  | _, _, .cons a l => by rw [List.reverse_cons, List.reverse_cons]; exact IsL.append (IsL.reverse l) (.cons a .nil)
theorem IsL.set : ∀ {vs : List V} {ds : List D} {v : V} {d : D} (i : Nat), IsL K H vs ds → Is K H v d → IsL K H (vs.set i v) (ds.set i d)
  | _, _, _, _, _, .nil, _ => .nil
  | _, _, _, _, 0, .cons a l, b => .cons b l
  | _, _, _, _, i + 1, .cons a l, b => .cons a (IsL.set i l b)
theorem IsL.snoc {vs : List V} {ds : List D} {v : V} {d : D} (l : IsL K H vs ds) (a : Is K H v d) : IsL K H (vs ++ [v]) (ds ++ [d]) := l.append (.cons a .nil)
end

/-! ### environments of data -/
abbrev Env := List (Option D)
def get : Env → Nat → Option D
  | [], _ => none
  | x :: _, 0 => x
  | _ :: r, n + 1 => get r n
def put : Env → Nat → Option D → Env
  | [], _, _ => []
  | _ :: r, 0, d => d :: r
  | x :: r, n + 1, d => x :: put r n d
theorem put_length : ∀ (ρ : Env) (i : Nat) (d : Option D), (put ρ i d).length = ρ.length
  | [], _, _ => rfl
  | _ :: _, 0, _ => rfl
  | _ :: r, n + 1, d => congrArg (· + 1) (put_length r n d)
theorem get_put_ne : ∀ (ρ : Env) (i j : Nat) (d : Option D), i ≠ j → get (put ρ i d) j = get ρ j
  | [], _, _, _, _ => rfl
  | _ :: _, 0, 0, _, h => absurd rfl h
  | _ :: _, 0, _ + 1, _, _ => rfl
  | _ :: _, _ + 1, 0, _, _ => rfl
  | _ :: r, i + 1, j + 1, d, h => get_put_ne r i j d (fun e => h (congrArg (· + 1) e))
theorem get_put_same : ∀ (ρ : Env) (i : Nat) (d : Option D), i < ρ.length → get (put ρ i d) i = d
  | [], _, _, h => absurd h (by simp)
  | _ :: _, 0, _, _ => rfl
  | _ :: r, i + 1, d, h => get_put_same r i d (by simpa using h)
theorem get_lt : ∀ {ρ : Env} {i : Nat} {d : D}, get ρ i = some d → i < ρ.length
  | [], _, _, h => by simp [get] at h
  | _ :: _, 0, _, _ => by simp
  | _ :: r, i + 1, d, h => by have := get_lt (ρ := r) (i := i) (d := d) h; simp; omega
theorem get_put {ρ : Env} {i j : Nat} {d : Option D} {x : D} (h : get (put ρ i d) j = some x) : (j = i ∧ d = some x) ∨ (j ≠ i ∧ get ρ j = some x) := by
  by_cases e : i = j
  · subst e
    have hl : i < ρ.length := by have := get_lt h; rw [put_length] at this; exact this
    rw [get_put_same _ _ _ hl] at h
    exact .inl ⟨rfl, h⟩
  · rw [get_put_ne _ _ _ _ e] at h
    exact .inr ⟨fun q => e q.symm, h⟩

/-! ### a cell that one slot owns -/
/-- a cell whose parts are plain -/
def Cell0 (K : PySem.W.Frag) (Hb H : Hp) (p : Addr) : D → Prop
  | .lst ds => ∃ vs, H p = some (.lst vs) ∧ IsL K Hb vs ds
  | .dk kvs => ∃ vs : List (Key × V), H p = some (.dK vs) ∧ vs.map (·.1) = kvs.map (·.1) ∧ IsL K Hb (vs.map (·.2)) (kvs.map (·.2))
  | .dt kvs => ∃ vs : List (List Key × V), H p = some (.dT vs) ∧ vs.map (·.1) = kvs.map (·.1) ∧ IsL K Hb (vs.map (·.2)) (kvs.map (·.2))
  | .obj n fs => ∃ (C dx : Addr) (vs : List (Str × V)), IsCl K n C ∧ H p = some (.ins C dx vs) ∧ vs.map (·.1) = fs.map (·.1) ∧ IsL K Hb (vs.map (·.2)) (fs.map (·.2))
  | _ => False
/-- a dict of tuple keys that is locked, as u -/
def CellF (K : PySem.W.Frag) (Hb H : Hp) (u : HO) (p : Addr) : D → Prop
  | .dt kvs => H p = some u ∧ ∃ (od : Obj) (vs : List (List Key × V)), u = .frz od (.dT vs) ∧ vs.map (·.1) = kvs.map (·.1) ∧ IsL K Hb (vs.map (·.2)) (kvs.map (·.2))
  | _ => False
/-- the parts of a dict, of an object at p, of which the one at k is a cell -/
def ER {κ : Type} [DecidableEq κ] (K : PySem.W.Frag) (Hb : Hp) (C : Addr → D → Prop) (p : Addr) (k : κ) : List (κ × V) → List (κ × D) → Prop
  | [], [] => True
  | v :: vs, d :: ds => v.1 = d.1 ∧ (if d.1 = k then (∃ q, v.2 = .ref q ∧ q ≠ p ∧ C q d.2) ∧ k ∉ ds.map (·.1) else Is K Hb v.2 d.2) ∧ ER K Hb C p k vs ds
  | _, _ => False
/-- where the part at k stands -/
def partAt {κ : Type} [DecidableEq κ] (k : κ) : List (κ × V) → Option Addr
  | [] => none
  | v :: vs => if v.1 = k then (match v.2 with
    | .ref q => some q
    | _ => none) else partAt k vs
/-- the fields of an object at p, of which those that qs names are cells, where it says -/
def EQ (K : PySem.W.Frag) (Hb : Hp) (C : Addr → D → Prop) (p : Addr) (qs : List (Str × Addr)) : List (Str × V) → List (Str × D) → Prop
  | [], [] => True
  | v :: vs, d :: ds => v.1 = d.1 ∧ (match qs.lookup d.1 with
    | some q => v.2 = .ref q ∧ q ≠ p ∧ C q d.2
    | none => Is K Hb v.2 d.2) ∧ EQ K Hb C p qs vs ds
  | _, _ => False
/-- the parts have names of their own, places of their own, and are there -/
structure QsOk (qs : List (Str × Addr)) (fs : List (Str × D)) : Prop where
  nm : (qs.map (·.1)).Nodup
  pl : (qs.map (·.2)).Nodup
  fl : ∀ m ∈ qs.map (·.1), m ∈ fs.map (·.1)
def Cell (K : PySem.W.Frag) (Hb H : Hp) (p : Addr) : D → Prop
  | .lst ds => ∃ vs, H p = some (.lst vs) ∧ IsL K Hb vs ds
  | .dk kvs => ∃ vs : List (Key × V), H p = some (.dK vs) ∧ vs.map (·.1) = kvs.map (·.1) ∧ IsL K Hb (vs.map (·.2)) (kvs.map (·.2))
  | .dt kvs => ∃ vs : List (List Key × V), H p = some (.dT vs) ∧ vs.map (·.1) = kvs.map (·.1) ∧ IsL K Hb (vs.map (·.2)) (kvs.map (·.2))
  | .obj n fs => ∃ (C dx : Addr) (vs : List (Str × V)), IsCl K n C ∧ H p = some (.ins C dx vs) ∧ vs.map (·.1) = fs.map (·.1) ∧ IsL K Hb (vs.map (·.2)) (fs.map (·.2))
  | .nest q k kvs => ∃ vs : List (Key × V), H p = some (.dK vs) ∧ partAt k vs = some q ∧ ER K Hb (Cell0 K Hb H) p k vs kvs
  | .nestL q u k kvs => ∃ vs : List (Key × V), H p = some (.dK vs) ∧ partAt k vs = some q ∧ ER K Hb (CellF K Hb H u) p k vs kvs
  | .nobj qs n fs => ∃ (C dx : Addr) (vs : List (Str × V)), IsCl K n C ∧ H p = some (.ins C dx vs) ∧ QsOk qs fs ∧ EQ K Hb (Cell0 K Hb H) p qs vs fs
  | _ => False
def partsOf : D → List Addr
  | .nest q _ _ => [q]
  | .nestL q _ _ _ => [q]
  | .nobj qs _ _ => qs.map (·.2)
  | _ => []
/-- the addresses of a cell -/
def foot (H : Hp) (p : Addr) (d : D) (a : Addr) : Prop := a = p ∨ a ∈ partsOf d
theorem foot.root {H : Hp} {p : Addr} {d : D} : foot H p d p := .inl rfl
theorem foot.cong {H H' : Hp} {p a : Addr} {d : D} (e : H' p = H p) (h : foot H' p d a) : foot H p d a := h
theorem foot.any {H H' : Hp} {p a : Addr} {d : D} (h : foot H' p d a) : foot H p d a := h
theorem Cell0.cell {K : PySem.W.Frag} {Hb H : Hp} {p : Addr} : ∀ {d : D}, Cell0 K Hb H p d → Cell K Hb H p d
  | .lst _, c => c
  | .dk _, c => c
  | .dt _, c => c
  | .obj _ _, c => c
theorem Cell0.somE {K : PySem.W.Frag} {Hb H : Hp} {p : Addr} : ∀ {d : D}, Cell0 K Hb H p d → ∃ o, H p = Option.some o ∧ ∀ vs : List V, o ≠ .tup vs
  | .lst _, ⟨_, h, _⟩ => ⟨_, h, fun _ z => by cases z⟩
  | .dk _, ⟨_, h, _⟩ => ⟨_, h, fun _ z => by cases z⟩
  | .dt _, ⟨_, h, _⟩ => ⟨_, h, fun _ z => by cases z⟩
  | .obj _ _, ⟨_, _, _, _, h, _⟩ => ⟨_, h, fun _ z => by cases z⟩
theorem Cell0.somT {K : PySem.W.Frag} {Hb H : Hp} {p : Addr} : ∀ {d : D}, Cell0 K Hb H p d → ∃ o, H p = Option.some o ∧ ∀ ts : Array Value, o ≠ .tbl ts
  | .lst _, ⟨_, h, _⟩ => ⟨_, h, fun _ z => by cases z⟩
  | .dk _, ⟨_, h, _⟩ => ⟨_, h, fun _ z => by cases z⟩
  | .dt _, ⟨_, h, _⟩ => ⟨_, h, fun _ z => by cases z⟩
  | .obj _ _, ⟨_, _, _, _, h, _⟩ => ⟨_, h, fun _ z => by cases z⟩
theorem Cell0.mono {K : PySem.W.Frag} {Hb Hb' H H' : Hp} {p : Addr} (s : Sub Hb Hb') (e : ∀ o, H p = Option.some o → H' p = Option.some o) : ∀ {d : D}, Cell0 K Hb H p d → Cell0 K Hb' H' p d
  | .lst _, ⟨vs, h, l⟩ => ⟨vs, e _ h, l.mono s⟩
  | .dk _, ⟨vs, h, k, l⟩ => ⟨vs, e _ h, k, l.mono s⟩
  | .dt _, ⟨vs, h, k, l⟩ => ⟨vs, e _ h, k, l.mono s⟩
  | .obj _ _, ⟨C, dx, vs, c, h, k, l⟩ => ⟨C, dx, vs, c, e _ h, k, l.mono s⟩
theorem CellF.somE {K : PySem.W.Frag} {Hb H : Hp} {u : HO} {p : Addr} : ∀ {d : D}, CellF K Hb H u p d → ∃ o, H p = Option.some o ∧ ∀ vs : List V, o ≠ .tup vs
  | .dt _, ⟨h, _, _, e, _⟩ => ⟨_, h, fun _ z => by rw [e] at z; cases z⟩
theorem CellF.somT {K : PySem.W.Frag} {Hb H : Hp} {u : HO} {p : Addr} : ∀ {d : D}, CellF K Hb H u p d → ∃ o, H p = Option.some o ∧ ∀ ts : Array Value, o ≠ .tbl ts
  | .dt _, ⟨h, _, _, e, _⟩ => ⟨_, h, fun _ z => by rw [e] at z; cases z⟩
theorem CellF.mono {K : PySem.W.Frag} {Hb Hb' H H' : Hp} {u : HO} {p : Addr} (s : Sub Hb Hb') (e : ∀ o, H p = Option.some o → H' p = Option.some o) : ∀ {d : D}, CellF K Hb H u p d → CellF K Hb' H' u p d
  | .dt _, ⟨h, od, vs, w, k, l⟩ => ⟨e _ h, od, vs, w, k, l.mono s⟩
theorem CellF.is {K : PySem.W.Frag} {Hb H : Hp} {u : HO} {p : Addr} (s : Sub Hb H) : ∀ {d : D}, CellF K Hb H u p d → Is K H (.ref p) d
  | .dt _, ⟨h, od, _, w, k, l⟩ => .dt (.inr ⟨od, by rw [h, w]⟩) k (l.mono s)
theorem Cell0.is {K : PySem.W.Frag} {Hb H : Hp} {p : Addr} (s : Sub Hb H) : ∀ {d : D}, Cell0 K Hb H p d → Is K H (.ref p) d
  | .lst _, ⟨_, h, l⟩ => .lst h (l.mono s)
  | .dk _, ⟨_, h, k, l⟩ => .dk (.inl h) k (l.mono s)
  | .dt _, ⟨_, h, k, l⟩ => .dt (.inl h) k (l.mono s)
  | .obj _ _, ⟨_, _, _, c, h, k, l⟩ => .obj c h k (l.mono s)
section
variable {κ : Type} [DecidableEq κ] {K : PySem.W.Frag} {Hb Hb' H H' : Hp} {C C' : Addr → D → Prop} {p : Addr} {k : κ}
theorem ER.keys : ∀ {vs : List (κ × V)} {ds : List (κ × D)}, ER K Hb C p k vs ds → vs.map (·.1) = ds.map (·.1)
  | [], [], _ => rfl
  | v :: vs, d :: ds, h => by rw [List.map_cons, List.map_cons, h.1, ER.keys h.2.2]
theorem ER.mono (s : Sub Hb Hb') : ∀ {vs : List (κ × V)} {ds : List (κ × D)}, (∀ q d, partAt k vs = some q → (k, d) ∈ ds → C q d → C' q d) → ER K Hb C p k vs ds → ER K Hb' C' p k vs ds
  | [], [], _, _ => trivial
  | v :: vs, d :: ds, e, h => by
    obtain ⟨h1, h2, h3⟩ := h
    by_cases z : d.1 = k
    · rw [if_pos z] at h2
      obtain ⟨⟨q, eq, ne, c⟩, nk⟩ := h2
      refine ⟨h1, ?_, ER.mono s (fun q' x e' m => ?_) h3⟩
      · rw [if_pos z]
        refine ⟨⟨q, eq, ne, e q d.2 ?_ (by rw [← z]; exact List.mem_cons_self) c⟩, nk⟩
        unfold partAt
        rw [if_pos (h1.trans z), eq]
      · exact absurd (List.mem_map_of_mem (f := (·.1)) m) nk
    · rw [if_neg z] at h2
      refine ⟨h1, ?_, ER.mono s (fun q' x e' m => e q' x ?_ (List.mem_cons_of_mem _ m)) h3⟩
      · rw [if_neg z]; exact h2.mono s
      · unfold partAt
        rw [if_neg (by rw [h1]; exact z)]; exact e'
theorem ER.part : ∀ {vs : List (κ × V)} {ds : List (κ × D)} {q : Addr}, ER K Hb C p k vs ds → partAt k vs = some q → q ≠ p ∧ ∃ d, (k, d) ∈ ds ∧ C q d
  | v :: vs, d :: ds, q, h, e => by
    obtain ⟨h1, h2, h3⟩ := h
    unfold partAt at e
    by_cases z : d.1 = k
    · rw [if_pos z] at h2
      obtain ⟨⟨q', eq, ne, c⟩, nk⟩ := h2
      rw [if_pos (h1.trans z), eq] at e
      cases e
      exact ⟨ne, d.2, by rw [← z]; exact List.mem_cons_self, c⟩
    · rw [if_neg (by rw [h1]; exact z)] at e
      obtain ⟨a, x, m, c⟩ := ER.part h3 e
      exact ⟨a, x, List.mem_cons_of_mem _ m, c⟩
theorem ER.is (s : Sub Hb H) (hc : ∀ q d, C q d → Is K H (.ref q) d) : ∀ {vs : List (κ × V)} {ds : List (κ × D)}, ER K Hb C p k vs ds → IsL K H (vs.map (·.2)) (ds.map (·.2))
  | [], [], _ => .nil
  | v :: vs, d :: ds, h => by
    obtain ⟨h1, h2, h3⟩ := h
    refine .cons ?_ (ER.is s hc h3)
    split at h2
    · obtain ⟨⟨q, eq, _, c⟩, _⟩ := h2
      show Is K H v.2 d.2
      rw [eq]; exact hc q d.2 c
    · exact h2.mono s
/-- the part at k -/
theorem ER.at : ∀ {vs : List (κ × V)} {ds : List (κ × D)} {d : D}, ER K Hb C p k vs ds → (k, d) ∈ ds → ∃ q, partAt k vs = some q ∧ q ≠ p ∧ C q d
  | [], [], _, _, m => by cases m
  | [], _ :: _, _, h, _ => h.elim
  | v :: vs, x :: ds, d, h, m => by
    obtain ⟨h1, h2, h3⟩ := h
    unfold partAt
    by_cases z : x.1 = k
    · rw [if_pos z] at h2
      obtain ⟨⟨q, eq, ne, c⟩, nk⟩ := h2
      rw [if_pos (h1.trans z), eq]
      rcases List.mem_cons.mp m with e | m
      · subst e; exact ⟨q, rfl, ne, c⟩
      · exact absurd (List.mem_map_of_mem (f := (·.1)) m) nk
    · rw [if_neg (by rw [h1]; exact z)]
      rcases List.mem_cons.mp m with e | m
      · subst e; exact absurd rfl z
      · exact ER.at h3 m
end
theorem lookup_mem {m : Str} {q : Addr} : ∀ {qs : List (Str × Addr)}, qs.lookup m = some q → (m, q) ∈ qs
  | [], h => by cases h
  | x :: qs, h => by
    rw [List.lookup_cons] at h
    split at h
    · rename_i e
      cases h
      have : m = x.1 := by simpa using e
      subst this
      exact List.mem_cons_self
    · exact List.mem_cons_of_mem _ (lookup_mem h)
theorem mem_lookup {m : Str} {q : Addr} : ∀ {qs : List (Str × Addr)}, (qs.map (·.1)).Nodup → (m, q) ∈ qs → qs.lookup m = some q
  | [], _, h => by cases h
  | x :: qs, nd, h => by
    rw [List.map_cons, List.nodup_cons] at nd
    rw [List.lookup_cons]
    rcases List.mem_cons.mp h with e | h
    · subst e; simp
    · have : ¬ m = x.1 := fun z => nd.1 (by rw [← z]; exact List.mem_map_of_mem (f := (·.1)) h)
      rw [show (m == x.1) = false by simpa using this]
      exact mem_lookup nd.2 h
section
variable {K : PySem.W.Frag} {Hb Hb' H H' : Hp} {C C' : Addr → D → Prop} {p : Addr} {qs : List (Str × Addr)}
theorem EQ.keys : ∀ {vs : List (Str × V)} {ds : List (Str × D)}, EQ K Hb C p qs vs ds → vs.map (·.1) = ds.map (·.1)
  | [], [], _ => rfl
  | v :: vs, d :: ds, h => by rw [List.map_cons, List.map_cons, h.1, EQ.keys h.2.2]
theorem EQ.mono (s : Sub Hb Hb') : ∀ {vs : List (Str × V)} {ds : List (Str × D)}, (∀ m q d, qs.lookup m = some q → (m, d) ∈ ds → C q d → C' q d) → EQ K Hb C p qs vs ds → EQ K Hb' C' p qs vs ds
  | [], [], _, _ => trivial
  | v :: vs, d :: ds, e, h => by
    obtain ⟨h1, h2, h3⟩ := h
    refine ⟨h1, ?_, EQ.mono s (fun m q x l hm => e m q x l (List.mem_cons_of_mem _ hm)) h3⟩
    cases l : qs.lookup d.1 with
    | none => rw [l] at h2; exact h2.mono s
    | some q => rw [l] at h2; exact ⟨h2.1, h2.2.1, e d.1 q d.2 l List.mem_cons_self h2.2.2⟩
theorem EQ.is (s : Sub Hb H) (hc : ∀ q d, C q d → Is K H (.ref q) d) : ∀ {vs : List (Str × V)} {ds : List (Str × D)}, EQ K Hb C p qs vs ds → IsL K H (vs.map (·.2)) (ds.map (·.2))
  | [], [], _ => .nil
  | v :: vs, d :: ds, h => by
    obtain ⟨h1, h2, h3⟩ := h
    refine .cons ?_ (EQ.is s hc h3)
    cases l : qs.lookup d.1 with
    | none => rw [l] at h2; exact h2.mono s
    | some q =>
      rw [l] at h2
      show Is K H v.2 d.2
      rw [h2.1]; exact hc q d.2 h2.2.2
theorem EQ.at {m : Str} {q : Addr} {d : D} (l : qs.lookup m = some q) : ∀ {vs : List (Str × V)} {ds : List (Str × D)}, EQ K Hb C p qs vs ds → (m, d) ∈ ds → q ≠ p ∧ C q d
  | [], [], _, hm => by cases hm
  | v :: vs, x :: ds, h, hm => by
    obtain ⟨h1, h2, h3⟩ := h
    rcases List.mem_cons.mp hm with e | hm
    · subst e
      rw [l] at h2
      exact h2.2
    · exact EQ.at l h3 hm
end
theorem Cell.mono {K : PySem.W.Frag} {Hb Hb' H H' : Hp} {p : Addr} (s : Sub Hb Hb') : ∀ {d : D}, (∀ a o, foot H p d a → H a = some o → H' a = some o) → Cell K Hb H p d → Cell K Hb' H' p d
  | .lst _, e, ⟨vs, h, l⟩ => ⟨vs, e _ _ foot.root h, l.mono s⟩
  | .dk _, e, ⟨vs, h, k, l⟩ => ⟨vs, e _ _ foot.root h, k, l.mono s⟩
  | .dt _, e, ⟨vs, h, k, l⟩ => ⟨vs, e _ _ foot.root h, k, l.mono s⟩
  | .obj _ _, e, ⟨C, dx, vs, c, h, k, l⟩ => ⟨C, dx, vs, c, e _ _ foot.root h, k, l.mono s⟩
  | .nest q k kvs, e, ⟨vs, h, w, r⟩ => ⟨vs, e _ _ foot.root h, w, r.mono s fun q' d z _ c => Cell0.mono s (fun o => e q' o (.inr (by rw [w] at z; cases z; exact List.mem_singleton.mpr rfl))) c⟩
  | .nestL q _ k kvs, e, ⟨vs, h, w, r⟩ => ⟨vs, e _ _ foot.root h, w, r.mono s fun q' d z _ c => CellF.mono s (fun o => e q' o (.inr (by rw [w] at z; cases z; exact List.mem_singleton.mpr rfl))) c⟩
  | .nobj qs n fs, e, ⟨C, dx, vs, c, h, w, r⟩ => ⟨C, dx, vs, c, e _ _ foot.root h, w, r.mono s fun m q' d l _ c => Cell0.mono s (fun o => e q' o (.inr (List.mem_map_of_mem (f := (·.2)) (lookup_mem l)))) c⟩
theorem Cell.some {K : PySem.W.Frag} {Hb H : Hp} {p : Addr} : ∀ {d : D}, Cell K Hb H p d → ∃ o, H p = Option.some o
  | .lst _, ⟨_, h, _⟩ => ⟨_, h⟩
  | .dk _, ⟨_, h, _⟩ => ⟨_, h⟩
  | .dt _, ⟨_, h, _⟩ => ⟨_, h⟩
  | .obj _ _, ⟨_, _, _, _, h, _⟩ => ⟨_, h⟩
  | .nest _ _ _, ⟨_, h, _⟩ => ⟨_, h⟩
  | .nestL _ _ _ _, ⟨_, h, _⟩ => ⟨_, h⟩
  | .nobj _ _ _, ⟨_, _, _, _, h, _⟩ => ⟨_, h⟩
/-- what stands in a cell's addresses -/
theorem Cell.footS {K : PySem.W.Frag} {Hb H : Hp} {p a : Addr} : ∀ {d : D}, Cell K Hb H p d → foot H p d a → ∃ o, H a = Option.some o ∧ ∀ vs : List V, o ≠ .tup vs
  | .lst _, ⟨_, h, _⟩, .inl e => by subst e; exact ⟨_, h, fun _ z => by cases z⟩
  | .dk _, ⟨_, h, _⟩, .inl e => by subst e; exact ⟨_, h, fun _ z => by cases z⟩
  | .dt _, ⟨_, h, _⟩, .inl e => by subst e; exact ⟨_, h, fun _ z => by cases z⟩
  | .obj _ _, ⟨_, _, _, _, h, _⟩, .inl e => by subst e; exact ⟨_, h, fun _ z => by cases z⟩
  | .nest _ _ _, ⟨_, h, _⟩, .inl e => by subst e; exact ⟨_, h, fun _ z => by cases z⟩
  | .nestL _ _ _ _, ⟨_, h, _⟩, .inl e => by subst e; exact ⟨_, h, fun _ z => by cases z⟩
  | .nobj _ _ _, ⟨_, _, _, _, h, _⟩, .inl e => by subst e; exact ⟨_, h, fun _ z => by cases z⟩
  | .lst _, ⟨_, h, _⟩, .inr e => by cases e
  | .dk _, ⟨_, h, _⟩, .inr e => by cases e
  | .dt _, ⟨_, h, _⟩, .inr e => by cases e
  | .obj _ _, ⟨_, _, _, _, h, _⟩, .inr e => by cases e
  | .nest _ _ _, ⟨_, h, w, r⟩, .inr e => by obtain rfl := List.mem_singleton.mp e; exact Cell0.somE (r.part w).2.choose_spec.2
  | .nestL _ _ _ _, ⟨_, h, w, r⟩, .inr e => by obtain rfl := List.mem_singleton.mp e; exact CellF.somE (r.part w).2.choose_spec.2
  | .nobj qs n fs, ⟨_, _, _, _, h, w, r⟩, .inr e => by
    obtain ⟨⟨m, q⟩, hq, rfl⟩ := List.mem_map.mp e
    have l := mem_lookup w.nm hq
    obtain ⟨⟨m', d⟩, hd, e2⟩ := List.mem_map.mp (w.fl m (List.mem_map_of_mem (f := (·.1)) hq))
    cases e2
    exact Cell0.somE (r.at l hd).2
theorem Cell.footT {K : PySem.W.Frag} {Hb H : Hp} {p a : Addr} : ∀ {d : D}, Cell K Hb H p d → foot H p d a → ∃ o, H a = Option.some o ∧ ∀ ts : Array Value, o ≠ .tbl ts
  | .lst _, ⟨_, h, _⟩, .inl e => by subst e; exact ⟨_, h, fun _ z => by cases z⟩
  | .dk _, ⟨_, h, _⟩, .inl e => by subst e; exact ⟨_, h, fun _ z => by cases z⟩
  | .dt _, ⟨_, h, _⟩, .inl e => by subst e; exact ⟨_, h, fun _ z => by cases z⟩
  | .obj _ _, ⟨_, _, _, _, h, _⟩, .inl e => by subst e; exact ⟨_, h, fun _ z => by cases z⟩
  | .nest _ _ _, ⟨_, h, _⟩, .inl e => by subst e; exact ⟨_, h, fun _ z => by cases z⟩
  | .nestL _ _ _ _, ⟨_, h, _⟩, .inl e => by subst e; exact ⟨_, h, fun _ z => by cases z⟩
  | .nobj _ _ _, ⟨_, _, _, _, h, _⟩, .inl e => by subst e; exact ⟨_, h, fun _ z => by cases z⟩
  | .lst _, ⟨_, h, _⟩, .inr e => by cases e
  | .dk _, ⟨_, h, _⟩, .inr e => by cases e
  | .dt _, ⟨_, h, _⟩, .inr e => by cases e
  | .obj _ _, ⟨_, _, _, _, h, _⟩, .inr e => by cases e
  | .nest _ _ _, ⟨_, h, w, r⟩, .inr e => by obtain rfl := List.mem_singleton.mp e; exact Cell0.somT (r.part w).2.choose_spec.2
  | .nestL _ _ _ _, ⟨_, h, w, r⟩, .inr e => by obtain rfl := List.mem_singleton.mp e; exact CellF.somT (r.part w).2.choose_spec.2
  | .nobj qs n fs, ⟨_, _, _, _, h, w, r⟩, .inr e => by
    obtain ⟨⟨m, q⟩, hq, rfl⟩ := List.mem_map.mp e
    have l := mem_lookup w.nm hq
    obtain ⟨⟨m', d⟩, hd, e2⟩ := List.mem_map.mp (w.fl m (List.mem_map_of_mem (f := (·.1)) hq))
    cases e2
    exact Cell0.somT (r.at l hd).2
theorem Cell.nts {K : PySem.W.Frag} {Hb H : Hp} {p a : Addr} {o : HO} {d : D} (c : Cell K Hb H p d) (f : foot H p d a) (h : H a = Option.some o) : ∀ ts, o ≠ .tbl ts := by
  obtain ⟨o', h', n⟩ := c.footT f
  rw [h] at h'; cases h'
  exact n
/-- frozen: what a cell holds as plain data -/
theorem Cell.is {K : PySem.W.Frag} {Hb H : Hp} {p : Addr} (s : Sub Hb H) : ∀ {d : D}, Cell K Hb H p d → Is K H (.ref p) d
  | .lst _, ⟨_, h, l⟩ => .lst h (l.mono s)
  | .dk _, ⟨_, h, k, l⟩ => .dk (.inl h) k (l.mono s)
  | .dt _, ⟨_, h, k, l⟩ => .dt (.inl h) k (l.mono s)
  | .obj _ _, ⟨_, _, _, c, h, k, l⟩ => .obj c h k (l.mono s)
  | .nest _ _ _, ⟨_, h, _, r⟩ => .nest (.inl h) r.keys (r.is s fun q d c => Cell0.is s c)
  | .nestL _ _ _ _, ⟨_, h, _, r⟩ => .nestL (.inl h) r.keys (r.is s fun q d c => CellF.is s c)
  | .nobj _ _ _, ⟨_, _, _, c, h, _, r⟩ => .nobj c h r.keys (r.is s fun q d c => Cell0.is s c)

/-! ### the tables of code objects -/
/-- the table at P: each code object that it tells bears the name q, and is known -/
def TabG (Hb H : Hp) (P : Addr) (q : Str) : Prop := ∃ ps : Array Value, H P = some (.tbl ps) ∧ Hb P = none ∧ TriplesOk ps.toList ∧ ∀ (pos : Pos) (cv : Value), codeAmong pos ps.toList = some cv → ∃ c, cv = .ref c ∧ Hb c = some (LamX.CodeO c q)
def TabOk (K : PySem.W.Frag) (Hb H : Hp) : Prop := ∀ p ∈ TK K, TabG Hb H p.1 p.2
section
variable {K : PySem.W.Frag} {Hb Hb' H H' : Hp} {p : Addr} {o u : HO}
theorem TabOk.keep (t : TabOk K Hb H) (sb : Sub Hb Hb') (k : ∀ a ps, H a = some (.tbl ps) → H' a = some (.tbl ps)) (z : ∀ a ps, H a = some (.tbl ps) → Hb a = none → Hb' a = none) : TabOk K Hb' H' := fun p hp => by
  obtain ⟨ps, h1, hn, h2, h3⟩ := t p hp
  refine ⟨ps, k _ _ h1, z _ _ h1 hn, h2, fun pos cv e => ?_⟩
  obtain ⟨c, e1, e2⟩ := h3 pos cv e
  exact ⟨c, e1, sb.at e2⟩
theorem TabOk.kb (t : TabOk K Hb H) (sb : Sub Hb Hb') (z : ∀ a ps, H a = some (.tbl ps) → Hb a = none → Hb' a = none) : TabOk K Hb' H := t.keep sb (fun _ _ h => h) z
theorem TabOk.wr (t : TabOk K Hb H) (h : H p = some o) (n : ∀ ts, o ≠ .tbl ts) : TabOk K Hb (upd H p u) := t.keep (Sub.refl _) (fun a ps e => by
  rw [upd_ne (fun z => by rw [z, h] at e; exact n _ (Option.some.inj e))]; exact e) fun _ _ _ h => h
theorem TabOk.new (t : TabOk K Hb H) (h : H p = none) : TabOk K Hb (upd H p u) := t.keep (Sub.refl _) (fun a ps e => by
  rw [upd_ne (ne_of_none e h)]; exact e) fun _ _ _ h => h
/-- the start: empty tables -/
def TabsAt (K : PySem.W.Frag) (H : Hp) : Prop := ∀ p ∈ TK K, H p.1 = some (.tbl #[])
def noTab (H : Hp) : Hp := fun a => match H a with
  | some (.tbl _) => none
  | o => o
theorem noTab_of (h : H p = some o) (n : ∀ ts, o ≠ .tbl ts) : noTab H p = some o := by
  unfold noTab
  rw [h]
  cases o <;> first | rfl | exact absurd rfl (n _)
theorem noTab_sub (H : Hp) : Sub (noTab H) H := .of fun a o h => by
  unfold noTab at h
  split at h
  · cases h
  · exact h
theorem noTab_sqL {xs : List V} (h : SqL K H p xs) : SqL K (noTab H) p xs := by
  rcases h with (h | ⟨o, h⟩) | h
  · exact .inl (.inl (noTab_of h fun _ z => by cases z))
  · exact .inl (.inr ⟨o, noTab_of h fun _ z => by cases z⟩)
  · exact .inr h
theorem TabsAt.ok (t : TabsAt K H) : TabOk K (noTab H) H := fun p hp => ⟨#[], t p hp, by unfold noTab; rw [t p hp], True.intro, fun pos cv hc => by
  have z : codeAmong pos [] = some cv := hc
  simp [codeAmong] at z⟩
end

/-! ### the world at an entry; steps from it -/
structure Wd where
  Hb : Hp
  H : Hp
  ps : Nat → Addr → Prop
  rt : Nat → Addr → Prop
structure Stp (W : Wd) (Hb H : Hp) : Prop where
  hb : Sub W.Hb Hb
  fr : ∀ a o, W.H a = some o → (∀ i, ¬ W.ps i a) → (∀ ts, o ≠ .tbl ts) → H a = some o ∨ (W.Hb a ≠ none ∧ isDO o = true ∧ ∃ od, H a = some (.frz od o))
  fs : ∀ a o, Hb a = some o → W.Hb a ≠ none ∨ W.H a = none ∨ ∃ vs, W.H a = some (.tup vs)
  al : ∀ a, H a = none → W.H a = none
  tp : ∀ a vs, H a = some (.tup vs) → W.H a = none ∨ W.H a = some (.tup vs)

theorem Cell.nt {K : PySem.W.Frag} {Hb H : Hp} {p : Addr} {d : D} (c : Cell K Hb H p d) (vs : List V) : H p ≠ Option.some (HO.tup vs) := fun z => by
  obtain ⟨o, h, n⟩ := c.footS foot.root
  rw [h] at z; cases z
  exact n vs rfl
structure EnvOk (K : PySem.W.Frag) (W : Wd) (P I : List Nat) (ρ : Env) (σ : St) (Hb H : Hp) : Prop where
  sub : Sub Hb H
  stp : Stp W Hb H
  len : σ.length = ρ.length
  val : ∀ i d, get ρ i = some d → i ∉ P → i ∉ I → ∃ v, σ[i]? = some (some v) ∧ Is K Hb v d
  celF : ∀ i d, (i ∈ P ∨ i ∈ I) → get ρ i = some d → ∃ p, σ[i]? = some (some (.ref p)) ∧ Cell K Hb H p d ∧ (i ∈ P → W.rt i p) ∧ ∀ a, foot H p d a → Hb a = none ∧ (i ∈ P → W.ps i a ∨ W.H a = none) ∧ (i ∈ I → W.H a = none)
  sepF : ∀ i j p q di dj a, (i ∈ P ∨ i ∈ I) → (j ∈ P ∨ j ∈ I) → get ρ i = some di → get ρ j = some dj → σ[i]? = some (some (.ref p)) → σ[j]? = some (some (.ref q)) → foot H p di a → foot H q dj a → i = j
  tab : TabOk K Hb H
theorem EnvOk.cel {K : PySem.W.Frag} {W : Wd} {P I : List Nat} {ρ : Env} {σ : St} {Hb H : Hp} (E : EnvOk K W P I ρ σ Hb H) : ∀ i d, (i ∈ P ∨ i ∈ I) → get ρ i = some d → ∃ p, σ[i]? = some (some (.ref p)) ∧ Hb p = none ∧ Cell K Hb H p d ∧ (i ∈ P → W.rt i p) ∧ (i ∈ I → W.H p = none) := fun i d hi g => by
  obtain ⟨p, e, c, hp, f⟩ := E.celF i d hi g
  exact ⟨p, e, (f p foot.root).1, c, hp, (f p foot.root).2.2⟩
section
variable {K : PySem.W.Frag} {W : Wd} {P I : List Nat} {ρ : Env} {σ : St} {Hb H : Hp}
theorem Stp.refl (Hb H : Hp) (ps rt : Nat → Addr → Prop) : Stp ⟨Hb, H, ps, rt⟩ Hb H := ⟨Sub.refl _, fun _ _ h _ _ => .inl h, fun a _ h => .inl (fun z => by have z : Hb a = none := z; rw [h] at z; cases z), fun _ h => h, fun _ _ h => .inr h⟩

theorem Stp.own {p : Addr} {o : HO} (S : Stp W Hb H) (wb : W.Hb p = none) (h : W.H p = some o) (nt : ∀ ts, o ≠ .tbl ts) (n : ∀ i, ¬ W.ps i p) : H p = some o :=
  (S.fr p o h n nt).elim id fun r => absurd wb r.1
theorem Stp.nb {p : Addr} {o : HO} (S : Stp W Hb H) (wb : W.Hb p = none) (h : W.H p = some o) (nt : ∀ vs : List V, o ≠ .tup vs) : Hb p = none := by
  cases z : Hb p with
  | none => rfl
  | some u =>
    rcases S.fs p u z with r | r | ⟨vs, r⟩
    · exact absurd wb r
    · rw [h] at r; cases r
    · rw [h] at r; cases r; exact absurd rfl (nt vs)
/-- the owned addresses as they stand -/
def owned (P I : List Nat) (ρ : Env) (σ : St) (H : Hp) : Nat → Addr → Prop := fun i a => (i ∈ P ∨ i ∈ I) ∧ ∃ d p, get ρ i = some d ∧ σ[i]? = some (some (.ref p)) ∧ foot H p d a
/-- the world as it stands here: all owned cells are lent -/
def here (P I : List Nat) (ρ : Env) (σ : St) (Hb H : Hp) : Wd := ⟨Hb, H, owned P I ρ σ H, fun i p => (i ∈ P ∨ i ∈ I) ∧ get ρ i ≠ none ∧ σ[i]? = some (some (.ref p))⟩
theorem EnvOk.lent (E : EnvOk K W P I ρ σ Hb H) : EnvOk K (here P I ρ σ Hb H) (P ++ I) [] ρ σ Hb H where
  sub := E.sub
  stp := Stp.refl _ _ _ _
  len := E.len
  val := fun i d h n _ => E.val i d h (fun q => n (List.mem_append_left _ q)) fun q => n (List.mem_append_right _ q)
  celF := fun i d h g => by
    have hi : i ∈ P ∨ i ∈ I := by
      rcases h with h | h
      · exact List.mem_append.mp h
      · cases h
    obtain ⟨p, e, c, _, f⟩ := E.celF i d hi g
    exact ⟨p, e, c, fun _ => ⟨hi, by rw [g]; simp, e⟩, fun a ha => ⟨(f a ha).1, fun _ => .inl ⟨hi, d, p, g, e, ha⟩, fun q => by cases q⟩⟩
  sepF := fun i j p q di dj a hi hj => E.sepF i j p q di dj a (by simpa using hi) (by simpa using hj)
  tab := E.tab
/-- two steps -/
theorem Stp.trans {W : Wd} {Hb1 H1 Hb2 H2 : Hp} {ps rt : Nat → Addr → Prop} (a : Stp W Hb1 H1) (b : Stp ⟨Hb1, H1, ps, rt⟩ Hb2 H2) (hps : ∀ i p, ps i p → (∃ j, W.ps j p) ∨ W.H p = none) : Stp W Hb2 H2 where
  hb := a.hb.trans b.hb
  fr := fun x o h n nt => by
    have nl : ∀ i, ¬ ps i x := fun i q => by
      rcases hps i x q with ⟨j, r⟩ | r
      · exact n j r
      · rw [h] at r; cases r
    rcases a.fr x o h n nt with h1 | ⟨h1, h2, od, h3⟩
    · rcases b.fr x o h1 nl nt with h4 | ⟨h4, h5, h6⟩
      · exact .inl h4
      · refine .inr ⟨?_, h5, h6⟩
        have h4 : Hb1 x ≠ none := h4
        cases e : Hb1 x with
        | none => exact absurd e h4
        | some u =>
          rcases a.fs x u e with r | r | ⟨vs, r⟩
          · exact r
          · rw [h] at r; cases r
          · rw [h] at r; cases r; cases h5
    · rcases b.fr x _ h3 nl (fun _ z => by cases z) with h4 | ⟨_, h5, _⟩
      · exact .inr ⟨h1, h2, od, h4⟩
      · cases h5
  fs := fun x o h => by
    rcases b.fs x o h with q | q | ⟨vs, q⟩
    · have q : Hb1 x ≠ none := q
      cases e : Hb1 x with
      | none => exact absurd e q
      | some u => exact a.fs x u e
    · exact .inr (.inl (a.al x q))
    · rcases a.tp x vs q with r | r
      · exact .inr (.inl r)
      · exact .inr (.inr ⟨vs, r⟩)
  al := fun x h => a.al x (b.al x h)
  tp := fun x vs h => by
    rcases b.tp x vs h with r | r
    · exact .inl (a.al x r)
    · exact a.tp x vs r
theorem EnvOk.ownedW (E : EnvOk K W P I ρ σ Hb H) : ∀ i p, owned P I ρ σ H i p → (∃ j, W.ps j p) ∨ W.H p = none := fun i a ⟨hi, d, p, g, e, ha⟩ => by
  obtain ⟨p', e', _, _, f⟩ := E.celF i d hi g
  rw [e] at e'; cases e'
  obtain ⟨_, h1, h2⟩ := f a ha
  rcases hi with hi | hi
  · exact (h1 hi).imp (fun h => ⟨i, h⟩) id
  · exact .inr (h2 hi)
/-- back from the lent world: nothing was assigned (the slots are as they were) -/
theorem EnvOk.back {ρ' : Env} {Hb' H' : Hp} (E : EnvOk K W P I ρ σ Hb H) (E' : EnvOk K (here P I ρ σ Hb H) (P ++ I) [] ρ' σ Hb' H') : EnvOk K W P I ρ' σ Hb' H' where
  sub := E'.sub
  stp := E.stp.trans E'.stp E.ownedW
  len := E'.len
  val := fun i d h n m => E'.val i d h (fun q => (List.mem_append.mp q).elim n m) (by simp)
  celF := fun i d h g => by
    obtain ⟨p, e, c, h1, f⟩ := E'.celF i d (.inl (List.mem_append.mpr h)) g
    have hm : i ∈ P ++ I := List.mem_append.mpr h
    obtain ⟨_, g00, e0⟩ := h1 hm
    obtain ⟨d0, g0⟩ : ∃ d0, get ρ i = some d0 := by
      cases z : get ρ i with
      | none => exact absurd z g00
      | some d0 => exact ⟨d0, rfl⟩
    obtain ⟨p', e', _, k1, f0⟩ := E.celF i d0 h g0
    rw [e] at e'; cases e'
    refine ⟨p, e, c, k1, fun a ha => ⟨(f a ha).1, fun hi => ?_, fun hi => ?_⟩⟩
    · rcases (f a ha).2.1 hm with ⟨_, d1, p1, g1, e1, ft1⟩ | r
      · rw [g0] at g1; cases g1
        rw [e] at e1; cases e1
        exact (f0 a ft1).2.1 hi
      · exact .inr (E.stp.al a r)
    · rcases (f a ha).2.1 hm with ⟨_, d1, p1, g1, e1, ft1⟩ | r
      · rw [g0] at g1; cases g1
        rw [e] at e1; cases e1
        exact (f0 a ft1).2.2 hi
      · exact E.stp.al a r
  sepF := fun i j p q di dj a hi hj => E'.sepF i j p q di dj a (.inl (List.mem_append.mpr hi)) (.inl (List.mem_append.mpr hj))
  tab := E'.tab

/-- the owned cells, carried to another heap in which all that they hold stands as it stood -/
theorem EnvOk.cells {Hb' H' : Hp} {W' : Wd} (E : EnvOk K W P I ρ σ Hb H) (sb : Sub Hb Hb') (keep : ∀ i d p a o, (i ∈ P ∨ i ∈ I) → get ρ i = some d → σ[i]? = some (some (.ref p)) → foot H p d a → H a = some o → H' a = some o ∧ Hb' a = none)
    (ps : ∀ i a d p, i ∈ P → get ρ i = some d → σ[i]? = some (some (.ref p)) → foot H p d a → (W.ps i a → W'.ps i a) ∧ (W.H a = none → W'.H a = none)) (wn : ∀ i a d p, i ∈ I → get ρ i = some d → σ[i]? = some (some (.ref p)) → foot H p d a → W.H a = none → W'.H a = none) (rt : ∀ i p, W.rt i p → W'.rt i p := by exact fun _ _ h => h) :
    (∀ i d, (i ∈ P ∨ i ∈ I) → get ρ i = some d → ∃ p, σ[i]? = some (some (.ref p)) ∧ Cell K Hb' H' p d ∧ (i ∈ P → W'.rt i p) ∧ ∀ a, foot H' p d a → Hb' a = none ∧ (i ∈ P → W'.ps i a ∨ W'.H a = none) ∧ (i ∈ I → W'.H a = none)) ∧
    (∀ i j p q di dj a, (i ∈ P ∨ i ∈ I) → (j ∈ P ∨ j ∈ I) → get ρ i = some di → get ρ j = some dj → σ[i]? = some (some (.ref p)) → σ[j]? = some (some (.ref q)) → foot H' p di a → foot H' q dj a → i = j) := by
  have rtt := rt
  have root : ∀ i d p, (i ∈ P ∨ i ∈ I) → get ρ i = some d → σ[i]? = some (some (.ref p)) → H' p = H p := fun i d p hi g e => by
    obtain ⟨p', e', c, _⟩ := E.celF i d hi g
    rw [e] at e'; cases e'
    obtain ⟨o, ho, _⟩ := c.footS foot.root
    rw [ho, (keep i d p p o hi g e foot.root ho).1]
  refine ⟨fun i d hi g => ?_, fun i j p q di dj a hi hj gi gj ei ej fi fj => ?_⟩
  · obtain ⟨p, e, c, h1, f⟩ := E.celF i d hi g
    refine ⟨p, e, c.mono sb fun a o ha ho => (keep i d p a o hi g e ha ho).1, fun q => rtt i p (h1 q), fun a ha => ?_⟩
    have ha := foot.cong (root i d p hi g e) ha
    obtain ⟨o, ho, _⟩ := c.footS ha
    exact ⟨(keep i d p a o hi g e ha ho).2, fun q => ((f a ha).2.1 q).imp (ps i a d p q g e ha).1 (ps i a d p q g e ha).2, fun q => wn i a d p q g e ha ((f a ha).2.2 q)⟩
  · exact E.sepF i j p q di dj a hi hj gi gj ei ej (foot.cong (root i di p hi gi ei) fi) (foot.cong (root j dj q hj gj ej) fj)
/-- a new frozen object -/
theorem EnvOk.alloc {p : Addr} {o : HO} (E : EnvOk K W P I ρ σ Hb H) (h : H p = none) (no : ∀ ts, o ≠ .tbl ts := by intro _ z; cases z) : EnvOk K W P I ρ σ (upd Hb p o) (upd H p o) := by
  have hb : Hb p = none := E.sub.none h
  have sb : Sub Hb (upd Hb p o) := Sub.new hb
  have up : ∀ a u, H a = some u → upd H p o a = some u := fun a u e => by rw [upd_ne (ne_of_none e h)]; exact e
  obtain ⟨k1, k2⟩ := E.cells (H' := upd H p o) (W' := W) sb (fun i d q a u hi g e ha hu => ⟨up a u hu, by
    obtain ⟨q', e', _, _, f⟩ := E.celF i d hi g
    rw [e] at e'; cases e'
    rw [upd_ne (ne_of_none hu h)]; exact (f a ha).1⟩) (fun _ _ _ _ _ _ _ _ => ⟨id, id⟩) (fun _ _ _ _ _ _ _ _ => id)
  refine ⟨fun a u e => ?_, ⟨E.stp.hb.trans sb, fun a u e n nt => (E.stp.fr a u e n nt).imp (up a u) fun ⟨h1, h2, od, h3⟩ => ⟨h1, h2, od, up _ _ h3⟩, fun a u e => ?_, fun a e => ?_, fun a vs e => ?_⟩, E.len, fun i d g n m => ?_, k1, k2, (E.tab.new h).kb sb fun a ps e z => ?_⟩
  · by_cases ha : a = p
    · subst ha; rw [upd_same] at e ⊢; exact ⟨_, e, .inl rfl⟩
    · rw [upd_ne ha] at e ⊢; exact E.sub a u e
  · by_cases ha : a = p
    · subst ha; exact .inr (.inl (E.stp.al a h))
    · rw [upd_ne ha] at e; exact E.stp.fs a u e
  · by_cases ha : a = p
    · subst ha; rw [upd_same] at e; cases e
    · rw [upd_ne ha] at e; exact E.stp.al a e
  · by_cases ha : a = p
    · subst ha; exact .inl (E.stp.al a h)
    · rw [upd_ne ha] at e; exact E.stp.tp a vs e
  · obtain ⟨v, e, q⟩ := E.val i d g n m
    exact ⟨v, e, q.mono sb⟩
  · by_cases ha : a = p
    · subst ha; rw [upd_same] at e; exact absurd (Option.some.inj e) (no ps)
    · rw [upd_ne ha]; exact z
/-- the heap may know more (a new object that nothing here speaks of) -/
theorem EnvOk.more {p : Addr} {o : HO} (E : EnvOk K W P I ρ σ Hb H) (h : H p = none) : EnvOk K W P I ρ σ Hb (upd H p o) := by
  have up : ∀ a u, H a = some u → upd H p o a = some u := fun a u e => by rw [upd_ne (ne_of_none e h)]; exact e
  obtain ⟨k1, k2⟩ := E.cells (H' := upd H p o) (W' := W) (Sub.refl Hb) (fun i d q a u hi g e ha hu => ⟨up a u hu, by
    obtain ⟨q', e', _, _, f⟩ := E.celF i d hi g
    rw [e] at e'; cases e'
    exact (f a ha).1⟩) (fun _ _ _ _ _ _ _ _ => ⟨id, id⟩) (fun _ _ _ _ _ _ _ _ => id)
  refine ⟨E.sub.trans (Sub.new h), ⟨E.stp.hb, fun a u e n nt => (E.stp.fr a u e n nt).imp (up a u) fun ⟨h1, h2, od, h3⟩ => ⟨h1, h2, od, up _ _ h3⟩, E.stp.fs, fun a e => ?_, fun a vs e => ?_⟩, E.len, E.val, k1, k2, E.tab.new h⟩
  · by_cases ha : a = p
    · subst ha; rw [upd_same] at e; cases e
    · rw [upd_ne ha] at e; exact E.stp.al a e
  · by_cases ha : a = p
    · subst ha; exact .inl (E.stp.al a h)
    · rw [upd_ne ha] at e; exact E.stp.tp a vs e
/-- a tuple that stands may be known from here on -/
theorem EnvOk.know {p : Addr} {vs : List V} (E : EnvOk K W P I ρ σ Hb H) (h : H p = some (.tup vs)) : EnvOk K W P I ρ σ (upd Hb p (.tup vs)) H ∧ Sub Hb (upd Hb p (.tup vs)) := by
  have sb : Sub Hb (upd Hb p (.tup vs)) := fun a o e => by
    by_cases ha : a = p
    · subst ha
      obtain ⟨o', h', f⟩ := E.sub a o e
      rw [h] at h'; cases h'
      exact ⟨_, upd_same, f⟩
    · rw [upd_ne ha]; exact ⟨o, e, .inl rfl⟩
  obtain ⟨k1, k2⟩ := E.cells (H' := H) (W' := W) sb (fun i d q a u hi g e ha hu => ⟨hu, by
    obtain ⟨q', e', c, _, f⟩ := E.celF i d hi g
    rw [e] at e'; cases e'
    have nqp : a ≠ p := fun z => by
      subst z
      obtain ⟨o, ho, nt⟩ := c.footS ha
      rw [h] at ho; cases ho
      exact nt vs rfl
    rw [upd_ne nqp]; exact (f a ha).1⟩) (fun _ _ _ _ _ _ _ _ => ⟨id, id⟩) (fun _ _ _ _ _ _ _ _ => id)
  refine ⟨⟨fun a u e => ?_, ⟨E.stp.hb.trans sb, E.stp.fr, fun a u e => ?_, E.stp.al, E.stp.tp⟩, E.len, fun i d g n m => ?_, k1, k2, E.tab.kb sb fun a ps e z => by rw [upd_ne (fun w => by rw [w, h] at e; cases e)]; exact z⟩, sb⟩
  · by_cases ha : a = p
    · subst ha; rw [upd_same] at e; cases e; exact ⟨_, h, .inl rfl⟩
    · rw [upd_ne ha] at e; exact E.sub a u e
  · by_cases ha : a = p
    · subst ha
      rcases E.stp.tp a vs h with r | r
      · exact .inr (.inl r)
      · exact .inr (.inr ⟨vs, r⟩)
    · rw [upd_ne ha] at e; exact E.stp.fs a u e
  · obtain ⟨v, e, q⟩ := E.val i d g n m
    exact ⟨v, e, q.mono sb⟩
end
end DL

/-! DL1: the judgements over data; names, constants, operators, tests, displays, subscripts. -/
namespace DL
open PySem L2

/-- an own exception: its class, its fields -/
structure Exc where
  C : Str
  fs : List (Str × D)
abbrev Post := D → Env → Prop
abbrev XP := Exc → Env → Prop
abbrev FE := Env → Post → XP → Prop
abbrev FT := Env → (Bool → Env → Prop) → XP → Prop
abbrev FA := Env → (List D → Env → Prop) → XP → Prop
abbrev G1 := D → (D → Prop) → Prop
abbrev G2 := D → D → (D → Prop) → Prop
abbrev GN := List D → (D → Prop) → Prop

def XIs (K : PySem.W.Frag) (Hb : Hp) (cls : Value) (dx : Option Addr) (c : Exc) : Prop :=
  (∃ C, IsCl K c.C C ∧ cls = .ref C) ∧ ((c.fs = [] ∧ dx = none) ∨ ∃ (d : Addr) (vs : List (Str × V)), dx = some d ∧ Hb d = some (.xd vs) ∧ vs.map (·.1) = c.fs.map (·.1) ∧ IsL K Hb (vs.map (·.2)) (c.fs.map (·.2)))
/-- what is wanted of an exception follows -/
def XOk (X : Cx) (Wx : WX) (W : Wd) (P : List Nat) (σ : St) (xp : XP) : Prop :=
  ∀ c ρ' cls dx Hb' H', xp c ρ' → EnvOk X.K W P [] ρ' σ Hb' H' → XIs X.K Hb' cls dx c → Wx cls dx σ H'

/-- an expression over data: from I (the slots that own their cells) to J -/
structure DE (X : Cx) (Wx : WX) (P I : List Nat) (e : Expr) (t : TE) (F : FE) (J : List Nat) : Prop where
  pe : PE X e t
  ev : ∀ (W : Wd) (ρ : Env) (σ : St) (Hb H : Hp) (Q : VK) (post : Post) (xp : XP), EnvOk X.K W P I ρ σ Hb H → F ρ post xp → XOk X Wx W P σ xp →
    (∀ d ρ' v Hb' H', post d ρ' → EnvOk X.K W P J ρ' σ Hb' H' → Sub Hb Hb' → Is X.K Hb' v d → Q v H') → t σ H Q
/-- a test -/
structure DT (X : Cx) (Wx : WX) (P I : List Nat) (e : Expr) (t : TT) (F : FT) (J : List Nat) : Prop where
  pe : PT X e t
  ev : ∀ (W : Wd) (ρ : Env) (σ : St) (Hb H : Hp) (Q : Bool → Hp → Prop) (post : Bool → Env → Prop) (xp : XP), EnvOk X.K W P I ρ σ Hb H → F ρ post xp → XOk X Wx W P σ xp →
    (∀ b ρ' Hb' H', post b ρ' → EnvOk X.K W P J ρ' σ Hb' H' → Sub Hb Hb' → Q b H') → t σ H Q
/-- a part of and, or -/
structure DW (X : Cx) (Wx : WX) (P I : List Nat) (e : Expr) (t : TT) (F : FT) (J : List Nat) : Prop where
  pe : PW X e t
  ev : ∀ (W : Wd) (ρ : Env) (σ : St) (Hb H : Hp) (Q : Bool → Hp → Prop) (post : Bool → Env → Prop) (xp : XP), EnvOk X.K W P I ρ σ Hb H → F ρ post xp → XOk X Wx W P σ xp →
    (∀ b ρ' Hb' H', post b ρ' → EnvOk X.K W P J ρ' σ Hb' H' → Sub Hb Hb' → Q b H') → t σ H Q
/-- arguments -/
structure DA (X : Cx) (Wx : WX) (P I : List Nat) (es : List Expr) (t : TA) (F : FA) (J : List Nat) : Prop where
  pe : PA X es t
  ev : ∀ (W : Wd) (ρ : Env) (σ : St) (Hb H : Hp) (Q : List V → Hp → Prop) (post : List D → Env → Prop) (xp : XP), EnvOk X.K W P I ρ σ Hb H → F ρ post xp → XOk X Wx W P σ xp →
    (∀ ds ρ' vs Hb' H', post ds ρ' → EnvOk X.K W P J ρ' σ Hb' H' → Sub Hb Hb' → IsL X.K Hb' vs ds → Q vs H') → t σ H Q
/-- an expression whose value may be a cell that a slot owns: it is only looked at -/
structure DEo (X : Cx) (Wx : WX) (P I : List Nat) (e : Expr) (t : TE) (F : FE) (J : List Nat) : Prop where
  pe : PE X e t
  ev : ∀ (W : Wd) (ρ : Env) (σ : St) (Hb H : Hp) (Q : VK) (post : Post) (xp : XP), EnvOk X.K W P I ρ σ Hb H → F ρ post xp → XOk X Wx W P σ xp →
    (∀ d ρ' v Hb' H', post d ρ' → EnvOk X.K W P J ρ' σ Hb' H' → Sub Hb Hb' → (Is X.K Hb' v d ∨ ∃ p, v = .ref p ∧ Cell X.K Hb' H' p d) → Q v H') → t σ H Q
structure DAo (X : Cx) (Wx : WX) (P I : List Nat) (es : List Expr) (t : TA) (F : FA) (J : List Nat) : Prop where
  pe : PA X es t
  ev : ∀ (W : Wd) (ρ : Env) (σ : St) (Hb H : Hp) (Q : List V → Hp → Prop) (post : List D → Env → Prop) (xp : XP), EnvOk X.K W P I ρ σ Hb H → F ρ post xp → XOk X Wx W P σ xp →
    (∀ ds ρ' vs Hb' H', post ds ρ' → EnvOk X.K W P J ρ' σ Hb' H' → Sub Hb Hb' → Paired (fun v d => Is X.K Hb' v d ∨ ∃ p, v = .ref p ∧ Cell X.K Hb' H' p d) vs ds → Q vs H') → t σ H Q

/-! ### heaps that grow by frozen objects -/
inductive Grow (Hb H : Hp) : Hp → Hp → Prop
  | refl : Grow Hb H Hb H
  | step {Hb' H' : Hp} {p : Addr} {o : HO} : Grow Hb H Hb' H' → H' p = none → (no : ∀ ts, o ≠ .tbl ts := by intro _ z; cases z) → Grow Hb H (upd Hb' p o) (upd H' p o)
  | know {Hb' H' : Hp} {p : Addr} {vs : List V} : Grow Hb H Hb' H' → H' p = some (.tup vs) → Grow Hb H (upd Hb' p (.tup vs)) H'
theorem Grow.one {Hb H : Hp} {p : Addr} {o : HO} (h : H p = none) (no : ∀ ts, o ≠ .tbl ts := by intro _ z; cases z) : Grow Hb H (upd Hb p o) (upd H p o) := .step .refl h no
theorem Grow.env {K : PySem.W.Frag} {W : Wd} {P I : List Nat} {ρ : Env} {σ : St} {Hb H Hb' H' : Hp} (E : EnvOk K W P I ρ σ Hb H) (g : Grow Hb H Hb' H') : EnvOk K W P I ρ σ Hb' H' ∧ Sub Hb Hb' := by
  induction g with
  | refl => exact ⟨E, Sub.refl _⟩
  | step g h no ih => exact ⟨ih.1.alloc h no, ih.2.trans (Sub.new (ih.1.sub.none h))⟩
  | know g h ih => exact ⟨(ih.1.know h).1, ih.2.trans (ih.1.know h).2⟩

/-- a value whose parts are frozen: data, or a cell that stands -/
def IsO (K : PySem.W.Frag) (Hb H : Hp) (v : V) (d : D) : Prop := Is K Hb v d ∨ ∃ p, v = .ref p ∧ Cell K Hb H p d
theorem IsO.is {K : PySem.W.Frag} {Hb H : Hp} {v : V} {d : D} (h : IsO K Hb H v d) (s : Sub Hb H) : Is K H v d := by
  rcases h with h | ⟨p, rfl, c⟩
  · exact h.mono s
  · exact c.is s
abbrev IsOL (K : PySem.W.Frag) (Hb H : Hp) : List V → List D → Prop := Paired (IsO K Hb H)
theorem IsL.o {K : PySem.W.Frag} {Hb H : Hp} : ∀ {vs : List V} {ds : List D}, IsL K Hb vs ds → IsOL K Hb H vs ds
  | _, _, .nil => .nil
  | _, _, .cons a l => .cons (.inl a) (IsL.o l)
/-- operations on values, over data -/
def RV1 (K : PySem.W.Frag) (r : V → Hp → VK → Prop) (G : G1) : Prop := ∀ (Hb H : Hp) (x : V) (dx : D) (k : D → Prop) (Q : VK), Sub Hb H → IsO K Hb H x dx → G dx k →
  (∀ v d Hb' H', k d → Grow Hb H Hb' H' → Is K Hb' v d → Q v H') → r x H Q
def RV2 (K : PySem.W.Frag) (r : R2) (G : G2) : Prop := ∀ (Hb H : Hp) (x y : V) (dx dy : D) (k : D → Prop) (Q : VK), Sub Hb H → IsO K Hb H x dx → IsO K Hb H y dy → G dx dy k →
  (∀ v d Hb' H', k d → Grow Hb H Hb' H' → Is K Hb' v d → Q v H') → r x y H Q
def RVN (K : PySem.W.Frag) (r : List V → Hp → VK → Prop) (G : GN) : Prop := ∀ (Hb H : Hp) (xs : List V) (ds : List D) (k : D → Prop) (Q : VK), Sub Hb H → IsOL K Hb H xs ds → G ds k →
  (∀ v d Hb' H', k d → Grow Hb H Hb' H' → Is K Hb' v d → Q v H') → r xs H Q
theorem RV2.or {K : PySem.W.Frag} {r r' : R2} {g g' : G2} (h : RV2 K r g) (h' : RV2 K r' g') : RV2 K (fun x y H Q => r x y H Q ∨ r' x y H Q) (fun x y k => g x y k ∨ g' x y k) :=
  fun Hb H x y dx dy k Q s ix iy g q => g.elim (fun g => .inl (h Hb H x y dx dy k Q s ix iy g q)) fun g => .inr (h' Hb H x y dx dy k Q s ix iy g q)
theorem RV2.imp {K : PySem.W.Frag} {r : R2} {g g' : G2} (h : RV2 K r g) (i : ∀ x y k, g' x y k → g x y k) : RV2 K r g' :=
  fun Hb H x y dx dy k Q s ix iy g q => h Hb H x y dx dy k Q s ix iy (i _ _ _ g) q
theorem RVN.or {K : PySem.W.Frag} {r r' : List V → Hp → VK → Prop} {g g' : GN} (h : RVN K r g) (h' : RVN K r' g') : RVN K (fun xs H Q => r xs H Q ∨ r' xs H Q) (fun xs k => g xs k ∨ g' xs k) :=
  fun Hb H xs ds k Q s l g q => g.elim (fun g => .inl (h Hb H xs ds k Q s l g q)) fun g => .inr (h' Hb H xs ds k Q s l g q)
theorem RVN.imp {K : PySem.W.Frag} {r : List V → Hp → VK → Prop} {g g' : GN} (h : RVN K r g) (i : ∀ x k, g' x k → g x k) : RVN K r g' :=
  fun Hb H xs ds k Q s l g q => h Hb H xs ds k Q s l (i _ _ g) q

/-! ### data-level readings -/
def fVar (i : Nat) : FE := fun ρ post _ => match get ρ i with
  | some d => post d ρ
  | none => False
@[simp ↓] theorem fVar_ap (i : Nat) (ρ : Env) (post : Post) (z_2 : XP) : fVar i ρ post z_2 = (match get ρ i with
  | some d => post d ρ
  | none => False) := (rfl)
def fC (d : D) : FE := fun ρ post _ => post d ρ
@[simp ↓] theorem fC_ap (d : D) (ρ : Env) (post : Post) (z_2 : XP) : fC d ρ post z_2 = (post d ρ) := (rfl)
def fUn (G : G1) (a : FE) : FE := fun ρ post xp => a ρ (fun x ρ1 => G x fun z => post z ρ1) xp
@[simp ↓] theorem fUn_ap (G : G1) (a : FE) (ρ : Env) (post : Post) (xp : XP) : fUn G a ρ post xp = (a ρ (fun x ρ1 => G x fun z => post z ρ1) xp) := (rfl)
def fBin (G : G2) (a b : FE) : FE := fun ρ post xp => a ρ (fun x ρ1 => b ρ1 (fun y ρ2 => G x y fun z => post z ρ2) xp) xp
@[simp ↓] theorem fBin_ap (G : G2) (a b : FE) (ρ : Env) (post : Post) (xp : XP) : fBin G a b ρ post xp = (a ρ (fun x ρ1 => b ρ1 (fun y ρ2 => G x y fun z => post z ρ2) xp) xp) := (rfl)
/-- the left operand a slot's own cell, looked at once the right one is known -/
def fBinL (G : G2) (i : Nat) (b : FE) : FE := fun ρ post xp => (match get ρ i with
    | some _ => True
    | none => False) ∧ b ρ (fun y ρ1 => match get ρ1 i with
    | some x => G x y fun z => post z ρ1
    | none => False) xp
@[simp ↓] theorem fBinL_ap (G : G2) (i : Nat) (b : FE) (ρ : Env) (post : Post) (xp : XP) : fBinL G i b ρ post xp = ((match get ρ i with
    | some _ => True
    | none => False) ∧ b ρ (fun y ρ1 => match get ρ1 i with
    | some x => G x y fun z => post z ρ1
    | none => False) xp) := (rfl)
def fNil : FA := fun ρ post _ => post [] ρ
@[simp ↓] theorem fNil_ap (ρ : Env) (post : List D → Env → Prop) (z_2 : XP) : fNil  ρ post z_2 = (post [] ρ) := (rfl)
def fCons (a : FE) (b : FA) : FA := fun ρ post xp => a ρ (fun x ρ1 => b ρ1 (fun xs ρ2 => post (x :: xs) ρ2) xp) xp
@[simp ↓] theorem fCons_ap (a : FE) (b : FA) (ρ : Env) (post : List D → Env → Prop) (xp : XP) : fCons a b ρ post xp = (a ρ (fun x ρ1 => b ρ1 (fun xs ρ2 => post (x :: xs) ρ2) xp) xp) := (rfl)
def fN (G : GN) (a : FA) : FE := fun ρ post xp => a ρ (fun xs ρ1 => G xs fun z => post z ρ1) xp
@[simp ↓] theorem fN_ap (G : GN) (a : FA) (ρ : Env) (post : Post) (xp : XP) : fN G a ρ post xp = (a ρ (fun xs ρ1 => G xs fun z => post z ρ1) xp) := (rfl)
/-- a value that is True or False -/
@[simp ↓] def gB (d : D) (k : Bool → Prop) : Prop := match d with
  | .bl b => k b
  | _ => False
def fTest (a : FE) : FT := fun ρ post xp => a ρ (fun x ρ1 => gB x fun b => post b ρ1) xp
@[simp ↓] theorem fTest_ap (a : FE) (ρ : Env) (post : Bool → Env → Prop) (xp : XP) : fTest a ρ post xp = (a ρ (fun x ρ1 => gB x fun b => post b ρ1) xp) := (rfl)
def fAnd (a b : FT) : FT := fun ρ post xp => a ρ (fun c ρ1 => if c = true then b ρ1 post xp else post false ρ1) xp
@[simp ↓] theorem fAnd_ap (a b : FT) (ρ : Env) (post : Bool → Env → Prop) (xp : XP) : fAnd a b ρ post xp = (a ρ (fun c ρ1 => if c = true then b ρ1 post xp else post false ρ1) xp) := (rfl)
def fOr (a b : FT) : FT := fun ρ post xp => a ρ (fun c ρ1 => if c = true then post true ρ1 else b ρ1 post xp) xp
@[simp ↓] theorem fOr_ap (a b : FT) (ρ : Env) (post : Bool → Env → Prop) (xp : XP) : fOr a b ρ post xp = (a ρ (fun c ρ1 => if c = true then post true ρ1 else b ρ1 post xp) xp) := (rfl)
def fNot (a : FT) : FT := fun ρ post xp => a ρ (fun c ρ1 => post (!c) ρ1) xp
@[simp ↓] theorem fNot_ap (a : FT) (ρ : Env) (post : Bool → Env → Prop) (xp : XP) : fNot a ρ post xp = (a ρ (fun c ρ1 => post (!c) ρ1) xp) := (rfl)
def fAndV (a b : FE) : FE := fun ρ post xp => a ρ (fun x ρ1 => gB x fun c => if c = true then b ρ1 post xp else post (.bl false) ρ1) xp
@[simp ↓] theorem fAndV_ap (a b : FE) (ρ : Env) (post : Post) (xp : XP) : fAndV a b ρ post xp = (a ρ (fun x ρ1 => gB x fun c => if c = true then b ρ1 post xp else post (.bl false) ρ1) xp) := (rfl)
def fNotV (a : FE) : FE := fun ρ post xp => a ρ (fun x ρ1 => gB x fun c => post (.bl (!c)) ρ1) xp
@[simp ↓] theorem fNotV_ap (a : FE) (ρ : Env) (post : Post) (xp : XP) : fNotV a ρ post xp = (a ρ (fun x ρ1 => gB x fun c => post (.bl (!c)) ρ1) xp) := (rfl)
def fIf (c : FT) (a b : FE) : FE := fun ρ post xp => c ρ (fun t ρ1 => if t = true then a ρ1 post xp else b ρ1 post xp) xp
@[simp ↓] theorem fIf_ap (c : FT) (a b : FE) (ρ : Env) (post : Post) (xp : XP) : fIf c a b ρ post xp = (c ρ (fun t ρ1 => if t = true then a ρ1 post xp else b ρ1 post xp) xp) := (rfl)

section
variable {X : Cx} {Wx : WX} {P I J J1 J2 J3 : List Nat} {e a b c : Expr} {es : List Expr} {F G : FE} {T U : FT} {A : FA} {pos p2 : Pos} {ta tb : TE} {tA : TA}

theorem de_of {t : TE} (h : PE X e t) (k : ∀ (W : Wd) (ρ : Env) (σ : St) (Hb H : Hp) (Q : VK) (post : Post) (xp : XP), EnvOk X.K W P I ρ σ Hb H → F ρ post xp → XOk X Wx W P σ xp →
    (∀ d ρ' v Hb' H', post d ρ' → EnvOk X.K W P J ρ' σ Hb' H' → Sub Hb Hb' → Is X.K Hb' v d → Q v H') → t σ H Q) : DE X Wx P I e t F J := ⟨h, k⟩
theorem dt_of {t : TT} (h : PT X e t) (k : ∀ (W : Wd) (ρ : Env) (σ : St) (Hb H : Hp) (Q : Bool → Hp → Prop) (post : Bool → Env → Prop) (xp : XP), EnvOk X.K W P I ρ σ Hb H → T ρ post xp → XOk X Wx W P σ xp →
    (∀ b ρ' Hb' H', post b ρ' → EnvOk X.K W P J ρ' σ Hb' H' → Sub Hb Hb' → Q b H') → t σ H Q) : DT X Wx P I e t T J := ⟨h, k⟩

theorem de_var (i : Nat) {x : Str} (hp : i ∉ P := by decide) (hi : i ∉ I := by decide) (hN : X.N[i]? = some x := by rfl) (hv : Vis X.env.scope x := by first | exact Or.inl rfl | exact Or.inr (Or.inl rfl) | exact Or.inr (Or.inr rfl)) (hd : (x == ("__debug__" : Str)) = false := by decide)
    (hcd : (x == ("__classdict__" : Str)) = false := by decide) : DE X Wx P I (.Name x pos) (tVar i) (fVar i) I :=
  de_of (pe_var hN hv hd hcd) fun W ρ σ Hb H Q post xp E f _ q => by
    unfold fVar at f
    split at f
    · rename_i d g
      obtain ⟨v, e, is⟩ := E.val i d g hp hi
      exact ⟨v, e, q _ _ _ _ _ f E (Sub.refl _) is⟩
    · exact f.elim
theorem de_int {i : Int} {j} : DE X Wx P I (.Constant (.int i) j pos) (tC (.int i)) (fC (.int i)) I := de_of pe_int fun W ρ σ Hb H Q post xp E f _ q => q _ _ _ _ _ f E (Sub.refl _) (.int i)
theorem de_bl {b : Bool} {j} : DE X Wx P I (.Constant (.bool b) j pos) (tC (.bl b)) (fC (.bl b)) I := de_of pe_bl fun W ρ σ Hb H Q post xp E f _ q => q _ _ _ _ _ f E (Sub.refl _) (.bl b)
theorem de_non {j} : DE X Wx P I (.Constant .none j pos) (tC .non) (fC .non) I := de_of pe_non fun W ρ σ Hb H Q post xp E f _ q => q _ _ _ _ _ f E (Sub.refl _) .non
theorem de_str {x : Str} {j} : DE X Wx P I (.Constant (.str x) j pos) (tC (.str x)) (fC (.str x)) I := de_of pe_str fun W ρ σ Hb H Q post xp E f _ q => q _ _ _ _ _ f E (Sub.refl _) (.str x)
theorem de_bltn {x : Str} {n : String} (hm : X.mg x = none) (hv : bootBuiltins x = some (.type n)) (hg : Gl X x := by rfl) (hn : x ≠ "__name__" := by decide) (hd : (x == ("__debug__" : Str)) = false := by decide) : DE X Wx P I (.Name x pos) (tC (.ty n)) (fC (.ty n)) I :=
  de_of (pe_bltn hg hm hv (v := .ty n) rfl hn hd) fun W ρ σ Hb H Q post xp E f _ q => q _ _ _ _ _ f E (Sub.refl _) (.ty n)

theorem deo (h : DE X Wx P I e ta F J) : DEo X Wx P I e ta F J := ⟨h.pe, fun W ρ σ Hb H Q post xp E f x q => h.ev W ρ σ Hb H Q post xp E f x fun d ρ' v Hb' H' a E' s i => q d ρ' v Hb' H' a E' s (.inl i)⟩
theorem de_un {op : UnaryOp} {r : V → Hp → VK → Prop} {g : G1} (ho : UnR X (unaryOp op) r) (hr : RV1 X.K r g) (ha : DEo X Wx P I a ta F J) : DE X Wx P I (.UnaryOp op a pos) (tUn r ta) (fUn g F) J := by
  obtain ⟨pa, ka⟩ := ha
  refine de_of (pe_un ho pa) fun W ρ σ Hb H Q post xp E f x q => ka W ρ σ Hb H _ _ xp E f x fun d ρ1 v Hb1 H1 f1 E1 s1 i1 => ?_
  refine hr Hb1 H1 v d _ _ E1.sub i1 f1 fun w dz Hb2 H2 kz g iz => ?_
  obtain ⟨E2, s2⟩ := g.env E1
  exact q _ _ _ _ _ kz E2 (s1.trans s2) iz
theorem bin_core {r : R2} {g : G2} (hr : RV2 X.K r g) (ha : DE X Wx P I a ta F J1) (hb : DEo X Wx P J1 b tb G J) :
    ∀ (W : Wd) (ρ : Env) (σ : St) (Hb H : Hp) (Q : VK) (post : Post) (xp : XP), EnvOk X.K W P I ρ σ Hb H → fBin g F G ρ post xp → XOk X Wx W P σ xp →
    (∀ d ρ' v Hb' H', post d ρ' → EnvOk X.K W P J ρ' σ Hb' H' → Sub Hb Hb' → Is X.K Hb' v d → Q v H') → tOp r ta tb σ H Q := by
  intro W ρ σ Hb H Q post xp E f x q
  refine ha.ev W ρ σ Hb H _ _ xp E f x fun d ρ1 v Hb1 H1 f1 E1 s1 i1 => ?_
  refine hb.ev W ρ1 σ Hb1 H1 _ _ xp E1 f1 x fun d2 ρ2 v2 Hb2 H2 f2 E2 s2 i2 => ?_
  refine hr Hb2 H2 v v2 d d2 _ _ E2.sub (.inl (i1.mono s2)) i2 f2 fun w dz Hb3 H3 kz g iz => ?_
  obtain ⟨E3, s3⟩ := g.env E2
  exact q _ _ _ _ _ kz E3 ((s1.trans s2).trans s3) iz
theorem binL_core {r : R2} {g : G2} (i : Nat) (hr : RV2 X.K r g) (hb : DEo X Wx P I b tb G J) (hi : i ∈ P ∨ i ∈ I) (hj : i ∈ P ∨ i ∈ J) :
    ∀ (W : Wd) (ρ : Env) (σ : St) (Hb H : Hp) (Q : VK) (post : Post) (xp : XP), EnvOk X.K W P I ρ σ Hb H → fBinL g i G ρ post xp → XOk X Wx W P σ xp →
    (∀ d ρ' v Hb' H', post d ρ' → EnvOk X.K W P J ρ' σ Hb' H' → Sub Hb Hb' → Is X.K Hb' v d → Q v H') → tOp r (tVar i) tb σ H Q := by
  intro W ρ σ Hb H Q post xp E f x q
  obtain ⟨f0, f⟩ := f
  cases g0 : get ρ i with
  | none => rw [g0] at f0; exact f0.elim
  | some d0 =>
    obtain ⟨p, ep, _⟩ := E.cel i d0 hi g0
    refine ⟨_, ep, hb.ev W ρ σ Hb H _ _ xp E f x fun d2 ρ2 v2 Hb2 H2 f2 E2 s2 i2 => ?_⟩
    cases g2 : get ρ2 i with
    | none => rw [g2] at f2; exact f2.elim
    | some d =>
      rw [g2] at f2
      obtain ⟨p', ep', _, c, _⟩ := E2.cel i d hj g2
      rw [ep] at ep'; cases ep'
      refine hr Hb2 H2 _ v2 d d2 _ _ E2.sub (.inr ⟨p, rfl, c⟩) i2 f2 fun w dz Hb3 H3 kz g iz => ?_
      obtain ⟨E3, s3⟩ := g.env E2
      exact q _ _ _ _ _ kz E3 (s2.trans s3) iz
theorem de_bin {op : Operator} {r : R2} {g : G2} (ho : OpR X (binaryOp op) r) (hr : RV2 X.K r g) (ha : DE X Wx P I a ta F J1) (hb : DEo X Wx P J1 b tb G J) : DE X Wx P I (.BinOp a op b pos) (tOp r ta tb) (fBin g F G) J :=
  de_of (pe_op ho ha.pe hb.pe) (bin_core hr ha hb)
theorem de_cmp {op : CmpOp} {r : R2} {g : G2} (ho : OpR X (compareOp op) r) (hr : RV2 X.K r g) (ha : DE X Wx P I a ta F J1) (hb : DEo X Wx P J1 b tb G J) (hm : behindInMarks op b = false := by first | exact nomark _ | rfl) : DE X Wx P I (.Compare a [op] [b] pos) (tOp r ta tb) (fBin g F G) J :=
  de_of (pe_cmpR ho ha.pe hb.pe hm) (bin_core hr ha hb)
theorem de_ix {r : R2} {g : G2} (ho : IxR X r) (hr : RV2 X.K r g) (ha : DE X Wx P I a ta F J1) (hb : DEo X Wx P J1 b tb G J) (hs : PlainIx b := by exact fun _ _ => rfl) : DE X Wx P I (.Subscript a b pos) (tOp r ta tb) (fBin g F G) J :=
  de_of (pe_ix ho ha.pe hb.pe hs) (bin_core hr ha hb)
theorem de_ixL {r : R2} {g : G2} (i : Nat) {x : Str} (ho : IxR X r) (hr : RV2 X.K r g) (hb : DEo X Wx P I b tb G J) (hs : PlainIx b := by exact fun _ _ => rfl) (hi : i ∈ P ∨ i ∈ I := by decide) (hj : i ∈ P ∨ i ∈ J := by decide) (hN : X.N[i]? = some x := by rfl) (hv : Vis X.env.scope x := by first | exact Or.inl rfl | exact Or.inr (Or.inl rfl) | exact Or.inr (Or.inr rfl)) (hd : (x == ("__debug__" : Str)) = false := by decide)
    (hcd : (x == ("__classdict__" : Str)) = false := by decide) : DE X Wx P I (.Subscript (.Name x p2) b pos) (tOp r (tVar i) tb) (fBinL g i G) J :=
  de_of (pe_ix ho (pe_var hN hv hd hcd) hb.pe hs) (binL_core i hr hb hi hj)

theorem da_nil : DA X Wx P I [] tNil fNil I := ⟨pa_nil, fun W ρ σ Hb H Q post xp E f _ q => q _ _ _ _ _ f E (Sub.refl _) .nil⟩
theorem da_cons (ha : DE X Wx P I e ta F J1) (hb : DA X Wx P J1 es tA A J) (hs : starEach (e :: es) X.env = (false, eval e X.env) :: starEach es X.env := by rfl) : DA X Wx P I (e :: es) (tCons ta tA) (fCons F A) J := by
  obtain ⟨pa, ka⟩ := ha
  obtain ⟨pb, kb⟩ := hb
  refine ⟨pa_cons pa pb hs, fun W ρ σ Hb H Q post xp E f x q => ka W ρ σ Hb H _ _ xp E f x fun d ρ1 v Hb1 H1 f1 E1 s1 i1 => ?_⟩
  exact kb W ρ1 σ Hb1 H1 _ _ xp E1 f1 x fun ds ρ2 vs Hb2 H2 f2 E2 s2 i2 => q _ _ _ _ _ f2 E2 (s1.trans s2) (.cons (i1.mono s2) i2)
/-- arguments that are only looked at: the last one may be a slot's own cell -/
theorem dao (h : DA X Wx P I es tA A J) : DAo X Wx P I es tA A J := ⟨h.pe, fun W ρ σ Hb H Q post xp E f x q => h.ev W ρ σ Hb H Q post xp E f x fun ds ρ' vs Hb' H' a E' s i => q ds ρ' vs Hb' H' a E' s i.o⟩
theorem dao_one (ha : DEo X Wx P I e ta F J) (hs : starEach [e] X.env = (false, eval e X.env) :: starEach [] X.env := by rfl) : DAo X Wx P I [e] (tCons ta tNil) (fCons F fNil) J :=
  ⟨pa_cons ha.pe pa_nil hs, fun W ρ σ Hb H Q post xp E f x q => ha.ev W ρ σ Hb H _ _ xp E f x fun d ρ1 v Hb1 H1 f1 E1 s1 i1 => q _ _ _ _ _ f1 E1 s1 (.cons i1 .nil)⟩
theorem de_tup {x1} (h : DA X Wx P I es tA A J) (hz : es.length ≤ 1000 := by exact by decide) : DE X Wx P I (.Tuple es x1 pos) (tTup tA) (fun ρ post xp => A ρ (fun xs ρ1 => xs.length ≤ 1000 ∧ post (.tup xs) ρ1) xp) J := by
  obtain ⟨pa, ka⟩ := h
  refine de_of (pe_tup pa) fun W ρ σ Hb H Q post xp E f x q => ka W ρ σ Hb H _ _ xp E f x fun ds ρ1 vs Hb1 H1 f1 E1 s1 i1 => ⟨?_, fun p hp => ?_⟩
  · rw [i1.length]; exact Nat.le_trans f1.1 (by decide)
  · have hn : Hb1 p = none := E1.sub.none hp
    exact q _ _ _ _ _ f1.2 (E1.alloc hp) (s1.trans (Sub.new hn)) (.tup upd_same (i1.mono (Sub.new hn)))
end
end DL

/-! DL2: operators and built-ins over data. -/
namespace DL
open PySem L2 PyProof.Rows

/-! ### plain data for == -/
mutual
def pd : D → Option PyData
  | .non => some .none
  | .bl b => some (.bool b)
  | .int i => some (.int i)
  | .str s => some (.str s)
  | .tup ds => (pdL ds).map .tuple
  | .lst ds => (pdL ds).map .list
  | .ktp ds => (pdL ds).map .tuple
  | .slst ds => (pdL ds).map .list
  | _ => none
def pdL : List D → Option (List PyData)
  | [] => some []
  | d :: ds => match pd d with
    | some x => (pdL ds).map (x :: ·)
    | none => none
end
mutual
theorem Is.dp {K : PySem.W.Frag} {H : Hp} : ∀ {v : V} {d : D} {x : PyData}, Is K H v d → pd d = some x → Dp K H v x
  | _, _, _, .non, e => by simp [pd] at e; subst e; exact .non
  | _, _, _, .bl b, e => by simp [pd] at e; subst e; exact .bl b
  | _, _, _, .int i, e => by simp [pd] at e; subst e; exact .int i
  | _, _, _, .str s, e => by simp [pd] at e; subst e; exact .str s
  | _, _, _, .ty n, e => by simp [pd] at e
  | _, _, _, .fn n, e => by simp [pd] at e
  | _, _, _, .cl c, e => by simp [pd] at e
  | _, _, _, .xc0 _ _, e => by simp [pd] at e
  | _, _, _, .xcd _ _ _ _ _, e => by simp [pd] at e
  | _, .tup ds, _, .tup h l, e => by
    simp only [pd] at e
    cases q : pdL ds with
    | none => rw [q] at e; cases e
    | some xs => rw [q] at e; cases e; exact .tup (SqT.of h) (IsL.dp l q)
  | _, .lst ds, _, .lst h l, e => by
    simp only [pd] at e
    cases q : pdL ds with
    | none => rw [q] at e; cases e
    | some xs => rw [q] at e; cases e; exact .lst (SqL.of h) (IsL.dp l q)
  | _, .ktp ds, _, .ktp h l, e => by
    simp only [pd] at e
    cases q : pdL ds with
    | none => rw [q] at e; cases e
    | some xs => rw [q] at e; cases e; exact .tup h.sq (IsL.dp l q)
  | _, .slst ds, _, .slst h l, e => by
    simp only [pd] at e
    cases q : pdL ds with
    | none => rw [q] at e; cases e
    | some xs => rw [q] at e; cases e; exact .lst h (IsL.dp l q)
  | _, _, _, .dk _ _ _, e => by simp [pd] at e
  | _, _, _, .dt _ _ _, e => by simp [pd] at e
  | _, _, _, .obj _ _ _ _, e => by simp [pd] at e
  | _, _, _, .nest _ _ _, e => by simp [pd] at e
  | _, _, _, .nestL _ _ _, e => by simp [pd] at e
  | _, _, _, .nobj _ _ _ _, e => by simp [pd] at e
theorem IsL.dp {K : PySem.W.Frag} {H : Hp} : ∀ {vs : List V} {ds : List D} {xs : List PyData}, IsL K H vs ds → pdL ds = some xs → DpAll K H vs xs
  | _, _, _, .nil, e => by simp [pdL] at e; subst e; exact .nil
  | _, d :: ds, _, .cons a l, e => by
    simp only [pdL] at e
    cases q : pd d with
    | none => rw [q] at e; cases e
    | some x =>
      rw [q] at e
      cases r : pdL ds with
      | none => rw [r] at e; cases e
      | some xs => rw [r] at e; cases e; exact .cons (Is.dp a q) (IsL.dp l r)
end

/-! ### items, keys -/
/-- the items of a tuple, of a list -/
def tupD : D → Option (List D)
  | .tup ds => some ds
  | .ktp ds => some ds
  | _ => none
def lstD : D → Option (List D)
  | .lst ds => some ds
  | .slst ds => some ds
  | _ => none
def dInts : List D → Option (List Int)
  | [] => some []
  | .int i :: r => (dInts r).map (i :: ·)
  | _ => none
def dBools : List D → Option (List Bool)
  | [] => some []
  | .bl i :: r => (dBools r).map (i :: ·)
  | _ => none
def keysOf : List D → Option (List Key)
  | [] => some []
  | .int i :: r => (keysOf r).map (Sum.inl i :: ·)
  | .str s :: r => (keysOf r).map (Sum.inr s :: ·)
  | _ => none
def valD {κ : Type} [DecidableEq κ] (kvs : List (κ × D)) (k : κ) : Option D := (kvs.find? fun kv => decide (kv.1 = k)).map (·.2)
@[simp] def putD {κ : Type} [DecidableEq κ] (kvs : List (κ × D)) (k : κ) (v : D) : List (κ × D) := if (kvs.any fun kv => decide (kv.1 = k)) = true then kvs.map fun kv => if kv.1 = k then (kv.1, v) else kv else kvs ++ [(k, v)]
section
variable {K : PySem.W.Frag} {Hb H : Hp}
theorem is_int {v : V} {i : Int} (h : Is K H v (.int i)) : v = .int i := by cases h; rfl
theorem is_bl {v : V} {b : Bool} (h : Is K H v (.bl b)) : v = .bl b := by cases h; rfl
theorem is_str {v : V} {b : Str} (h : Is K H v (.str b)) : v = .str b := by cases h; rfl
theorem is_non {v : V} (h : Is K H v .non) : v = .non := by cases h; rfl
theorem is_tupD {v : V} {d : D} {ds : List D} (h : Is K H v d) (e : tupD d = some ds) : ∃ a vs, v = .ref a ∧ SqT K H a vs ∧ IsL K H vs ds := by
  cases d <;> simp [tupD] at e <;> subst e
  · cases h with
    | tup h l => exact ⟨_, _, rfl, SqT.of h, l⟩
  · cases h with
    | ktp h l => exact ⟨_, _, rfl, h.sq, l⟩
theorem is_lstD {v : V} {d : D} {ds : List D} (h : Is K H v d) (e : lstD d = some ds) : ∃ a vs, v = .ref a ∧ SqL K H a vs ∧ IsL K H vs ds := by
  cases d <;> simp [lstD] at e <;> subst e
  · cases h with
    | lst h l => exact ⟨_, _, rfl, SqL.of h, l⟩
  · cases h with
    | slst h l => exact ⟨_, _, rfl, h, l⟩
theorem o_int {v : V} {i : Int} (h : IsO K Hb H v (.int i)) : v = .int i := h.elim is_int fun ⟨_, _, c⟩ => c.elim
theorem o_bl {v : V} {i : Bool} (h : IsO K Hb H v (.bl i)) : v = .bl i := h.elim is_bl fun ⟨_, _, c⟩ => c.elim
theorem o_str {v : V} {i : Str} (h : IsO K Hb H v (.str i)) : v = .str i := h.elim is_str fun ⟨_, _, c⟩ => c.elim
theorem o_ty {v : V} {n : String} (h : IsO K Hb H v (.ty n)) : v = .ty n := h.elim (fun h => by cases h; rfl) fun ⟨_, _, c⟩ => c.elim
theorem o_tupD (s : Sub Hb H) {v : V} {d : D} {ds : List D} (h : IsO K Hb H v d) (e : tupD d = some ds) : Is K Hb v d ∧ ∃ a vs, v = .ref a ∧ SqT K H a vs ∧ IsL K Hb vs ds := by
  rcases h with h | ⟨p, rfl, c⟩
  · obtain ⟨a, vs, e1, h1, l⟩ := is_tupD h e
    exact ⟨h, a, vs, e1, s.sqT h1, l⟩
  · cases d <;> first | exact c.elim | simp [tupD] at e
theorem o_lstD (s : Sub Hb H) {v : V} {d : D} {ds : List D} (h : IsO K Hb H v d) (e : lstD d = some ds) : ∃ a vs, v = .ref a ∧ SqL K H a vs ∧ IsL K Hb vs ds := by
  rcases h with h | ⟨p, rfl, c⟩
  · obtain ⟨a, vs, e1, h1, l⟩ := is_lstD h e
    exact ⟨a, vs, e1, s.sqL h1, l⟩
  · cases d <;> first | exact c.elim | simp [lstD] at e
    subst e
    obtain ⟨vs, h1, l⟩ := c
    exact ⟨p, vs, rfl, SqL.of h1, l⟩
theorem o_lst (s : Sub Hb H) {v : V} {ds : List D} (h : IsO K Hb H v (.lst ds)) : ∃ a vs, v = .ref a ∧ H a = some (.lst vs) ∧ IsL K Hb vs ds := by
  rcases h with h | ⟨p, rfl, vs, h1, l⟩
  · cases h with
    | lst h l => exact ⟨_, _, rfl, s.at h, l⟩
  · exact ⟨p, vs, rfl, h1, l⟩
theorem is_ints : ∀ {vs : List V} {ds : List D} {ns : List Int}, IsL K H vs ds → dInts ds = some ns → vs = ns.map V.int
  | _, [], _, .nil, e => by simp [dInts] at e; subst e; rfl
  | _, .int i :: r, _, .cons a l, e => by
    simp only [dInts] at e
    cases q : dInts r with
    | none => rw [q] at e; cases e
    | some ms => rw [q] at e; cases e; rw [is_int a, is_ints l q]; rfl
  | _, .non :: _, _, _, e | _, .bl _ :: _, _, _, e | _, .str _ :: _, _, _, e | _, .ty _ :: _, _, _, e | _, .fn _ :: _, _, _, e | _, .cl _ :: _, _, _, e | _, .xc _ _ :: _, _, _, e | _, .tup _ :: _, _, _, e | _, .lst _ :: _, _, _, e | _, .ktp _ :: _, _, _, e | _, .slst _ :: _, _, _, e | _, .dk _ :: _, _, _, e | _, .dt _ :: _, _, _, e | _, .obj _ _ :: _, _, _, e | _, .nest _ _ _ :: _, _, _, e | _, .nestL _ _ _ _ :: _, _, _, e | _, .nobj _ _ _ :: _, _, _, e => by simp [dInts] at e
theorem is_bools : ∀ {vs : List V} {ds : List D} {ns : List Bool}, IsL K H vs ds → dBools ds = some ns → vs = ns.map V.bl
  | _, [], _, .nil, e => by simp [dBools] at e; subst e; rfl
  | _, .bl i :: r, _, .cons a l, e => by
    simp only [dBools] at e
    cases q : dBools r with
    | none => rw [q] at e; cases e
    | some ms => rw [q] at e; cases e; rw [is_bl a, is_bools l q]; rfl
  | _, .non :: _, _, _, e | _, .int _ :: _, _, _, e | _, .str _ :: _, _, _, e | _, .ty _ :: _, _, _, e | _, .fn _ :: _, _, _, e | _, .cl _ :: _, _, _, e | _, .xc _ _ :: _, _, _, e | _, .tup _ :: _, _, _, e | _, .lst _ :: _, _, _, e | _, .ktp _ :: _, _, _, e | _, .slst _ :: _, _, _, e | _, .dk _ :: _, _, _, e | _, .dt _ :: _, _, _, e | _, .obj _ _ :: _, _, _, e | _, .nest _ _ _ :: _, _, _, e | _, .nestL _ _ _ _ :: _, _, _, e | _, .nobj _ _ _ :: _, _, _, e => by simp [dBools] at e
end
section
variable {K : PySem.W.Frag} {Hb H : Hp}
theorem valD_rel {κ : Type} [DecidableEq κ] (k : κ) : ∀ {vs : List (κ × V)} {kvs : List (κ × D)}, vs.map (·.1) = kvs.map (·.1) → IsL K H (vs.map (·.2)) (kvs.map (·.2)) →
    (∀ d, valD kvs k = some d → ∃ v, valV vs k = some v ∧ Is K H v d) ∧ (valD kvs k = none → valV vs k = none)
  | [], [], _, _ => ⟨fun d h => by simp [valD] at h, fun _ => rfl⟩
  | [], _ :: _, e, _ => by simp at e
  | _ :: _, [], e, _ => by simp at e
  | (k1, v) :: vs, (k2, d) :: kvs, e, l => by
    simp only [List.map_cons, List.cons.injEq] at e
    obtain ⟨rfl, e⟩ := e
    simp only [List.map_cons] at l
    cases l with
    | cons a l =>
      by_cases hk : k1 = k
      · refine ⟨fun d' h => ?_, fun h => ?_⟩
        · have : valD ((k1, d) :: kvs) k = some d := by simp [valD, List.find?_cons, hk]
          rw [this] at h; cases h
          exact ⟨v, by simp [valV, List.find?_cons, hk], a⟩
        · have : valD ((k1, d) :: kvs) k = some d := by simp [valD, List.find?_cons, hk]
          rw [this] at h; cases h
      · have e1 : valD ((k1, d) :: kvs) k = valD kvs k := by simp [valD, List.find?_cons, hk]
        have e2 : valV ((k1, v) :: vs) k = valV vs k := by simp [valV, List.find?_cons, hk]
        rw [e1, e2]
        exact valD_rel k e l
theorem anyD_rel {κ : Type} [DecidableEq κ] (k : κ) : ∀ {vs : List (κ × V)} {kvs : List (κ × D)}, vs.map (·.1) = kvs.map (·.1) → (vs.any fun kv => decide (kv.1 = k)) = kvs.any fun kv => decide (kv.1 = k)
  | [], [], _ => rfl
  | [], _ :: _, e => by simp at e
  | _ :: _, [], e => by simp at e
  | (k1, v) :: vs, (k2, d) :: kvs, e => by
    simp only [List.map_cons, List.cons.injEq] at e
    obtain ⟨rfl, e⟩ := e
    simp only [List.any_cons, anyD_rel k e]
theorem mapPut_rel {κ : Type} [DecidableEq κ] (k : κ) {v : V} {d : D} (h : Is K H v d) : ∀ {vs : List (κ × V)} {kvs : List (κ × D)}, vs.map (·.1) = kvs.map (·.1) → IsL K H (vs.map (·.2)) (kvs.map (·.2)) →
    (vs.map fun kv => if kv.1 = k then (kv.1, v) else kv).map (·.1) = (kvs.map fun kv => if kv.1 = k then (kv.1, d) else kv).map (·.1) ∧ IsL K H ((vs.map fun kv => if kv.1 = k then (kv.1, v) else kv).map (·.2)) ((kvs.map fun kv => if kv.1 = k then (kv.1, d) else kv).map (·.2))
  | [], [], _, _ => ⟨rfl, .nil⟩
  | [], _ :: _, e, _ => by simp at e
  | _ :: _, [], e, _ => by simp at e
  | (k1, w) :: vs, (k2, x) :: kvs, e, l => by
    simp only [List.map_cons, List.cons.injEq] at e
    obtain ⟨rfl, e⟩ := e
    simp only [List.map_cons] at l
    cases l with
    | cons a l =>
      obtain ⟨h1, h2⟩ := mapPut_rel k h e l
      by_cases hk : k1 = k
      · simp only [List.map_cons, if_pos hk]
        exact ⟨by rw [h1], .cons h h2⟩
      · simp only [List.map_cons, if_neg hk]
        exact ⟨by rw [h1], .cons a h2⟩
theorem putD_rel {κ : Type} [DecidableEq κ] (k : κ) {v : V} {d : D} {vs : List (κ × V)} {kvs : List (κ × D)} (e : vs.map (·.1) = kvs.map (·.1)) (l : IsL K H (vs.map (·.2)) (kvs.map (·.2))) (h : Is K H v d) :
    (putK vs k v).map (·.1) = (putD kvs k d).map (·.1) ∧ IsL K H ((putK vs k v).map (·.2)) ((putD kvs k d).map (·.2)) := by
  unfold putK putD
  rw [anyD_rel k e]
  split
  · exact mapPut_rel k h e l
  · simp only [List.map_append, List.map_cons, List.map_nil]
    exact ⟨by rw [e], l.append (.cons h .nil)⟩

theorem is_keys : ∀ {vs : List V} {ds : List D} {ks : List Key}, IsL K H vs ds → keysOf ds = some ks → vs = ks.map kV
  | _, [], _, .nil, e => by simp [keysOf] at e; subst e; rfl
  | _, .int i :: r, _, .cons a l, e => by
    simp only [keysOf] at e
    cases q : keysOf r with
    | none => rw [q] at e; cases e
    | some ms => rw [q] at e; cases e; rw [is_int a, is_keys l q]; rfl
  | _, .str i :: r, _, .cons a l, e => by
    simp only [keysOf] at e
    cases q : keysOf r with
    | none => rw [q] at e; cases e
    | some ms => rw [q] at e; cases e; rw [is_str a, is_keys l q]; rfl
  | _, .non :: _, _, _, e | _, .bl _ :: _, _, _, e | _, .ty _ :: _, _, _, e | _, .fn _ :: _, _, _, e | _, .cl _ :: _, _, _, e | _, .xc _ _ :: _, _, _, e | _, .tup _ :: _, _, _, e | _, .lst _ :: _, _, _, e | _, .ktp _ :: _, _, _, e | _, .slst _ :: _, _, _, e | _, .dk _ :: _, _, _, e | _, .dt _ :: _, _, _, e | _, .obj _ _ :: _, _, _, e | _, .nest _ _ _ :: _, _, _, e | _, .nestL _ _ _ _ :: _, _, _, e | _, .nobj _ _ _ :: _, _, _, e => by simp [keysOf] at e
/-- the value at a key, if any; none: not a key that fits -/
def getK : D → D → Option (Option D)
  | .dk kvs, .int i => some (valD kvs (.inl i))
  | .dk kvs, .str s => some (valD kvs (.inr s))
  | .dt kvs, .tup ds => (keysOf ds).map (valD kvs ·)
  | .nest _ k kvs, .int i => if k = .inl i then none else some (valD kvs (.inl i))
  | .nest _ k kvs, .str s => if k = .inr s then none else some (valD kvs (.inr s))
  | .nestL _ _ k kvs, .str s => if k = .inr s then none else some (valD kvs (.inr s))
  | _, _ => none
def putKD : D → D → D → Option D
  | .dk kvs, .int i, v => some (.dk (putD kvs (.inl i) v))
  | .dk kvs, .str s, v => some (.dk (putD kvs (.inr s) v))
  | .dt kvs, .tup ds, v => (keysOf ds).map fun k => .dt (putD kvs k v)
  | .nest q k kvs, .int i, v => if k = .inl i then none else some (.nest q k (putD kvs (.inl i) v))
  | .nest q k kvs, .str s, v => if k = .inr s then none else some (.nest q k (putD kvs (.inr s) v))
  | _, _, _ => none
def sizeD : D → Nat
  | .nest _ _ kvs => kvs.length
  | .dk kvs => kvs.length
  | .dt kvs => kvs.length
  | _ => 0
theorem dget_k {a : Addr} {kvs : List (Key × V)} {k : Key} (e : Rd H a (.dK kvs)) : DGet H a (kV k) (valV kvs k) := .inl ⟨kvs, k, e, rfl, rfl⟩
theorem dget_t {a b : Addr} {kvs : List (List Key × V)} {k : List Key} (e : Rd H a (.dT kvs)) (eb : H b = some (.tup (k.map kV))) : DGet H a (.ref b) (valV kvs k) := .inr ⟨kvs, k, b, e, rfl, eb, rfl⟩
/-- a cell or a locked dict, to be read -/
def RCell (K : PySem.W.Frag) (Hb H : Hp) (p : Addr) : D → Prop
  | .dk kvs => ∃ vs : List (Key × V), Rd H p (.dK vs) ∧ vs.map (·.1) = kvs.map (·.1) ∧ IsL K Hb (vs.map (·.2)) (kvs.map (·.2))
  | .dt kvs => ∃ vs : List (List Key × V), Rd H p (.dT vs) ∧ vs.map (·.1) = kvs.map (·.1) ∧ IsL K Hb (vs.map (·.2)) (kvs.map (·.2))
  | .nestL _ _ k kvs => ∃ vs : List (Key × V), Rd H p (.dK vs) ∧ ∀ kk, kk ≠ k → (∀ x, valD kvs kk = some x → ∃ v, valV vs kk = some v ∧ Is K Hb v x) ∧ (valD kvs kk = none → valV vs kk = none)
  | .nest _ k kvs => ∃ vs : List (Key × V), Rd H p (.dK vs) ∧ ∀ kk, kk ≠ k → (∀ x, valD kvs kk = some x → ∃ v, valV vs kk = some v ∧ Is K Hb v x) ∧ (valD kvs kk = none → valV vs kk = none)
  | d => Cell K Hb H p d
theorem ER.val {κ : Type} [DecidableEq κ] {C : Addr → D → Prop} {k kk : κ} (n : kk ≠ k) : ∀ {vs : List (κ × V)} {kvs : List (κ × D)}, ER K Hb C p k vs kvs → (∀ x, valD kvs kk = some x → ∃ v, valV vs kk = some v ∧ Is K Hb v x) ∧ (valD kvs kk = none → valV vs kk = none)
  | [], [], _ => ⟨fun d h => by simp [valD] at h, fun _ => rfl⟩
  | v :: vs, d :: ds, h => by
    obtain ⟨h1, h2, h3⟩ := h
    by_cases z : d.1 = kk
    · rw [if_neg (by rw [z]; exact n)] at h2
      have e1 : valD (d :: ds) kk = some d.2 := by simp [valD, List.find?_cons, z]
      have e2 : valV (v :: vs) kk = some v.2 := by simp [valV, List.find?_cons, h1, z]
      rw [e1, e2]
      exact ⟨fun x e => by cases e; exact ⟨_, rfl, h2⟩, fun e => by cases e⟩
    · have e1 : valD (d :: ds) kk = valD ds kk := by simp [valD, List.find?_cons, z]
      have e2 : valV (v :: vs) kk = valV vs kk := by simp [valV, List.find?_cons, h1, z]
      rw [e1, e2]
      exact ER.val n h3
theorem ER.any {κ : Type} [DecidableEq κ] {C : Addr → D → Prop} {k : κ} (kk : κ) {vs : List (κ × V)} {kvs : List (κ × D)} (h : ER K Hb C p k vs kvs) : (vs.any fun kv => decide (kv.1 = kk)) = kvs.any fun kv => decide (kv.1 = kk) := anyD_rel kk h.keys
theorem ER.map {κ : Type} [DecidableEq κ] {C : Addr → D → Prop} {k kk : κ} (n : kk ≠ k) {w : V} {x : D} (i : Is K Hb w x) : ∀ {vs : List (κ × V)} {kvs : List (κ × D)}, ER K Hb C p k vs kvs →
    ER K Hb C p k (vs.map fun kv => if kv.1 = kk then (kv.1, w) else kv) (kvs.map fun kv => if kv.1 = kk then (kv.1, x) else kv)
  | [], [], _ => trivial
  | v :: vs, d :: ds, h => by
    obtain ⟨h1, h2, h3⟩ := h
    have ek : (ds.map fun kv => if kv.1 = kk then (kv.1, x) else kv).map (·.1) = ds.map (·.1) := by
      rw [List.map_map]
      refine List.map_congr_left fun a _ => ?_
      show (if a.1 = kk then (a.1, x) else a).1 = a.1
      split <;> rfl
    rw [List.map_cons, List.map_cons]
    by_cases z : d.1 = kk
    · rw [if_pos z, if_pos (h1.trans z)]
      exact ⟨h1, by rw [if_neg (by show d.1 ≠ k; rw [z]; exact n)]; exact i, ER.map n i h3⟩
    · rw [if_neg z, if_neg (by rw [h1]; exact z)]
      exact ⟨h1, by rw [ek]; exact h2, ER.map n i h3⟩
theorem ER.snoc {κ : Type} [DecidableEq κ] {C : Addr → D → Prop} {k kk : κ} (n : kk ≠ k) {w : V} {x : D} (i : Is K Hb w x) : ∀ {vs : List (κ × V)} {kvs : List (κ × D)}, ER K Hb C p k vs kvs → ER K Hb C p k (vs ++ [(kk, w)]) (kvs ++ [(kk, x)])
  | [], [], _ => ⟨rfl, by rw [if_neg n]; exact i, trivial⟩
  | v :: vs, d :: ds, h => by
    obtain ⟨h1, h2, h3⟩ := h
    refine ⟨h1, ?_, ER.snoc n i h3⟩
    by_cases z : d.1 = k
    · rw [if_pos z] at h2 ⊢
      refine ⟨h2.1, fun m => ?_⟩
      have m : k ∈ (ds ++ [(kk, x)]).map (·.1) := m
      rw [List.map_append, List.mem_append] at m
      rcases m with m | m
      · exact h2.2 m
      · exact n (by simpa using m : k = kk).symm
    · rw [if_neg z] at h2 ⊢; exact h2
theorem ER.put {κ : Type} [DecidableEq κ] {C : Addr → D → Prop} {k kk : κ} (n : kk ≠ k) {w : V} {x : D} (i : Is K Hb w x) {vs : List (κ × V)} {kvs : List (κ × D)} (h : ER K Hb C p k vs kvs) : ER K Hb C p k (putK vs kk w) (putD kvs kk x) := by
  unfold putK putD
  rw [h.any kk]
  split
  · exact h.map n i
  · exact h.snoc n i
theorem ER.heap {κ : Type} [DecidableEq κ] {k : κ} {H' : Hp} {vs : List (κ × V)} {kvs : List (κ × D)} (h : ER K Hb (Cell0 K Hb H) p k vs kvs) (e : ∀ a, a ≠ p → H' a = H a) : ER K Hb (Cell0 K Hb H') p k vs kvs :=
  h.mono (Sub.refl _) fun q d z _ c => Cell0.mono (Sub.refl _) (fun o ho => by rw [e q (h.part z).1]; exact ho) c
theorem Cell.r {p : Addr} : ∀ {d : D}, Cell K Hb H p d → RCell K Hb H p d
  | .dk _, ⟨_, h, k, l⟩ => ⟨_, .inl h, k, l⟩
  | .dt _, ⟨_, h, k, l⟩ => ⟨_, .inl h, k, l⟩
  | .lst _, c => c
  | .obj _ _, c => c
  | .nest _ _ _, ⟨vs, h, _, r⟩ => ⟨vs, .inl h, fun kk n => r.val n⟩
  | .nestL _ _ _ _, ⟨vs, h, _, r⟩ => ⟨vs, .inl h, fun kk n => r.val n⟩
  | .nobj _ _ _, c => c
theorem cell_of_is {p : Addr} : ∀ {d : D}, Is K Hb (.ref p) d → Sub Hb H → (match d with | .dk _ => True | .dt _ => True | .lst _ => True | .obj _ _ => True | .nest _ _ _ => True | .nestL _ _ _ _ => True | _ => False) → RCell K Hb H p d
  | .dk _, .dk h k l, s, _ => ⟨_, s.rd h, k, l⟩
  | .dt _, .dt h k l, s, _ => ⟨_, s.rd h, k, l⟩
  | .lst _, .lst h l, s, _ => ⟨_, s.at h, l⟩
  | .obj _ _, .obj c h k l, s, _ => ⟨_, _, _, c, s.at h, k, l⟩
  | .nest _ _ _, .nest h k l, s, _ => ⟨_, s.rd h, fun kk _ => valD_rel kk k l⟩
  | .nestL _ _ _ _, .nestL h k l, s, _ => ⟨_, s.rd h, fun kk _ => valD_rel kk k l⟩
theorem cell_get {p : Addr} {d kd : D} {y : V} {r : Option D} (c : RCell K Hb H p d) (hy : Is K Hb y kd) (s : Sub Hb H) (g : getK d kd = some r) :
    ∃ o, DGet H p y o ∧ (r = none → o = none) ∧ ∀ x, r = some x → ∃ v, o = some v ∧ Is K Hb v x := by
  cases d <;> cases kd <;> simp only [getK] at g <;> first | cases g | skip
  · obtain ⟨vs, h, e, l⟩ := c
    obtain rfl := is_int hy
    obtain ⟨h1, h2⟩ := valD_rel (Sum.inl _) e l
    exact ⟨_, dget_k (k := Sum.inl _) h, h2, h1⟩
  · obtain ⟨vs, h, e, l⟩ := c
    obtain rfl := is_str hy
    obtain ⟨h1, h2⟩ := valD_rel (Sum.inr _) e l
    exact ⟨_, dget_k (k := Sum.inr _) h, h2, h1⟩
  · obtain ⟨vs, h, e, l⟩ := c
    rename_i ds
    cases q : keysOf ds with
    | none => rw [q] at g; cases g
    | some ks =>
      rw [q] at g; cases g
      cases hy with
      | tup ht lt =>
        obtain rfl := is_keys lt q
        obtain ⟨h1, h2⟩ := valD_rel ks e l
        exact ⟨_, dget_t h (s.at ht), h2, h1⟩
  · obtain ⟨vs, h, r⟩ := c
    obtain rfl := is_int hy
    split at g
    · cases g
    · rename_i n
      cases g
      obtain ⟨h1, h2⟩ := r (Sum.inl _) (Ne.symm n)
      exact ⟨_, dget_k (k := Sum.inl _) h, h2, h1⟩
  · obtain ⟨vs, h, r⟩ := c
    obtain rfl := is_str hy
    split at g
    · cases g
    · rename_i n
      cases g
      obtain ⟨h1, h2⟩ := r (Sum.inr _) (Ne.symm n)
      exact ⟨_, dget_k (k := Sum.inr _) h, h2, h1⟩
  · obtain ⟨vs, h, r⟩ := c
    obtain rfl := is_str hy
    split at g
    · cases g
    · rename_i n
      cases g
      obtain ⟨h1, h2⟩ := r (Sum.inr _) (Ne.symm n)
      exact ⟨_, dget_k (k := Sum.inr _) h, h2, h1⟩
theorem partAt_map {κ : Type} [DecidableEq κ] {k kk : κ} (n : kk ≠ k) {w : V} : ∀ {vs : List (κ × V)}, partAt k (vs.map fun kv => if kv.1 = kk then (kv.1, w) else kv) = partAt k vs
  | [] => rfl
  | v :: vs => by
    rw [List.map_cons]
    unfold partAt
    by_cases z : v.1 = kk
    · rw [if_pos z, if_neg (by show v.1 ≠ k; rw [z]; exact n), if_neg (by rw [z]; exact n), partAt_map n]
    · rw [if_neg z, partAt_map n]
theorem partAt_snoc {κ : Type} [DecidableEq κ] {k kk : κ} (n : kk ≠ k) {w : V} : ∀ {vs : List (κ × V)}, partAt k (vs ++ [(kk, w)]) = partAt k vs
  | [] => by show (if kk = k then _ else _) = _; rw [if_neg n]; try rfl
  | v :: vs => by
    rw [List.cons_append]
    unfold partAt
    rw [partAt_snoc n]
theorem partAt_put {κ : Type} [DecidableEq κ] {k kk : κ} (n : kk ≠ k) {w : V} {vs : List (κ × V)} : partAt k (putK vs kk w) = partAt k vs := by
  unfold putK
  split
  · exact partAt_map n
  · exact partAt_snoc n
theorem cell_put {p : Addr} {d kd x d' : D} {y v : V} (c : Cell K Hb H p d) (hy : Is K Hb y kd) (hv : Is K Hb v x) (s : Sub Hb H) (hz : sizeD d < 1000000) (g : putKD d kd x = some d') :
    ∃ o, DPut H p y v (upd H p o) ∧ Cell K Hb (upd H p o) p d' ∧ ∀ a, a ∈ partsOf d' → foot H p d a := by
  cases d <;> cases kd <;> simp only [putKD] at g <;> first | cases g | skip
  · obtain ⟨vs, h, e, l⟩ := c
    obtain rfl := is_int hy
    obtain ⟨h1, h2⟩ := putD_rel (Sum.inl _) e l hv
    have hl : vs.length < sizeLine := by
      have := congrArg List.length e
      simp only [List.length_map] at this
      rw [this]; exact Nat.lt_of_lt_of_le hz (by decide)
    exact ⟨_, DPut.k (k := Sum.inl _) h hl, ⟨_, upd_same, h1, h2⟩, fun a z => by cases z⟩
  · obtain ⟨vs, h, e, l⟩ := c
    obtain rfl := is_str hy
    obtain ⟨h1, h2⟩ := putD_rel (Sum.inr _) e l hv
    have hl : vs.length < sizeLine := by
      have := congrArg List.length e
      simp only [List.length_map] at this
      rw [this]; exact Nat.lt_of_lt_of_le hz (by decide)
    exact ⟨_, DPut.k (k := Sum.inr _) h hl, ⟨_, upd_same, h1, h2⟩, fun a z => by cases z⟩
  · obtain ⟨vs, h, e, l⟩ := c
    rename_i ds
    cases q : keysOf ds with
    | none => rw [q] at g; cases g
    | some ks =>
      rw [q] at g; cases g
      cases hy with
      | tup ht lt =>
        obtain rfl := is_keys lt q
        obtain ⟨h1, h2⟩ := putD_rel ks e l hv
        have hl : vs.length < sizeLine := by
          have := congrArg List.length e
          simp only [List.length_map] at this
          rw [this]; exact Nat.lt_of_lt_of_le hz (by decide)
        exact ⟨_, DPut.t h (s.at ht) hl, ⟨_, upd_same, h1, h2⟩, fun a z => by cases z⟩
  · obtain ⟨vs, h, w, r⟩ := c
    obtain rfl := is_int hy
    split at g
    · cases g
    · rename_i n
      cases g
      have hl : vs.length < sizeLine := by
        have := congrArg List.length r.keys
        simp only [List.length_map] at this
        rw [this]; exact Nat.lt_of_lt_of_le hz (by decide)
      exact ⟨_, DPut.k (k := Sum.inl _) h hl, ⟨_, upd_same, (partAt_put (Ne.symm n)).trans w, (r.put (Ne.symm n) hv).heap fun a ne => upd_ne ne⟩, fun a z => .inr z⟩
  · obtain ⟨vs, h, w, r⟩ := c
    obtain rfl := is_str hy
    split at g
    · cases g
    · rename_i n
      cases g
      have hl : vs.length < sizeLine := by
        have := congrArg List.length r.keys
        simp only [List.length_map] at this
        rw [this]; exact Nat.lt_of_lt_of_le hz (by decide)
      exact ⟨_, DPut.k (k := Sum.inr _) h hl, ⟨_, upd_same, (partAt_put (Ne.symm n)).trans w, (r.put (Ne.symm n) hv).heap fun a ne => upd_ne ne⟩, fun a z => .inr z⟩
end
end DL

/-! DL2b: operators and built-ins over data, one rule for all kinds of values. -/
namespace DL
open PySem L2
open PyProof.Rows hiding St

/-- one factor small, or both together below a million bits -/
def CMulO (i j : Int) : Prop := (-(2 ^ 64) < i ∧ i < 2 ^ 64) ∨ (-(2 ^ 64) < j ∧ j < 2 ^ 64) ∨ i.natAbs.log2 + j.natAbs.log2 < 1000000
def CFdiv (_ j : Int) : Prop := j ≠ 0 ∧ j.natAbs.log2 < 9000
def gAdd : G2
  | .int i, .int j, k => k (.int (i + j))
  | .lst a, .lst b, k => a.length + b.length ≤ 1000000 ∧ k (.lst (a ++ b))
  | .tup a, .tup b, k => a.length + b.length ≤ 1000000 ∧ k (.tup (a ++ b))
  | .str a, .str b, k => a.length + b.length ≤ 1000000 ∧ k (.str (a ++ b))
  | _, _, _ => False
def gSub : G2
  | .int i, .int j, k => k (.int (i - j))
  | _, _, _ => False
def gMul : G2
  | .int i, .int j, k => CMulO i j ∧ k (.int (i * j))
  | .tup a, .int j, k => (a ≠ [] ∧ a.length ≤ 1000 ∧ 1 ≤ j ∧ j ≤ 1000) ∧ k (.tup (List.replicate j.toNat a).flatten)
  | _, _, _ => False
/-- // and % by any divisor but 0; by a positive one as / and % -/
def gFdiv : G2
  | .int i, .int j, k => (j ≠ 0 ∧ j.natAbs.log2 < 9000) ∧ k (.int (i.fdiv j))
  | _, _, _ => False
def gFmod : G2
  | .int i, .int j, k => j ≠ 0 ∧ k (.int (i.fmod j))
  | _, _, _ => False
def gPow : G2
  | .int i, .int j, k => (0 ≤ j ∧ j ≤ 1000000 ∧ i.natAbs < 2 ^ 64) ∧ k (.int (i ^ j.toNat))
  | _, _, _ => False
def gNeg : G1
  | .int i, k => k (.int (-i))
  | _, _ => False
/-- tuples of ints in Python's order -/
def gLt : G2 := fun x y k => match x, y with
  | .int i, .int j => k (.bl (decide (i < j)))
  | _, _ => ∃ a b ns ms, tupD x = some a ∧ tupD y = some b ∧ dInts a = some ns ∧ dInts b = some ms ∧ k (.bl (HT.lexLt ns ms))
def gLe : G2 := fun x y k => match x, y with
  | .int i, .int j => k (.bl (decide (i ≤ j)))
  | _, _ => ∃ a b ns ms, tupD x = some a ∧ tupD y = some b ∧ dInts a = some ns ∧ dInts b = some ms ∧ k (.bl (Ob.lexAt (fun j => decide (ns.getD j 0 = ms.getD j 0)) (fun j => decide (ns.getD j 0 ≤ ms.getD j 0)) (decide (ns.length ≤ ms.length)) 0 (min ns.length ms.length)))
def gGe : G2
  | .int i, .int j, k => k (.bl (decide (j ≤ i)))
  | _, _, _ => False
/-- == of plain data -/
def gEq : G2 := fun x y k => ∃ a b, pd x = some a ∧ pd y = some b ∧ SeqAt.shaped a = true ∧ SeqAt.shaped b = true ∧ k (.bl (PyData.eqv a b))
def gNe : G2 := fun x y k => ∃ a b, pd x = some a ∧ pd y = some b ∧ SeqAt.shaped a = true ∧ SeqAt.shaped b = true ∧ k (.bl (!PyData.eqv a b))
@[simp] def isN : D → Bool
  | .non => true
  | _ => false
/-- an item, a value at a key, a sign -/
def gIx : G2 := fun x y k => match x, y with
  | .tup ds, .int i => ∃ d, atI ds i = some d ∧ k d
  | .lst ds, .int i => ∃ d, atI ds i = some d ∧ k d
  | .ktp ds, .int i => ∃ d, atI ds i = some d ∧ k d
  | .slst ds, .int i => ∃ d, atI ds i = some d ∧ k d
  | .str z, .int i => z.length ≤ 1000000 ∧ ∃ c, atI z.cps.toList i = some c ∧ k (.str ⟨#[c]⟩)
  | _, _ => ∃ d, getK x y = some (some d) ∧ k d
def gLen : GN
  | [.tup ds], k => k (.int ds.length)
  | [.lst ds], k => k (.int ds.length)
  | [.ktp ds], k => k (.int ds.length)
  | [.slst ds], k => k (.int ds.length)
  | [.dk ds], k => k (.int ds.length)
  | [.dt ds], k => k (.int ds.length)
  | [.str z], k => z.length ≤ 1000000 ∧ k (.int z.length)
  | _, _ => False
def gAbs : GN
  | [.int i], k => k (.int (if i < 0 then -i else i))
  | _, _ => False
def gInt : GN
  | [.int i], k => k (.int i)
  | [.bl b], k => k (.int (if b then 1 else 0))
  | _, _ => False
def gTuple : GN := fun xs k => match xs with
  | [.tup ds] => k (.tup ds)
  | [.lst ds] => k (.tup ds)
  | [.ktp ds] => k (.ktp ds)
  | [.slst ds] => k (.tup ds)
  | _ => False
def gList : GN := fun xs k => ∃ d es, xs = [d] ∧ (tupD d = some es ∨ lstD d = some es) ∧ k (.lst es)
def gAll : GN := fun xs k => ∃ d es bs, xs = [d] ∧ lstD d = some es ∧ dBools es = some bs ∧ k (.bl (bs.all id))
section
variable {X : Cx} {K : PySem.W.Frag} {Hb H : Hp}
abbrev rAddU (K : PySem.W.Frag) : R2 := fun x y H Q => (rI0 fun i j => .int (i + j)) x y H Q ∨ (rCat x y H Q ∨ (rCatA K x y H Q ∨ ∃ i j, x = .str i ∧ y = .str j ∧ i.length + j.length ≤ sizeLine ∧ Q (.str (i ++ j)) H))
theorem op_addU : OpR X (binaryOp .Add) (rAddU X.K) := op_add.or (op_cat.or (op_catA.or op_add_str))
theorem rv_add : RV2 K (rAddU K) gAdd := fun Hb H x y dx dy k Q s ix iy g q => by
  cases dx <;> cases dy <;> first | exact g.elim | skip
  · exact .inl ⟨_, _, o_int ix, o_int iy, q _ _ _ _ g .refl (.int _)⟩
  · exact .inr (.inr (.inr ⟨_, _, o_str ix, o_str iy, Nat.le_trans g.1 (by decide), q _ _ _ _ g.2 .refl (.str _)⟩))
  · obtain ⟨i1, a, vs, e1, h1, l1⟩ := o_tupD s ix rfl
    obtain ⟨i2, b, ws, e2, h2, l2⟩ := o_tupD s iy rfl
    refine .inr (.inr (.inl ⟨a, b, vs, ws, e1, e2, h1, h2, by rw [l1.length, l2.length]; exact Nat.le_trans g.1 (by decide), fun e => ?_, fun _ e => ?_, fun _ _ p hp => ?_⟩))
    · subst e
      have z := l1.length
      have z := List.eq_nil_of_length_eq_zero (by rw [← z]; rfl)
      subst z
      rw [← e2]
      exact q _ _ _ _ g.2 .refl i2
    · subst e
      have z := l2.length
      have z := List.eq_nil_of_length_eq_zero (by rw [← z]; rfl)
      subst z
      rw [← e1]
      have g2 := g.2
      rw [List.append_nil] at g2
      exact q _ _ _ _ g2 .refl i1
    · exact q _ _ _ _ g.2 (.one hp) (.tup upd_same ((l1.append l2).mono (Sub.new (s.none hp))))
  · obtain ⟨a, vs, e1, h1, l1⟩ := o_lst s ix
    obtain ⟨b, ws, e2, h2, l2⟩ := o_lst s iy
    exact .inr (.inl ⟨a, b, vs, ws, e1, e2, h1, h2, by rw [l1.length, l2.length]; exact Nat.le_trans g.1 (by decide), fun p hp => q _ _ _ _ g.2 (.one hp) (.lst upd_same ((l1.append l2).mono (Sub.new (s.none hp))))⟩)
theorem rv_sub : RV2 K (rI0 fun i j => .int (i - j)) gSub := fun Hb H x y dx dy k Q s ix iy g q => by
  cases dx <;> cases dy <;> first | exact g.elim | skip
  exact ⟨_, _, o_int ix, o_int iy, q _ _ _ _ g .refl (.int _)⟩
theorem op_mulO : OpR X (binaryOp .Mult) (rI CMulO fun i j => .int (i * j)) := opI fun _ _ _ _ _ _ _ hc q => mul_int q (by
  rcases hc with h | h | h
  · exact CMul.ok (.inl h)
  · exact CMul.ok (.inr h)
  · exact CMulW.ok h)
/-- t * 1 is t -/
theorem tuple_mul1 (l : Addr) (items : Array Value) (n : Nat) (dd : Option Addr) (sl : Array (Option Value)) (u : Tok) :
    Meets (Builtin.«tuple.__mul__» ⟨[.ref l, .int 1 u], []⟩) (fun _ R s => s.heap.get? l = some { cls := .type "tuple", dict := dd, data := .seq items n, slots := sl } ∧ R (.ok (.ret (Value.ref l))) s) :=
  .of_wp fun prog w A R s h => by
    obtain ⟨hp, g, d, tk, os⟩ := s
    obtain ⟨hl, h⟩ := h
    have f1 := AutoSeq1.idx_int
    wp_walk using wpAny_loadPart' hl
    repeat (first
      | (refine wpAny_ite_true (by simp) ?_; wp_walk using wpAny_loadPart' hl)
      | (refine wpAny_ite_false (by simp) ?_; wp_walk using wpAny_loadPart' hl))
    exact ⟨_, rfl, h⟩
def rRep1 (K : PySem.W.Frag) : R2 := fun x y H Q => ∃ l xs, x = .ref l ∧ y = .int 1 ∧ SqT K H l xs ∧ Q (.ref l) H
theorem op_rep1 : OpR X (binaryOp .Mult) (rRep1 X.K) := by
  intro pins s σ H x y v u Q I rx ry h
  obtain ⟨l, xs, rfl, rfl, hT, q⟩ := h
  cases rx
  obtain ⟨t, rfl⟩ := ry
  obtain ⟨its, r, ⟨⟨cls, dd, data, sl⟩, ho, hc, n, hd⟩, hs⟩ := I.tuple hT
  simp only at hc hd
  subst hc hd
  exact wpAny_binaryOp_repeat_ref (T := "tuple") (U := "int") (by decide) ⟨_, ho, rfl⟩ (fun s' => typeIs_int s' 1 t) noFill_tuple_mul F.fills_int_mul F.slot_int_rmul repeat_tuple F.slot_int_index.lookup
    (call_meets F.slot_int_rmul (typeIs_int s 1 t) F.entry_int_rmul (F.args_int_rmul_2 _ _) (int_rmul_tuple 1 t l its.toArray n dd sl)
      ⟨ho, rfl, ⟨_, ho, rfl⟩, call_meets F.slot_tuple_mul ⟨_, ho, rfl⟩ F.entry_tuple_mul (F.args_tuple_mul_2 _ _) (tuple_mul1 l its.toArray n dd sl t) ⟨ho, ⟨.ref l, H, I, rfl, q⟩⟩⟩)
abbrev rMulU (K : PySem.W.Frag) : R2 := fun x y H Q => (rI CMulO fun i j => .int (i * j)) x y H Q ∨ (rRep1 K x y H Q ∨ rRepT K x y H Q)
theorem op_mulU : OpR X (binaryOp .Mult) (rMulU X.K) := op_mulO.or (op_rep1.or op_repT)
theorem isL_rep : ∀ (n : Nat) {vs : List V} {ds : List D}, IsL K H vs ds → IsL K H (List.replicate n vs).flatten (List.replicate n ds).flatten
  | 0, _, _, _ => .nil
  | n + 1, _, _, l => by
    rw [List.replicate_succ, List.replicate_succ, List.flatten_cons, List.flatten_cons]
    exact l.append (isL_rep n l)
theorem rv_mul : RV2 K (rMulU K) gMul := fun Hb H x y dx dy k Q s ix iy g q => by
  cases dx <;> cases dy <;> first | exact g.elim | skip
  · exact .inl ⟨_, _, o_int ix, o_int iy, g.1, q _ _ _ _ g.2 .refl (.int _)⟩
  · obtain ⟨i1, a, vs, e1, h1, l1⟩ := o_tupD s ix rfl
    rename_i ds j
    obtain ⟨⟨g1, g2, g3, g4⟩, g5⟩ := g
    obtain rfl := o_int iy
    by_cases hj : j = 1
    · subst hj
      refine .inr (.inl ⟨a, vs, e1, rfl, h1, ?_⟩)
      rw [← e1]
      have e : (List.replicate (1 : Int).toNat ds).flatten = ds := by
        show (List.replicate 1 ds).flatten = ds
        simp
      rw [e] at g5
      exact q _ _ _ _ g5 .refl i1
    · have hne : vs ≠ [] := fun z => g1 (List.eq_nil_of_length_eq_zero (by rw [← l1.length, z]; rfl))
      exact .inr (.inr ⟨a, j, vs, e1, rfl, h1, hne, by omega, g4, by rw [l1.length]; exact g2, fun p hp => q _ _ _ _ g5 (.one hp) (.tup upd_same ((isL_rep _ l1).mono (Sub.new (s.none hp))))⟩)
theorem op_fdivG : OpR X (binaryOp .FloorDiv) (rI CFdiv fun i j => .int (i.fdiv j)) := opI fun i j _ _ _ _ _ hc q =>
  floordiv_int hc.1 q (.inl (PyProof.noPylong_of_log2 hc.2))
theorem rv_fdiv : RV2 K (rI CFdiv fun i j => .int (i.fdiv j)) gFdiv := fun Hb H x y dx dy k Q s ix iy g q => by
  cases dx <;> cases dy <;> first | exact g.elim | skip
  exact ⟨_, _, o_int ix, o_int iy, g.1, q _ _ _ _ g.2 .refl (.int _)⟩
theorem rv_fmod : RV2 K (rI (fun _ j => j ≠ 0) fun i j => .int (i.fmod j)) gFmod := fun Hb H x y dx dy k Q s ix iy g q => by
  cases dx <;> cases dy <;> first | exact g.elim | skip
  exact ⟨_, _, o_int ix, o_int iy, g.1, q _ _ _ _ g.2 .refl (.int _)⟩
theorem rv_pow : RV2 K (rI CPow fun i j => .int (i ^ j.toNat)) gPow := fun Hb H x y dx dy k Q s ix iy g q => by
  cases dx <;> cases dy <;> first | exact g.elim | skip
  exact ⟨_, _, o_int ix, o_int iy, g.1, q _ _ _ _ g.2 .refl (.int _)⟩
theorem rv_neg : RV1 K (rU fun i => .int (-i)) gNeg := fun Hb H x dx k Q s ix g q => by
  cases dx <;> first | exact g.elim | skip
  exact ⟨_, o_int ix, q _ _ _ _ g .refl (.int _)⟩
abbrev rLtU (K : PySem.W.Frag) : R2 := fun x y H Q => (rI0 fun i j => .bl (decide (i < j))) x y H Q ∨ rLtT K x y H Q
theorem op_ltU (hu : X.A.units < cLine) : OpR X (compareOp .Lt) (rLtU X.K) := op_lt.or (op_ltT hu)
theorem tups_ints (s : Sub Hb H) {v : V} {d : D} {a : List D} {ns : List Int} (h : IsO K Hb H v d) (e : tupD d = some a) (n : dInts a = some ns) : ∃ p, v = .ref p ∧ SqT K H p (ns.map V.int) := by
  obtain ⟨_, p, vs, e1, h1, l1⟩ := o_tupD s h e
  rw [is_ints l1 n] at h1
  exact ⟨p, e1, h1⟩
theorem rv_lt : RV2 K (rLtU K) gLt := fun Hb H x y dx dy k Q s ix iy g q => by
  have T : (∃ a b ns ms, tupD dx = some a ∧ tupD dy = some b ∧ dInts a = some ns ∧ dInts b = some ms ∧ k (.bl (HT.lexLt ns ms))) → rLtU K x y H Q := fun ⟨a, b, ns, ms, e1, e2, e3, e4, g⟩ => by
    obtain ⟨p, h1, h2⟩ := tups_ints s ix e1 e3
    obtain ⟨p', h3, h4⟩ := tups_ints s iy e2 e4
    exact .inr ⟨p, p', ns, ms, h1, h3, h2, h4, q _ _ _ _ g .refl (.bl _)⟩
  unfold gLt at g
  split at g
  · exact .inl ⟨_, _, o_int ix, o_int iy, q _ _ _ _ g .refl (.bl _)⟩
  · exact T g
abbrev rLeU (K : PySem.W.Frag) : R2 := fun x y H Q => (rI0 fun i j => .bl (decide (i ≤ j))) x y H Q ∨ rLeT K x y H Q
theorem op_leU (hu : X.A.units < cLine) : OpR X (compareOp .LtE) (rLeU X.K) := op_le.or (op_leT hu)
theorem rv_le : RV2 K (rLeU K) gLe := fun Hb H x y dx dy k Q s ix iy g q => by
  unfold gLe at g
  split at g
  · exact .inl ⟨_, _, o_int ix, o_int iy, q _ _ _ _ g .refl (.bl _)⟩
  · obtain ⟨a, b, ns, ms, e1, e2, e3, e4, g⟩ := g
    obtain ⟨p, h1, h2⟩ := tups_ints s ix e1 e3
    obtain ⟨p', h3, h4⟩ := tups_ints s iy e2 e4
    exact .inr ⟨p, p', ns, ms, h1, h3, h2, h4, q _ _ _ _ g .refl (.bl _)⟩
theorem rv_ge : RV2 K (rI0 fun i j => .bl (decide (j ≤ i))) gGe := fun Hb H x y dx dy k Q s ix iy g q => by
  cases dx <;> cases dy <;> first | exact g.elim | skip
  exact ⟨_, _, o_int ix, o_int iy, q _ _ _ _ g .refl (.bl _)⟩
theorem rv_eq : RV2 K (rEqD K) gEq := fun Hb H x y dx dy k Q s ix iy g q => by
  obtain ⟨a, b, ha, hb, sa, sb, g⟩ := g
  exact ⟨a, b, (ix.is s).dp ha, (iy.is s).dp hb, sa, sb, q _ _ _ _ g .refl (.bl _)⟩
theorem rv_ne : RV2 K (rNeD K) gNe := fun Hb H x y dx dy k Q s ix iy g q => by
  obtain ⟨a, b, ha, hb, sa, sb, g⟩ := g
  exact ⟨a, b, (ix.is s).dp ha, (iy.is s).dp hb, sa, sb, q _ _ _ _ g .refl (.bl _)⟩
theorem atI_is {vs : List V} {ds : List D} {i : Int} {d : D} (l : IsL K H vs ds) (h : atI ds i = some d) : ∃ v, atI vs i = some v ∧ Is K H v d := by
  unfold atI at h ⊢
  rw [l.length]
  cases e : ixN ds.length i with
  | none => rw [e] at h; cases h
  | some j =>
    rw [e] at h
    obtain ⟨v, h1, h2⟩ := l.get (show ds[j]? = some d from h)
    exact ⟨v, h1, h2⟩
/-- what may be looked up -/
def isDict : D → Prop
  | .dk _ => True
  | .dt _ => True
  | .nest _ _ _ => True
  | .nestL _ _ _ _ => True
  | _ => False
theorem isDict_ref {v : V} {d : D} (h : isDict d) (i : Is K H v d) : ∃ p, v = .ref p := by
  cases d <;> first | exact h.elim | skip
  · cases i; exact ⟨_, rfl⟩
  · cases i; exact ⟨_, rfl⟩
  · cases i; exact ⟨_, rfl⟩
  · cases i; exact ⟨_, rfl⟩
theorem isDict_cell {p : Addr} {d : D} (h : isDict d) (i : Is K Hb (.ref p) d) (s : Sub Hb H) : RCell K Hb H p d := by
  refine cell_of_is i s ?_
  cases d <;> first | exact h.elim | exact trivial
theorem getK_dict {d k : D} {r : Option D} (h : getK d k = some r) : isDict d := by
  cases d <;> cases k <;> simp only [getK] at h <;> first | exact trivial | cases h
/-- a dict, frozen or a slot's own -/
theorem o_dict (s : Sub Hb H) {v : V} {d : D} (h : IsO K Hb H v d) (hd : isDict d) : ∃ p, v = .ref p ∧ RCell K Hb H p d := by
  rcases h with h | ⟨p, rfl, c⟩
  · obtain ⟨p, rfl⟩ := isDict_ref hd h
    exact ⟨p, rfl, isDict_cell hd h s⟩
  · exact ⟨p, rfl, c.r⟩
theorem o_key (s : Sub Hb H) {v : V} {d c : D} {r : Option D} (h : IsO K Hb H v d) (g : getK c d = some r) : Is K Hb v d := by
  rcases h with h | ⟨p, rfl, cl⟩
  · exact h
  · cases c <;> cases d <;> simp only [getK] at g <;> first | exact cl.elim | (cases g; done)
def rIxDc : R2 := fun x y H Q => ∃ a v, x = .ref a ∧ DGet H a y (some v) ∧ Q v H
theorem ix_dict (hu : X.A.units + 1 < cLine) : IxR X rIxDc := by
  intro value slice pins s σ H x y v u Q I rx ry h hs
  obtain ⟨a, z, rfl, g, q⟩ := h
  obtain rfl : v = Value.ref a := rx
  exact tail_any (dict_typeIs I g) PySem.F.slot_dict_getitem.lookup (d_getItem hu I g ry fun w' s3 I3 rw' => ⟨z, H, I3, rw', q⟩) hs
abbrev rIxU (K : PySem.W.Frag) : R2 := fun x y H Q => rIx K x y H Q ∨ rIxDc x y H Q
theorem ix_U (hu : X.A.units + 1 < cLine) : IxR X (rIxU X.K) := IxR.or ix_seq (ix_dict hu)
theorem rv_ix : RV2 K (rIxU K) gIx := fun Hb H x y dx dy k Q s ix iy g q => by
  have T : ∀ {ds : List D} {i : Int}, tupD dx = some ds → IsO K Hb H y (.int i) → (∃ d, atI ds i = some d ∧ k d) → rIxU K x y H Q := fun {ds i} e iy g => by
    obtain ⟨_, a, vs, e, h, l⟩ := o_tupD s ix e
    obtain ⟨d, ha, g⟩ := g
    obtain ⟨v, hv, iv⟩ := atI_is l ha
    exact .inl (.inr (.inl ⟨a, vs, _, v, e, o_int iy, h, hv, q _ _ _ _ g .refl iv⟩))
  have L : ∀ {ds : List D} {i : Int}, lstD dx = some ds → IsO K Hb H y (.int i) → (∃ d, atI ds i = some d ∧ k d) → rIxU K x y H Q := fun {ds i} e iy g => by
    obtain ⟨a, vs, e, h, l⟩ := o_lstD s ix e
    obtain ⟨d, ha, g⟩ := g
    obtain ⟨v, hv, iv⟩ := atI_is l ha
    exact .inl (.inl ⟨a, vs, _, v, e, o_int iy, h, hv, q _ _ _ _ g .refl iv⟩)
  have Dc : (∃ d, getK dx dy = some (some d) ∧ k d) → rIxU K x y H Q := fun ⟨d, e, g⟩ => by
    obtain ⟨p, rfl, c⟩ := o_dict s ix (getK_dict e)
    obtain ⟨o, dg, _, h2⟩ := cell_get c (o_key s iy e) s e
    obtain ⟨w, rfl, iw⟩ := h2 d rfl
    exact .inr ⟨p, w, rfl, dg, q _ _ _ _ g .refl iw⟩
  unfold gIx at g
  split at g
  · exact T rfl iy g
  · exact L rfl iy g
  · exact T rfl iy g
  · exact L rfl iy g
  · obtain ⟨g1, c, g2, g3⟩ := g
    exact .inl (.inr (.inr ⟨_, _, c, o_str ix, o_int iy, Nat.le_trans g1 (by decide), g2, q _ _ _ _ g3 .refl (.str _)⟩))
  · exact Dc g
/-! ### built-ins -/
theorem o_one {xs : List V} {d : D} (l : IsOL K Hb H xs [d]) : ∃ v, xs = [v] ∧ IsO K Hb H v d := by
  cases l with
  | cons a l => cases l; exact ⟨_, rfl, a⟩
theorem o_two {xs : List V} {d e : D} (l : IsOL K Hb H xs [d, e]) : ∃ v w, xs = [v, w] ∧ IsO K Hb H v d ∧ IsO K Hb H w e := by
  cases l with
  | cons a l =>
    obtain ⟨w, rfl, b⟩ := o_one l
    exact ⟨_, w, rfl, a, b⟩
theorem call_lenDr : CallR X (.builtin "len") (fun xs H Q => ∃ a kvs, xs = [V.ref a] ∧ Rd H a (.dK kvs) ∧ Q (.int kvs.length) H) := by
  intro pins s σ H xs us Q I r h
  obtain ⟨a, kvs, rfl, ha, q⟩ := h
  obtain ⟨u, rfl, ru⟩ := vals1 r
  cases ru
  exact d_len I ha fun t s' I' => ⟨.int kvs.length, H, I', ⟨t, rfl⟩, q⟩
def rLenTr : List V → Hp → VK → Prop := fun xs H Q => ∃ (p : Addr) (kvs : List (List Key × V)), xs = [.ref p] ∧ Rd H p (.dT kvs) ∧ Q (.int ((kvs.length : Nat) : Int)) H
theorem call_len_dTr : CallR X (.builtin "len") rLenTr := by
  intro pins s σ H xs us Q I r h
  obtain ⟨p, kvs, rfl, hp, q⟩ := h
  obtain ⟨u, rfl, rx⟩ := vals1 r
  obtain rfl : u = .ref p := rx
  obtain ⟨z, hd, ys, rel, dd⟩ := dt_rd I.hok hp
  have hl : kvs.length = ys.length := Paired.length rel
  refine call_len_dictH hd dd (by rw [← hl]; have := sizeLine_eq; omega) ?_
  rw [← hl]
  exact ⟨.int ((kvs.length : Nat) : Int), H, I.tok _, ⟨_, rfl⟩, q⟩
abbrev rLenU (K : PySem.W.Frag) : List V → Hp → VK → Prop := fun xs H Q => (∃ p ys, xs = [.ref p] ∧ (SqL K H p ys ∨ SqT K H p ys) ∧ Q (.int ys.length) H) ∨ ((∃ a kvs, xs = [V.ref a] ∧ Rd H a (.dK kvs) ∧ Q (.int kvs.length) H) ∨ (rLenTr xs H Q ∨ ∃ z, xs = [.str z] ∧ z.length ≤ sizeLine ∧ Q (.int z.length) H))
theorem call_lenU : CallR X (.builtin "len") (rLenU X.K) := call_len_seq.or (call_lenDr.or (call_len_dTr.or call_len_str))
theorem rv_len : RVN K (rLenU K) gLen := fun Hb H xs ds k Q s l g q => by
  have T : ∀ {d : D} {es : List D}, IsOL K Hb H xs [d] → tupD d = some es → k (.int es.length) → rLenU K xs H Q := fun {d es} l e g => by
    obtain ⟨v, rfl, i⟩ := o_one l
    obtain ⟨_, a, vs, rfl, h, m⟩ := o_tupD s i e
    exact .inl ⟨a, vs, rfl, .inr h, by rw [m.length]; exact q _ _ _ _ g .refl (.int _)⟩
  have L : ∀ {d : D} {es : List D}, IsOL K Hb H xs [d] → lstD d = some es → k (.int es.length) → rLenU K xs H Q := fun {d es} l e g => by
    obtain ⟨v, rfl, i⟩ := o_one l
    obtain ⟨a, vs, rfl, h, m⟩ := o_lstD s i e
    exact .inl ⟨a, vs, rfl, .inl h, by rw [m.length]; exact q _ _ _ _ g .refl (.int _)⟩
  unfold gLen at g
  split at g
  · exact T l rfl g
  · exact L l rfl g
  · exact T l rfl g
  · exact L l rfl g
  · obtain ⟨v, rfl, i⟩ := o_one l
    obtain ⟨p, rfl, vs, h, e, _⟩ := o_dict s i trivial
    have z := congrArg List.length e
    simp only [List.length_map] at z
    exact .inr (.inl ⟨p, vs, rfl, h, by rw [z]; exact q _ _ _ _ g .refl (.int _)⟩)
  · obtain ⟨v, rfl, i⟩ := o_one l
    obtain ⟨p, rfl, vs, h, e, _⟩ := o_dict s i trivial
    have z := congrArg List.length e
    simp only [List.length_map] at z
    exact .inr (.inr (.inl ⟨p, vs, rfl, h, by rw [z]; exact q _ _ _ _ g .refl (.int _)⟩))
  · obtain ⟨v, rfl, i⟩ := o_one l
    obtain rfl := o_str i
    exact .inr (.inr (.inr ⟨_, rfl, Nat.le_trans g.1 (by decide), q _ _ _ _ g.2 .refl (.int _)⟩))
  · exact g.elim
theorem rv_abs : RVN K (fun xs H Q => ∃ i, xs = [.int i] ∧ Q (.int (if i < 0 then -i else i)) H) gAbs := fun Hb H xs ds k Q s l g q => by
  unfold gAbs at g
  split at g
  · obtain ⟨v, rfl, i⟩ := o_one l
    obtain rfl := o_int i
    exact ⟨_, rfl, q _ _ _ _ g .refl (.int _)⟩
  · exact g.elim
theorem rv_int : RVN K (fun xs H Q => (∃ i, xs = [.int i] ∧ Q (.int i) H) ∨ ∃ k, xs = [.bl k] ∧ Q (.int (if k then 1 else 0)) H) gInt := fun Hb H xs ds k Q s l g q => by
  unfold gInt at g
  split at g
  · obtain ⟨v, rfl, i⟩ := o_one l
    obtain rfl := o_int i
    exact .inl ⟨_, rfl, q _ _ _ _ g .refl (.int _)⟩
  · obtain ⟨v, rfl, i⟩ := o_one l
    obtain rfl := o_bl i
    exact .inr ⟨_, rfl, q _ _ _ _ g .refl (.int _)⟩
  · exact g.elim
abbrev rTupleU (K : PySem.W.Frag) : List V → Hp → VK → Prop := fun xs H Q => ∃ p ys, xs = [.ref p] ∧ ((SqL K H p ys ∧ ∀ l, H l = none → Q (.ref l) (upd H l (.tup ys))) ∨ (SqT K H p ys ∧ Q (.ref p) H))
theorem rv_tuple : RVN K (rTupleU K) gTuple := fun Hb H xs ds k Q s l g q => by
  have T : ∀ {d : D} {es : List D}, IsOL K Hb H xs [d] → tupD d = some es → k d → rTupleU K xs H Q := fun {d es} l e g => by
    obtain ⟨v, rfl, i⟩ := o_one l
    obtain ⟨i2, a, vs, rfl, h, m⟩ := o_tupD s i e
    exact ⟨a, vs, rfl, .inr ⟨h, q _ _ _ _ g .refl i2⟩⟩
  have L : ∀ {d : D} {es : List D}, IsOL K Hb H xs [d] → lstD d = some es → k (.tup es) → rTupleU K xs H Q := fun {d es} l e g => by
    obtain ⟨v, rfl, i⟩ := o_one l
    obtain ⟨a, vs, rfl, h, m⟩ := o_lstD s i e
    exact ⟨a, vs, rfl, .inl ⟨h, fun p hp => q _ _ _ _ g (.one hp) (.tup upd_same (m.mono (Sub.new (s.none hp))))⟩⟩
  unfold gTuple at g
  split at g
  · exact T l rfl g
  · exact L l rfl g
  · exact T l rfl g
  · exact L l rfl g
  · exact g.elim
theorem o_seqD (s : Sub Hb H) {v : V} {d : D} {es : List D} (h : IsO K Hb H v d) (e : tupD d = some es ∨ lstD d = some es) : ∃ a vs, v = .ref a ∧ (SqL K H a vs ∨ SqT K H a vs) ∧ IsL K Hb vs es := by
  rcases e with e | e
  · obtain ⟨_, a, vs, e1, h1, l⟩ := o_tupD s h e
    exact ⟨a, vs, e1, .inr h1, l⟩
  · obtain ⟨a, vs, e1, h1, l⟩ := o_lstD s h e
    exact ⟨a, vs, e1, .inl h1, l⟩
abbrev rListU (K : PySem.W.Frag) : List V → Hp → VK → Prop := fun xs H Q => ∃ p ys, xs = [.ref p] ∧ (SqL K H p ys ∨ SqT K H p ys) ∧ ∀ l, H l = none → Q (.ref l) (upd H l (.lst ys))
theorem rv_list : RVN K (rListU K) gList := fun Hb H xs ds k Q s l g q => by
  obtain ⟨d, es, rfl, e, g⟩ := g
  obtain ⟨v, rfl, i⟩ := o_one l
  obtain ⟨a, vs, rfl, h, m⟩ := o_seqD s i e
  exact ⟨a, vs, rfl, h, fun p hp => q _ _ _ _ g (.one hp) (.lst upd_same (m.mono (Sub.new (s.none hp))))⟩
theorem rv_all : RVN K (rAll K) gAll := fun Hb H xs ds k Q s l g q => by
  obtain ⟨d, es, bs, rfl, e1, e2, g⟩ := g
  obtain ⟨v, rfl, i⟩ := o_one l
  obtain ⟨a, vs, rfl, h, m⟩ := o_lstD s i e1
  obtain rfl := is_bools m e2
  exact ⟨a, bs, rfl, h, q _ _ _ _ g .refl (.bl _)⟩
end
end DL

/-! DL3: tests, and, or, if; arguments that are lent cells; calls of defs; statements. -/
namespace DL
open PySem L2
open PyProof.Rows hiding St

section
variable {X : Cx} {Wx : WX} {P I J J1 J2 J3 : List Nat} {e a b c : Expr} {es rest : List Expr} {F G : FE} {T U : FT} {A : FA} {pos p2 : Pos} {ta tb : TE} {tc uc : TT} {tA : TA}
/-! ### tests -/
theorem dt_val (ha : DE X Wx P I e ta F J) (he : ∀ whole, isTrue e X.env whole = (do let v ← whole; standAt e.pos; holding [v] (truthy v)) := by intro _; rfl) : DT X Wx P I e (tB ta) (fTest F) J := by
  obtain ⟨pa, ka⟩ := ha
  refine dt_of (pt_val pa he) fun W ρ σ Hb H Q post xp E f x q => ka W ρ σ Hb H _ _ xp E f x fun d ρ1 v Hb1 H1 f1 E1 s1 i1 => ?_
  cases d <;> first | exact f1.elim | skip
  exact ⟨_, is_bl i1, q _ _ _ _ f1 E1 s1⟩
theorem dt_cmp {op : CmpOp} {r : R2} {g : G2} (ho : OpR X (compareOp op) r) (hr : RV2 X.K r g) (ha : DE X Wx P I a ta F J1) (hb : DEo X Wx P J1 b tb G J) (hm : behindInMarks op b = false := by first | exact nomark _ | rfl) : DT X Wx P I (.Compare a [op] [b] pos) (tTest (tOp r ta tb)) (fTest (fBin g F G)) J := by
  refine dt_of (pt_cmpR ho ha.pe hb.pe hm) fun W ρ σ Hb H Q post xp E f x q => bin_core hr ha hb W ρ σ Hb H _ _ xp E f x fun d ρ1 v Hb1 H1 f1 E1 s1 i1 => ?_
  cases d <;> first | exact f1.elim | skip
  exact ⟨_, is_bl i1, q _ _ _ _ f1 E1 s1⟩
theorem dt_not (ha : DT X Wx P I a tc T J) : DT X Wx P I (.UnaryOp .Not a pos) (tNot tc) (fNot T) J := by
  obtain ⟨pa, ka⟩ := ha
  exact dt_of (pt_not pa) fun W ρ σ Hb H Q post xp E f x q => ka W ρ σ Hb H _ _ xp E f x fun b ρ1 Hb1 H1 f1 E1 s1 => q _ _ _ _ f1 E1 s1
theorem dw_and1 (ha : DT X Wx P I a tc T J) : DW X Wx P I (.BoolOp .And [a] pos) tc T J := by
  obtain ⟨pa, ka⟩ := ha
  exact ⟨pw_and1 pa, ka⟩
theorem dw_or1 (ha : DT X Wx P I a tc T J) : DW X Wx P I (.BoolOp .Or [a] pos) tc T J := by
  obtain ⟨pa, ka⟩ := ha
  exact ⟨pw_or1 pa, ka⟩
theorem dw_and (ha : DT X Wx P I a tc T I) (hb : DW X Wx P I (.BoolOp .And (b :: rest) pos) uc U I) : DW X Wx P I (.BoolOp .And (a :: b :: rest) pos) (tAnd tc uc) (fAnd T U) I := by
  obtain ⟨pa, ka⟩ := ha
  obtain ⟨pb, kb⟩ := hb
  refine ⟨pw_and pa pb, fun W ρ σ Hb H Q post xp E f x q => ka W ρ σ Hb H _ _ xp E f x fun b ρ1 Hb1 H1 f1 E1 s1 => ?_⟩
  cases b with
  | true =>
    rw [if_pos rfl] at f1 ⊢
    exact kb W ρ1 σ Hb1 H1 _ _ xp E1 f1 x fun b ρ2 Hb2 H2 f2 E2 s2 => q _ _ _ _ f2 E2 (s1.trans s2)
  | false =>
    rw [if_neg Bool.false_ne_true] at f1 ⊢
    exact q _ _ _ _ f1 E1 s1
theorem dw_or (ha : DT X Wx P I a tc T I) (hb : DW X Wx P I (.BoolOp .Or (b :: rest) pos) uc U I) : DW X Wx P I (.BoolOp .Or (a :: b :: rest) pos) (tOr tc uc) (fOr T U) I := by
  obtain ⟨pa, ka⟩ := ha
  obtain ⟨pb, kb⟩ := hb
  refine ⟨pw_or pa pb, fun W ρ σ Hb H Q post xp E f x q => ka W ρ σ Hb H _ _ xp E f x fun b ρ1 Hb1 H1 f1 E1 s1 => ?_⟩
  cases b with
  | true =>
    rw [if_pos rfl] at f1 ⊢
    exact q _ _ _ _ f1 E1 s1
  | false =>
    rw [if_neg Bool.false_ne_true] at f1 ⊢
    exact kb W ρ1 σ Hb1 H1 _ _ xp E1 f1 x fun b ρ2 Hb2 H2 f2 E2 s2 => q _ _ _ _ f2 E2 (s1.trans s2)
theorem dt_w (h : DW X Wx P I e tc T J) : DT X Wx P I e tc T J := by
  obtain ⟨pa, ka⟩ := h
  exact ⟨pa.pt, ka⟩
theorem de_one {op} (h : DE X Wx P I a ta F J) : DE X Wx P I (.BoolOp op [a] pos) ta F J := by
  obtain ⟨pa, ka⟩ := h
  exact ⟨pe_one pa, ka⟩
theorem de_and (ha : DE X Wx P I a ta F I) (hb : DE X Wx P I (.BoolOp .And (b :: rest) pos) tb G I) : DE X Wx P I (.BoolOp .And (a :: b :: rest) pos) (tAndV ta tb) (fAndV F G) I := by
  obtain ⟨pa, ka⟩ := ha
  obtain ⟨pb, kb⟩ := hb
  refine ⟨pe_and pa pb, fun W ρ σ Hb H Q post xp E f x q => ka W ρ σ Hb H _ _ xp E f x fun d ρ1 v Hb1 H1 f1 E1 s1 i1 => ?_⟩
  cases d <;> first | exact f1.elim | skip
  rename_i b
  refine ⟨b, is_bl i1, ?_⟩
  cases b with
  | true =>
    rw [if_pos rfl]
    exact kb W ρ1 σ Hb1 H1 _ _ xp E1 f1 x fun d ρ2 v Hb2 H2 f2 E2 s2 i2 => q _ _ _ _ _ f2 E2 (s1.trans s2) i2
  | false =>
    rw [if_neg Bool.false_ne_true]
    exact q _ _ _ _ _ f1 E1 s1 (.bl _)
theorem de_not (ha : DE X Wx P I a ta F J) : DE X Wx P I (.UnaryOp .Not a pos) (tNotV ta) (fNotV F) J := by
  obtain ⟨pa, ka⟩ := ha
  refine ⟨pe_not pa, fun W ρ σ Hb H Q post xp E f x q => ka W ρ σ Hb H _ _ xp E f x fun d ρ1 v Hb1 H1 f1 E1 s1 i1 => ?_⟩
  cases d <;> first | exact f1.elim | skip
  exact ⟨_, is_bl i1, q _ _ _ _ _ f1 E1 s1 (.bl _)⟩
theorem de_if (hc : DT X Wx P I c tc T J1) (ha : DE X Wx P J1 a ta F J) (hb : DE X Wx P J1 b tb G J) : DE X Wx P I (.IfExp c a b pos) (tIf tc ta tb) (fIf T F G) J := by
  obtain ⟨pc, kc⟩ := hc
  obtain ⟨pa, ka⟩ := ha
  obtain ⟨pb, kb⟩ := hb
  refine ⟨pe_ifExp pc pa pb, fun W ρ σ Hb H Q post xp E f x q => kc W ρ σ Hb H _ _ xp E f x fun b ρ1 Hb1 H1 f1 E1 s1 => ?_⟩
  cases b with
  | true =>
    rw [if_pos rfl] at f1 ⊢
    exact ka W ρ1 σ Hb1 H1 _ _ xp E1 f1 x fun d ρ2 v Hb2 H2 f2 E2 s2 i2 => q _ _ _ _ _ f2 E2 (s1.trans s2) i2
  | false =>
    rw [if_neg Bool.false_ne_true] at f1 ⊢
    exact kb W ρ1 σ Hb1 H1 _ _ xp E1 f1 x fun d ρ2 v Hb2 H2 f2 E2 s2 i2 => q _ _ _ _ _ f2 E2 (s1.trans s2) i2
/-- built-ins by their names -/
theorem de_callB {x : Str} {id : String} {r : List V → Hp → VK → Prop} {g : GN} (hc : CallR X (.builtin id) r) (hr : RVN X.K r g) (hm : X.mg x = none) (hv : bootBuiltins x = some (.builtin id)) (ha : DAo X Wx P I (e :: es) tA A J) (hg : Gl X x := by rfl) (hn : x ≠ "__name__" := by decide) (hdb : (x == ("__debug__" : Str)) = false := by decide)
    (he : starEach (e :: es) X.env = (false, eval e X.env) :: starEach es X.env := by rfl) (hpl : (backTo pos (starEach es X.env)).any (·.1) = false := by rfl) : DE X Wx P I (.Call (.Name x p2) (e :: es) [] pos) (tCB r tA) (fN g A) J := by
  obtain ⟨pa, ka⟩ := ha
  refine de_of (pe_callB hc hg hm hv pa hn hdb he hpl) fun W ρ σ Hb H Q post xp E f x q => ka W ρ σ Hb H _ _ xp E f x fun ds ρ1 vs Hb1 H1 f1 E1 s1 i1 => ?_
  refine hr Hb1 H1 vs ds _ _ E1.sub i1 f1 fun w dz Hb2 H2 kz g iz => ?_
  obtain ⟨E2, s2⟩ := g.env E1
  exact q _ _ _ _ _ kz E2 (s1.trans s2) iz
theorem de_callTy {x : Str} {n : String} {r : List V → Hp → VK → Prop} {g : GN} (hc : CallR X (.type n) r) (hr : RVN X.K r g) (hm : X.mg x = none) (hv : bootBuiltins x = some (.type n)) (ha : DAo X Wx P I (e :: es) tA A J) (hg : Gl X x := by rfl) (hn : x ≠ "__name__" := by decide) (hdb : (x == ("__debug__" : Str)) = false := by decide)
    (he : starEach (e :: es) X.env = (false, eval e X.env) :: starEach es X.env := by rfl) (hpl : (backTo pos (starEach es X.env)).any (·.1) = false := by rfl) : DE X Wx P I (.Call (.Name x p2) (e :: es) [] pos) (tCB r tA) (fN g A) J := by
  obtain ⟨pa, ka⟩ := ha
  refine de_of (pe_callTy hc hg hm hv pa hn hdb he hpl) fun W ρ σ Hb H Q post xp E f x q => ka W ρ σ Hb H _ _ xp E f x fun ds ρ1 vs Hb1 H1 f1 E1 s1 i1 => ?_
  refine hr Hb1 H1 vs ds _ _ E1.sub i1 f1 fun w dz Hb2 H2 kz g iz => ?_
  obtain ⟨E2, s2⟩ := g.env E1
  exact q _ _ _ _ _ kz E2 (s1.trans s2) iz
end

/-! ### arguments, some of them lent cells (the slots that own them: sl) -/
def Args (K : PySem.W.Frag) (Hb : Hp) (σ : St) : List (Option Nat) → List V → Env → Prop
  | [], [], [] => True
  | none :: sl, v :: vs, d :: ds => (∃ x, d = some x ∧ Is K Hb v x) ∧ Args K Hb σ sl vs ds
  | some j :: sl, v :: vs, _ :: ds => σ[j]? = some (some v) ∧ Args K Hb σ sl vs ds
  | _, _, _ => False
theorem Args.mono {K : PySem.W.Frag} {Hb Hb' : Hp} {σ : St} (s : Sub Hb Hb') : ∀ {sl : List (Option Nat)} {vs : List V} {ds : Env}, Args K Hb σ sl vs ds → Args K Hb' σ sl vs ds
  | [], [], [], h => h
  | none :: sl, v :: vs, d :: ds, ⟨⟨x, e, i⟩, h⟩ => ⟨⟨x, e, i.mono s⟩, Args.mono s h⟩
  | some j :: sl, v :: vs, _ :: ds, ⟨e, h⟩ => ⟨e, Args.mono s h⟩
/-- the data that the callee sees -/
@[simp] def fill : List (Option Nat) → Env → Env → Env
  | none :: sl, d :: ds, ρ => d :: fill sl ds ρ
  | some j :: sl, _ :: ds, ρ => get ρ j :: fill sl ds ρ
  | _, _, _ => []
/-- the lent cells as they come back -/
@[simp] def unfill : List (Option Nat) → Env → Env → Env
  | none :: sl, _ :: r, ρ => unfill sl r ρ
  | some j :: sl, d :: r, ρ => unfill sl r (put ρ j d)
  | _, _, ρ => ρ
@[simp] def lentOk : List (Option Nat) → Env → Prop
  | [], _ => True
  | none :: sl, ρ => lentOk sl ρ
  | some j :: sl, ρ => (match get ρ j with
    | some _ => True
    | none => False) ∧ lentOk sl ρ
structure DO (X : Cx) (Wx : WX) (P I : List Nat) (es : List Expr) (t : TA) (F : Env → (Env → Env → Prop) → XP → Prop) (sl : List (Option Nat)) (J : List Nat) : Prop where
  pe : PA X es t
  ev : ∀ (W : Wd) (ρ : Env) (σ : St) (Hb H : Hp) (Q : List V → Hp → Prop) (post : Env → Env → Prop) (xp : XP), EnvOk X.K W P I ρ σ Hb H → F ρ post xp → XOk X Wx W P σ xp →
    (∀ ds ρ' vs Hb' H', post ds ρ' → EnvOk X.K W P J ρ' σ Hb' H' → Sub Hb Hb' → Args X.K Hb' σ sl vs ds → Q vs H') → t σ H Q
def oNil : Env → (Env → Env → Prop) → XP → Prop := fun ρ post _ => post [] ρ
@[simp ↓] theorem oNil_ap (ρ : Env) (post : Env → Env → Prop) (z_2 : XP) : oNil  ρ post z_2 = (post [] ρ) := (rfl)
def oVal (a : FE) (b : Env → (Env → Env → Prop) → XP → Prop) : Env → (Env → Env → Prop) → XP → Prop := fun ρ post xp => a ρ (fun x ρ1 => b ρ1 (fun xs ρ2 => post (some x :: xs) ρ2) xp) xp
@[simp ↓] theorem oVal_ap (a : FE) (b : Env → (Env → Env → Prop) → XP → Prop) (ρ : Env) (post : Env → Env → Prop) (xp : XP) : oVal a b ρ post xp = (a ρ (fun x ρ1 => b ρ1 (fun xs ρ2 => post (some x :: xs) ρ2) xp) xp) := (rfl)
def oOwn (j : Nat) (b : Env → (Env → Env → Prop) → XP → Prop) : Env → (Env → Env → Prop) → XP → Prop := fun ρ post xp => (match get ρ j with
    | some _ => True
    | none => False) ∧ b ρ (fun xs ρ2 => post (none :: xs) ρ2) xp
@[simp ↓] theorem oOwn_ap (j : Nat) (b : Env → (Env → Env → Prop) → XP → Prop) (ρ : Env) (post : Env → Env → Prop) (xp : XP) : oOwn j b ρ post xp = ((match get ρ j with
    | some _ => True
    | none => False) ∧ b ρ (fun xs ρ2 => post (none :: xs) ρ2) xp) := (rfl)
section
variable {X : Cx} {Wx : WX} {P I J J1 : List Nat} {e a b c : Expr} {es : List Expr} {F : FE} {A : Env → (Env → Env → Prop) → XP → Prop} {sl : List (Option Nat)} {pos : Pos} {ta : TE} {tA : TA}
theorem do_nil : DO X Wx P I [] tNil oNil [] I := ⟨pa_nil, fun W ρ σ Hb H Q post xp E f _ q => q _ _ _ _ _ f E (Sub.refl _) trivial⟩
theorem do_val (ha : DE X Wx P I e ta F J1) (hb : DO X Wx P J1 es tA A sl J) (hs : starEach (e :: es) X.env = (false, eval e X.env) :: starEach es X.env := by rfl) : DO X Wx P I (e :: es) (tCons ta tA) (oVal F A) (none :: sl) J := by
  obtain ⟨pa, ka⟩ := ha
  obtain ⟨pb, kb⟩ := hb
  refine ⟨pa_cons pa pb hs, fun W ρ σ Hb H Q post xp E f x q => ka W ρ σ Hb H _ _ xp E f x fun d ρ1 v Hb1 H1 f1 E1 s1 i1 => ?_⟩
  exact kb W ρ1 σ Hb1 H1 _ _ xp E1 f1 x fun ds ρ2 vs Hb2 H2 f2 E2 s2 i2 => q _ _ _ _ _ f2 E2 (s1.trans s2) ⟨⟨_, rfl, i1.mono s2⟩, i2⟩
theorem do_own (j : Nat) {x : Str} (hb : DO X Wx P I es tA A sl J) (hj : j ∈ P ∨ j ∈ I := by decide) (hN : X.N[j]? = some x := by rfl) (hv : Vis X.env.scope x := by first | exact Or.inl rfl | exact Or.inr (Or.inl rfl) | exact Or.inr (Or.inr rfl)) (hd : (x == ("__debug__" : Str)) = false := by decide)
    (hcd : (x == ("__classdict__" : Str)) = false := by decide) (hs : starEach (.Name x pos :: es) X.env = (false, eval (.Name x pos) X.env) :: starEach es X.env := by rfl) : DO X Wx P I (.Name x pos :: es) (tCons (tVar j) tA) (oOwn j A) (some j :: sl) J := by
  obtain ⟨pb, kb⟩ := hb
  refine ⟨pa_cons (pe_var hN hv hd hcd) pb hs, fun W ρ σ Hb H Q post xp E f x q => ?_⟩
  obtain ⟨f0, f⟩ := f
  cases g : get ρ j with
  | none => rw [g] at f0; exact f0.elim
  | some d =>
    obtain ⟨p, ep, _⟩ := E.cel j d hj g
    refine ⟨_, ep, kb W ρ σ Hb H _ _ xp E f x fun ds ρ2 vs Hb2 H2 f2 E2 s2 i2 => q _ _ _ _ _ f2 E2 s2 ⟨ep, i2⟩⟩
end

/-! ### a def's promise over data; io: the parameters that are lent cells -/
abbrev DFn := Env → Post → XP → Prop
def lentAt (io : List Nat) (vs : List V) (ρ : Env) (H : Hp) : Nat → Addr → Prop := fun i a => i ∈ io ∧ ∃ d p, get ρ i = some d ∧ vs[i]? = some (.ref p) ∧ foot H p d a
def rootAt (io : List Nat) (vs : List V) : Nat → Addr → Prop := fun i p => i ∈ io ∧ vs[i]? = some (.ref p)
def spD (K : PySem.W.Frag) (n : Nat) (io : List Nat) (G : DFn) : Sp := fun vs H Q E => vs.length = n ∧ ∃ (ρ : Env) (Hb : Hp) (post : Post) (xp : XP), EnvOk K ⟨Hb, H, lentAt io vs ρ H, rootAt io vs⟩ io [] ρ (vs.map some) Hb H ∧ G ρ post xp ∧
  (∀ d ρ' v Hb' H', post d ρ' → EnvOk K ⟨Hb, H, lentAt io vs ρ H, rootAt io vs⟩ io [] ρ' (vs.map some) Hb' H' → Is K Hb' v d → Q v H') ∧
  (∀ c ρ' cls dx Hb' H', xp c ρ' → EnvOk K ⟨Hb, H, lentAt io vs ρ H, rootAt io vs⟩ io [] ρ' (vs.map some) Hb' H' → XIs K Hb' cls dx c → E cls dx H')

/-- the places of the lent arguments -/
def ioOf : Nat → List (Option Nat) → List Nat
  | _, [] => []
  | k, none :: sl => ioOf (k + 1) sl
  | k, some _ :: sl => k :: ioOf (k + 1) sl
def slots : List (Option Nat) → List Nat
  | [] => []
  | none :: sl => slots sl
  | some j :: sl => j :: slots sl
theorem mem_ioOf : ∀ (sl : List (Option Nat)) (k i : Nat), i ∈ ioOf k sl ↔ ∃ m j, i = k + m ∧ sl[m]? = some (some j)
  | [], k, i => by simp [ioOf]
  | none :: sl, k, i => by
    rw [ioOf, mem_ioOf sl (k + 1) i]
    constructor
    · rintro ⟨m, j, e, h⟩; exact ⟨m + 1, j, by omega, by simpa using h⟩
    · rintro ⟨m, j, e, h⟩
      cases m with
      | zero => simp at h
      | succ m => exact ⟨m, j, by omega, by simpa using h⟩
  | some j0 :: sl, k, i => by
    rw [ioOf, List.mem_cons, mem_ioOf sl (k + 1) i]
    constructor
    · rintro (e | ⟨m, j, e, h⟩)
      · exact ⟨0, j0, by omega, rfl⟩
      · exact ⟨m + 1, j, by omega, by simpa using h⟩
    · rintro ⟨m, j, e, h⟩
      cases m with
      | zero => exact .inl (by omega)
      | succ m => exact .inr ⟨m, j, by omega, by simpa using h⟩
theorem mem_slots : ∀ {sl : List (Option Nat)} {m j : Nat}, sl[m]? = some (some j) → j ∈ slots sl
  | [], _, _, h => by simp at h
  | none :: sl, 0, _, h => by simp at h
  | none :: sl, m + 1, _, h => mem_slots (sl := sl) (m := m) (by simpa using h)
  | some j0 :: sl, 0, _, h => by simp at h; subst h; exact List.mem_cons_self
  | some j0 :: sl, m + 1, _, h => List.mem_cons_of_mem _ (mem_slots (sl := sl) (m := m) (by simpa using h))
theorem of_slots : ∀ {sl : List (Option Nat)} {j : Nat}, j ∈ slots sl → ∃ m : Nat, sl[m]? = some (some j)
  | none :: sl, j, h => by
    obtain ⟨m, e⟩ := of_slots (sl := sl) (show j ∈ slots sl from h)
    exact ⟨m + 1, by simpa using e⟩
  | some j0 :: sl, j, h => by
    rcases List.mem_cons.mp (show j ∈ j0 :: slots sl from h) with e | h
    · exact ⟨0, by simp [e]⟩
    · obtain ⟨m, e⟩ := of_slots h
      exact ⟨m + 1, by simpa using e⟩
  | [], j, h => by cases h
theorem slots_inj : ∀ {sl : List (Option Nat)} {m k j : Nat}, (slots sl).Nodup → sl[m]? = some (some j) → sl[k]? = some (some j) → m = k
  | [], m, k, j, _, h, _ => by simp at h
  | none :: sl, 0, _, _, _, h, _ => by simp at h
  | none :: sl, _ + 1, 0, _, _, _, h => by simp at h
  | none :: sl, m + 1, k + 1, j, n, h1, h2 => congrArg (· + 1) (slots_inj (sl := sl) n (by simpa using h1) (by simpa using h2))
  | some j0 :: sl, 0, 0, _, _, _, _ => rfl
  | some j0 :: sl, 0, k + 1, j, n, h1, h2 => by
    simp at h1; subst h1
    exact absurd (mem_slots (sl := sl) (m := k) (by simpa using h2)) (List.nodup_cons.mp n).1
  | some j0 :: sl, m + 1, 0, j, n, h1, h2 => by
    simp at h2; subst h2
    exact absurd (mem_slots (sl := sl) (m := m) (by simpa using h1)) (List.nodup_cons.mp n).1
  | some j0 :: sl, m + 1, k + 1, j, n, h1, h2 => congrArg (· + 1) (slots_inj (sl := sl) (List.nodup_cons.mp n).2 (by simpa using h1) (by simpa using h2))
section
variable {K : PySem.W.Frag} {Hb : Hp} {σ : St}
theorem Args.len : ∀ {sl : List (Option Nat)} {vs : List V} {ds ρ : Env}, Args K Hb σ sl vs ds → (vs.map some).length = (fill sl ds ρ).length
  | [], [], [], _, _ => rfl
  | none :: sl, v :: vs, d :: ds, ρ, h => congrArg (· + 1) (Args.len (ρ := ρ) h.2)
  | some j :: sl, v :: vs, _ :: ds, ρ, h => congrArg (· + 1) (Args.len (ρ := ρ) h.2)
theorem Args.val : ∀ {sl : List (Option Nat)} {vs : List V} {ds ρ : Env} {m : Nat} {d : D}, Args K Hb σ sl vs ds → (∀ j, sl[m]? ≠ some (some j)) → get (fill sl ds ρ) m = some d → ∃ v, (vs.map some)[m]? = some (some v) ∧ Is K Hb v d
  | [], [], [], _, _, _, _, _, g => by simp [fill, get] at g
  | none :: sl, v :: vs, d :: ds, ρ, 0, _, h, _, g => by
    obtain ⟨⟨x, e, i⟩, _⟩ := h
    simp only [fill, get] at g
    rw [e] at g; cases g
    exact ⟨v, rfl, i⟩
  | none :: sl, v :: vs, d :: ds, ρ, m + 1, _, h, n, g => by
    obtain ⟨w, e, i⟩ := Args.val (ρ := ρ) (m := m) h.2 (fun j => by simpa using n j) (by simpa [fill, get] using g)
    exact ⟨w, by simpa using e, i⟩
  | some j :: sl, v :: vs, _ :: ds, ρ, 0, _, h, n, g => absurd rfl (n j)
  | some j :: sl, v :: vs, _ :: ds, ρ, m + 1, _, h, n, g => by
    obtain ⟨w, e, i⟩ := Args.val (ρ := ρ) (m := m) h.2 (fun j => by simpa using n j) (by simpa [fill, get] using g)
    exact ⟨w, by simpa using e, i⟩
theorem Args.own : ∀ {sl : List (Option Nat)} {vs : List V} {ds ρ : Env} {m j : Nat}, Args K Hb σ sl vs ds → sl[m]? = some (some j) → ∃ v, (vs.map some)[m]? = some (some v) ∧ σ[j]? = some (some v) ∧ get (fill sl ds ρ) m = get ρ j
  | [], [], [], _, _, _, _, e => by simp at e
  | none :: sl, v :: vs, d :: ds, ρ, 0, _, h, e => by simp at e
  | none :: sl, v :: vs, d :: ds, ρ, m + 1, j, h, e => by
    obtain ⟨w, e1, e2, e3⟩ := Args.own (ρ := ρ) (m := m) (j := j) h.2 (by simpa using e)
    exact ⟨w, by simpa using e1, e2, by simpa [fill, get] using e3⟩
  | some j0 :: sl, v :: vs, _ :: ds, ρ, 0, j, h, e => by
    simp at e; subst e
    exact ⟨v, rfl, h.1, rfl⟩
  | some j0 :: sl, v :: vs, _ :: ds, ρ, m + 1, j, h, e => by
    obtain ⟨w, e1, e2, e3⟩ := Args.own (ρ := ρ) (m := m) (j := j) h.2 (by simpa using e)
    exact ⟨w, by simpa using e1, e2, by simpa [fill, get] using e3⟩
end
theorem unfill_len : ∀ (sl : List (Option Nat)) (r ρ : Env), (unfill sl r ρ).length = ρ.length
  | [], _, ρ => by simp [unfill]
  | none :: sl, [], ρ => by simp [unfill]
  | none :: sl, _ :: r, ρ => unfill_len sl r ρ
  | some j :: sl, [], ρ => by simp [unfill]
  | some j :: sl, d :: r, ρ => (unfill_len sl r (put ρ j d)).trans (put_length ρ j d)
theorem unfill_ne : ∀ (sl : List (Option Nat)) (r ρ : Env) (i : Nat), i ∉ slots sl → get (unfill sl r ρ) i = get ρ i
  | [], _, ρ, _, _ => by simp [unfill]
  | none :: sl, [], ρ, _, _ => by simp [unfill]
  | none :: sl, _ :: r, ρ, i, h => unfill_ne sl r ρ i h
  | some j :: sl, [], ρ, _, _ => by simp [unfill]
  | some j :: sl, d :: r, ρ, i, h => by
    have h1 : i ≠ j := fun e => h (by rw [e]; exact List.mem_cons_self)
    exact (unfill_ne sl r (put ρ j d) i fun q => h (List.mem_cons_of_mem _ q)).trans (get_put_ne _ _ _ _ fun e => h1 e.symm)
theorem unfill_at : ∀ (sl : List (Option Nat)) (r ρ : Env) (m j : Nat), (slots sl).Nodup → r.length = sl.length → j < ρ.length → sl[m]? = some (some j) → get (unfill sl r ρ) j = get r m
  | [], _, ρ, m, j, _, _, _, h => by simp at h
  | none :: sl, [], ρ, m, _, _, l, _, _ => by simp at l
  | none :: sl, _ :: r, ρ, 0, _, _, _, _, h => by simp at h
  | none :: sl, _ :: r, ρ, m + 1, j, n, l, b, h => unfill_at sl r ρ m j n (by simpa using l) b (by simpa using h)
  | some j0 :: sl, [], ρ, m, _, _, l, _, _ => by simp at l
  | some j0 :: sl, d :: r, ρ, 0, j, n, l, b, h => by
    simp at h; subst h
    exact (unfill_ne sl r (put ρ j0 d) j0 (List.nodup_cons.mp n).1).trans (get_put_same ρ j0 d b)
  | some j0 :: sl, d :: r, ρ, m + 1, j, n, l, b, h => unfill_at sl r (put ρ j0 d) m j (List.nodup_cons.mp n).2 (by simpa using l) (by rw [put_length]; exact b) (by simpa using h)

section
variable {K : PySem.W.Frag} {W : Wd} {P J : List Nat} {ρ : Env} {σ : St} {Hb H : Hp} {sl : List (Option Nat)} {vs : List V} {ds : Env}
/-- what the callee gets -/
theorem EnvOk.lend (E : EnvOk K W P J ρ σ Hb H) (ar : Args K Hb σ sl vs ds) (hs : ∀ j ∈ slots sl, j ∈ P ∨ j ∈ J) (nd : (slots sl).Nodup) (hl : ∀ j ∈ slots sl, get ρ j ≠ none) :
    EnvOk K ⟨Hb, H, lentAt (ioOf 0 sl) vs (fill sl ds ρ) H, rootAt (ioOf 0 sl) vs⟩ (ioOf 0 sl) [] (fill sl ds ρ) (vs.map some) Hb H where
  tab := E.tab
  sub := E.sub
  stp := Stp.refl _ _ _ _
  len := ar.len
  val := fun i d g n _ => ar.val (fun j e => n ((mem_ioOf sl 0 i).mpr ⟨i, j, by omega, e⟩)) g
  celF := fun i d hi g0 => by
    have hi : i ∈ ioOf 0 sl := hi.elim id (fun q => by cases q)
    obtain ⟨m, j, e0, e⟩ := (mem_ioOf sl 0 i).mp hi
    have e0 : i = m := by omega
    subst e0
    obtain ⟨v, e1, e2, e3⟩ := ar.own (ρ := ρ) e
    have g := g0
    rw [e3] at g
    obtain ⟨p, ep, c, _, f⟩ := E.celF j d (hs j (mem_slots e)) g
    rw [e2] at ep; cases ep
    have ev : vs[i]? = some (.ref p) := by simpa using e1
    exact ⟨p, e1, c, fun _ => ⟨hi, ev⟩, fun a ha => ⟨(f a ha).1, fun _ => .inl ⟨hi, d, p, g0, ev, ha⟩, fun q => by cases q⟩⟩
  sepF := fun i k p q di dk a hi hk gi gk ei ek fi fk => by
    have hi : i ∈ ioOf 0 sl := hi.elim id (fun q => by cases q)
    have hk : k ∈ ioOf 0 sl := hk.elim id (fun q => by cases q)
    obtain ⟨m, j, e0, e⟩ := (mem_ioOf sl 0 i).mp hi
    obtain ⟨m', j', e0', e'⟩ := (mem_ioOf sl 0 k).mp hk
    have e0 : i = m := by omega
    have e0' : k = m' := by omega
    subst e0 e0'
    obtain ⟨v, e1, e2, e3⟩ := ar.own (ρ := ρ) e
    obtain ⟨v', e1', e2', e3'⟩ := ar.own (ρ := ρ) e'
    rw [ei] at e1; cases e1
    rw [ek] at e1'; cases e1'
    have hjj : j = j' := E.sepF j j' p q di dk a (hs j (mem_slots e)) (hs j' (mem_slots e')) (by rw [← e3]; exact gi) (by rw [← e3']; exact gk) e2 e2' fi fk
    subst hjj
    exact slots_inj nd e e'
/-- what comes back -/
theorem EnvOk.given {ρ' : Env} {Hb' H' : Hp} (E : EnvOk K W P J ρ σ Hb H) (ar : Args K Hb σ sl vs ds) (hs : ∀ j ∈ slots sl, j ∈ P ∨ j ∈ J) (nd : (slots sl).Nodup) (hl : ∀ j ∈ slots sl, get ρ j ≠ none)
    (E2 : EnvOk K ⟨Hb, H, lentAt (ioOf 0 sl) vs (fill sl ds ρ) H, rootAt (ioOf 0 sl) vs⟩ (ioOf 0 sl) [] ρ' (vs.map some) Hb' H') (lsl : sl.length = vs.length) : EnvOk K W P J (unfill sl ρ' ρ) σ Hb' H' := by
  have lr : ρ'.length = sl.length := by rw [← E2.len, List.length_map, lsl]
  have bnd : ∀ j ∈ slots sl, j < ρ.length := fun j hj => by
    cases q : get ρ j with
    | none => exact absurd q (hl j hj)
    | some d => exact get_lt q
  have ioj : ∀ {m j : Nat}, sl[m]? = some (some j) → m ∈ ioOf 0 sl := fun {m j} e => (mem_ioOf sl 0 m).mpr ⟨m, j, by omega, e⟩
  -- a lent address, seen from here
  have lentA : ∀ {m a}, lentAt (ioOf 0 sl) vs (fill sl ds ρ) H m a → ∃ j d p, sl[m]? = some (some j) ∧ get ρ j = some d ∧ σ[j]? = some (some (.ref p)) ∧ foot H p d a := fun {m a} ⟨hi, d, p, g, e, ft⟩ => by
    obtain ⟨m', j, e0, em⟩ := (mem_ioOf sl 0 m).mp hi
    have e0 : m = m' := by omega
    subst e0
    obtain ⟨v, e1, e2, e3⟩ := ar.own (ρ := ρ) em
    have ev : v = .ref p := by
      rw [List.getElem?_map, e] at e1
      exact (Option.some.inj (Option.some.inj e1)).symm
    subst ev
    exact ⟨j, d, p, em, by rw [← e3]; exact g, e2, ft⟩
  -- the cells that were not lent stand as they stood
  have keep : ∀ {i d p}, (i ∈ P ∨ i ∈ J) → i ∉ slots sl → get ρ i = some d → σ[i]? = some (some (.ref p)) → ∀ a, foot H p d a → ∃ o, H a = some o ∧ H' a = some o ∧ Hb' a = none := fun {i d p} hi hm g e a ha => by
    obtain ⟨p', e', c, _, f⟩ := E.celF i d hi g
    rw [e] at e'; cases e'
    obtain ⟨o, ho, nt⟩ := c.footS ha
    refine ⟨o, ho, E2.stp.own (f a ha).1 ho (c.nts ha ho) fun k lk => ?_, E2.stp.nb (f a ha).1 ho nt⟩
    obtain ⟨j, dj, pj, em, gj, ej, ftj⟩ := lentA lk
    have := E.sepF i j p pj d dj a hi (hs j (mem_slots em)) g gj e ej ha ftj
    exact hm (this ▸ mem_slots em)
  -- those that were: where they stand now
  have back : ∀ {i m d p}, sl[m]? = some (some i) → get ρ' m = some d → (vs.map some)[m]? = some (some (V.ref p)) → ∀ a, foot H' p d a → Hb' a = none ∧ ((∃ d0, get ρ i = some d0 ∧ foot H p d0 a) ∨ H a = none) := fun {i m d p} em g e a ha => by
    obtain ⟨p', e', _, _, f⟩ := E2.celF m d (.inl (ioj em)) g
    rw [e] at e'; cases e'
    refine ⟨(f a ha).1, ((f a ha).2.1 (ioj em)).imp (fun lk => ?_) id⟩
    obtain ⟨hi, d1, p1, g1, e1, ft⟩ := lk
    obtain ⟨v, e2, e3, e4⟩ := ar.own (ρ := ρ) em
    rw [List.getElem?_map, e1] at e
    cases e
    exact ⟨d1, by rw [← e4]; exact g1, ft⟩
  have at_ : ∀ {i m p}, sl[m]? = some (some i) → σ[i]? = some (some (V.ref p)) → (vs.map some)[m]? = some (some (V.ref p)) := fun {i m p} em e => by
    obtain ⟨v, e1, e2, _⟩ := ar.own (ρ := ρ) em
    rw [e] at e2; cases e2
    exact e1
  refine ⟨E2.sub, E.stp.trans E2.stp fun i p lk => ?_, by rw [unfill_len]; exact E.len, fun i d g nP nJ => ?_, fun i d hi g => ?_, fun i k p q di dk a hi hk gi gk ei ek fi fk => ?_, E2.tab⟩
  · obtain ⟨j, d, q, em, g, e, ft⟩ := lentA lk
    exact E.ownedW j p ⟨hs j (mem_slots em), d, q, g, e, ft⟩
  · have ni : i ∉ slots sl := fun q => (hs i q).elim nP nJ
    rw [unfill_ne _ _ _ _ ni] at g
    obtain ⟨v, e, is⟩ := E.val i d g nP nJ
    exact ⟨v, e, is.mono E2.stp.hb⟩
  · by_cases hm : i ∈ slots sl
    · obtain ⟨m, em⟩ := of_slots hm
      rw [unfill_at sl ρ' ρ m i nd lr (bnd i hm) em] at g
      obtain ⟨p, ep, c, _, f⟩ := E2.celF m d (.inl (ioj em)) g
      obtain ⟨v, e1, e2, _⟩ := ar.own (ρ := ρ) em
      rw [ep] at e1; cases e1
      cases q : get ρ i with
      | none => exact absurd q (hl i hm)
      | some d0 =>
        obtain ⟨p', ep', _, h1, f0⟩ := E.celF i d0 hi q
        rw [e2] at ep'; cases ep'
        refine ⟨p, e2, c, h1, fun a ha => ?_⟩
        obtain ⟨nb, r⟩ := back em g ep a ha
        rcases r with ⟨d1, g1, ft⟩ | r
        · rw [q] at g1; cases g1
          exact ⟨nb, (f0 a ft).2⟩
        · exact ⟨nb, fun _ => .inr (E.stp.al a r), fun _ => E.stp.al a r⟩
    · rw [unfill_ne _ _ _ _ hm] at g
      obtain ⟨p, ep, c, h1, f⟩ := E.celF i d hi g
      have kp := keep hi hm g ep
      have rt : H' p = H p := by
        obtain ⟨o, e1, e2, _⟩ := kp p foot.root
        rw [e1, e2]
      refine ⟨p, ep, c.mono E2.stp.hb fun a o ha ho => ?_, h1, fun a ha => ?_⟩
      · obtain ⟨o', e1, e2, _⟩ := kp a ha
        rw [ho] at e1; cases e1
        exact e2
      · have ha := foot.cong rt ha
        obtain ⟨_, _, _, nb⟩ := kp a ha
        exact ⟨nb, (f a ha).2⟩
  · have old : ∀ {i d p}, (i ∈ P ∨ i ∈ J) → i ∉ slots sl → get (unfill sl ρ' ρ) i = some d → σ[i]? = some (some (.ref p)) → ∀ a, foot H' p d a → (∃ o, H a = some o) ∧ get ρ i = some d ∧ foot H p d a := fun {i d p} hi hm g e a ha => by
      rw [unfill_ne _ _ _ _ hm] at g
      have kp := keep hi hm g e
      have rt : H' p = H p := by
        obtain ⟨o, e1, e2, _⟩ := kp p foot.root
        rw [e1, e2]
      have ha := foot.cong rt ha
      obtain ⟨o, e1, _⟩ := kp a ha
      exact ⟨⟨o, e1⟩, g, ha⟩
    by_cases hmi : i ∈ slots sl
    · obtain ⟨m, em⟩ := of_slots hmi
      rw [unfill_at sl ρ' ρ m i nd lr (bnd i hmi) em] at gi
      have b1 := back em gi (at_ em ei) a fi
      by_cases hmk : k ∈ slots sl
      · obtain ⟨m', em'⟩ := of_slots hmk
        rw [unfill_at sl ρ' ρ m' k nd lr (bnd k hmk) em'] at gk
        have : m = m' := E2.sepF m m' p q di dk a (.inl (ioj em)) (.inl (ioj em')) gi gk (at_ em ei) (at_ em' ek) fi fk
        subst this
        rw [em] at em'; cases em'; rfl
      · obtain ⟨⟨o, ho⟩, g0, ft⟩ := old hk hmk gk ek a fk
        rcases b1.2 with ⟨d0, g1, ft1⟩ | r
        · exact E.sepF i k p q d0 dk a hi hk g1 g0 ei ek ft1 ft
        · rw [ho] at r; cases r
    · obtain ⟨⟨o, ho⟩, g0, ft⟩ := old hi hmi gi ei a fi
      by_cases hmk : k ∈ slots sl
      · obtain ⟨m', em'⟩ := of_slots hmk
        rw [unfill_at sl ρ' ρ m' k nd lr (bnd k hmk) em'] at gk
        rcases (back em' gk (at_ em' ek) a fk).2 with ⟨d0, g1, ft1⟩ | r
        · exact E.sepF i k p q di d0 a hi hk g0 g1 ei ek ft ft1
        · rw [ho] at r; cases r
      · obtain ⟨_, g0', ft'⟩ := old hk hmk gk ek a fk
        exact E.sepF i k p q di dk a hi hk g0 g0' ei ek ft ft'
/-- a new address of the callee is none of the caller's -/
theorem EnvOk.given_un {ρ' : Env} {Hb' H' : Hp} (E : EnvOk K W P J ρ σ Hb H) (ar : Args K Hb σ sl vs ds) (hs : ∀ j ∈ slots sl, j ∈ P ∨ j ∈ J) (nd : (slots sl).Nodup) (hl : ∀ j ∈ slots sl, get ρ j ≠ none)
    (E2 : EnvOk K ⟨Hb, H, lentAt (ioOf 0 sl) vs (fill sl ds ρ) H, rootAt (ioOf 0 sl) vs⟩ (ioOf 0 sl) [] ρ' (vs.map some) Hb' H') (lsl : sl.length = vs.length) {a : Addr} (na : H a = none)
    (un : ∀ m dm q, m ∈ ioOf 0 sl → get ρ' m = some dm → (vs.map some)[m]? = some (some (V.ref q)) → ¬ foot H' q dm a) : ∀ i di q, (i ∈ P ∨ i ∈ J) → get (unfill sl ρ' ρ) i = some di → σ[i]? = some (some (V.ref q)) → ¬ foot H' q di a := fun i di q hi g e fa => by
  have lr : ρ'.length = sl.length := by rw [← E2.len, List.length_map, lsl]
  by_cases hm : i ∈ slots sl
  · obtain ⟨m, em⟩ := of_slots hm
    have bnd : i < ρ.length := by
      cases q : get ρ i with
      | none => exact absurd q (hl i hm)
      | some d => exact get_lt q
    rw [unfill_at sl ρ' ρ m i nd lr bnd em] at g
    obtain ⟨v, e1, e2, _⟩ := ar.own (ρ := ρ) em
    rw [e] at e2; cases e2
    exact un m di q ((mem_ioOf sl 0 m).mpr ⟨m, i, by omega, em⟩) g e1 fa
  · have E3 := E.given ar hs nd hl E2 lsl
    rw [unfill_ne _ _ _ _ hm] at g
    obtain ⟨p', e', c, _, f⟩ := E.celF i di hi g
    rw [e] at e'; cases e'
    -- its root stands as it stood
    have kp : ∀ b, foot H q di b → ∃ o, H b = some o ∧ H' b = some o := fun b hb => by
      obtain ⟨o, ho, nt⟩ := c.footS hb
      refine ⟨o, ho, E2.stp.own (f b hb).1 ho (c.nts hb ho) fun k lk => ?_⟩
      obtain ⟨hk, d, p, g1, e1, ft⟩ := lk
      obtain ⟨m', j, e0, em⟩ := (mem_ioOf sl 0 k).mp hk
      have e0 : k = m' := by omega
      subst e0
      obtain ⟨v, e2, e3, e4⟩ := ar.own (ρ := ρ) em
      have ev : v = .ref p := by
        rw [List.getElem?_map, e1] at e2
        exact (Option.some.inj (Option.some.inj e2)).symm
      subst ev
      have := E.sepF i j q p di d b hi (hs j (mem_slots em)) g (by rw [← e4]; exact g1) e e3 hb ft
      exact hm (this ▸ mem_slots em)
    obtain ⟨o, e1, e2⟩ := kp q foot.root
    have fa := foot.cong (H := H) (by rw [e1, e2]) fa
    obtain ⟨o', e1', _⟩ := kp a fa
    rw [na] at e1'; cases e1'
end
theorem lentOk_of : ∀ {sl : List (Option Nat)} {ρ : Env}, lentOk sl ρ → ∀ j ∈ slots sl, get ρ j ≠ none
  | none :: sl, ρ, h, j, hj => lentOk_of (sl := sl) h j hj
  | some j0 :: sl, ρ, h, j, hj => by
    rcases List.mem_cons.mp (show j ∈ j0 :: slots sl from hj) with e | hj
    · subst e
      intro q
      have h1 := h.1
      rw [q] at h1
      exact h1
    · exact lentOk_of h.2 j hj
  | [], _, _, _, hj => by cases hj
theorem Args.slLen {K : PySem.W.Frag} {Hb : Hp} {σ : St} : ∀ {sl : List (Option Nat)} {vs : List V} {ds : Env}, Args K Hb σ sl vs ds → sl.length = vs.length
  | [], [], [], _ => rfl
  | none :: sl, v :: vs, d :: ds, h => congrArg (· + 1) (Args.slLen h.2)
  | some j :: sl, v :: vs, _ :: ds, h => congrArg (· + 1) (Args.slLen h.2)

/-- what stands behind a call: simp -dsimp does not look into it -/
inductive Lock (p : Post) (x : XP) : Type | mk
def callD (G : DFn) (vs : Env) (post : Post) (xp : XP) (_ : Lock post xp) : Prop := G vs post xp
/-- the call, over data -/
def fCall (G : DFn) (sl : List (Option Nat)) (A : Env → (Env → Env → Prop) → XP → Prop) : FE := fun ρ post xp => A ρ (fun ds ρ1 => lentOk sl ρ1 ∧ callD G (fill sl ds ρ1) (fun d r => post d (unfill sl r ρ1)) (fun c r => xp c (unfill sl r ρ1)) .mk) xp
@[simp ↓] theorem fCall_ap (G : DFn) (sl : List (Option Nat)) (A : Env → (Env → Env → Prop) → XP → Prop) (ρ : Env) (post : Post) (xp : XP) : fCall G sl A ρ post xp = (A ρ (fun ds ρ1 => lentOk sl ρ1 ∧ callD G (fill sl ds ρ1) (fun d r => post d (unfill sl r ρ1)) (fun c r => xp c (unfill sl r ρ1)) .mk) xp) := (rfl)

/-- release: of the slots in I those in J stay owned -/
theorem EnvOk.drop {K : PySem.W.Frag} {W : Wd} {P I J : List Nat} {ρ : Env} {σ : St} {Hb H : Hp} (E : EnvOk K W P I ρ σ Hb H) (hJ : ∀ j ∈ J, j ∈ I) (hPI : ∀ j ∈ I, j ∉ P) : ∃ Hb', EnvOk K W P J ρ σ Hb' H ∧ Sub Hb Hb' := by
  classical
  let rel : Addr → Prop := fun a => ∃ i d p, i ∈ I ∧ i ∉ J ∧ get ρ i = some d ∧ σ[i]? = some (some (.ref p)) ∧ foot H p d a
  let Hb' : Hp := fun a => if rel a then H a else Hb a
  have hpos : ∀ {a}, rel a → Hb' a = H a := fun {a} h => if_pos h
  have hneg : ∀ {a}, ¬ rel a → Hb' a = Hb a := fun {a} h => if_neg h
  have relN : ∀ a, rel a → Hb a = none ∧ W.H a = none := fun a ⟨i, d, p, hi, _, g, e, ft⟩ => by
    obtain ⟨p', ep, _, _, f⟩ := E.celF i d (.inr hi) g
    rw [e] at ep; cases ep
    exact ⟨(f a ft).1, (f a ft).2.2 hi⟩
  have sb : Sub Hb Hb' := fun a o e => by
    by_cases h : rel a
    · rw [(relN a h).1] at e; cases e
    · rw [hneg h]; exact ⟨_, e, .inl rfl⟩
  have sH : Sub Hb' H := fun a o e => by
    by_cases h : rel a
    · rw [hpos h] at e; exact ⟨_, e, .inl rfl⟩
    · rw [hneg h] at e; exact E.sub a o e
  refine ⟨Hb', ⟨sH, ⟨E.stp.hb.trans sb, E.stp.fr, fun a o e => ?_, E.stp.al, E.stp.tp⟩, E.len, fun i d g nP nJ => ?_, fun i d hi g => ?_, fun i j p q di dj a hi hj => E.sepF i j p q di dj a (hi.imp id (hJ i)) (hj.imp id (hJ j)), E.tab.kb sb fun a ps e z => ?_⟩, sb⟩
  · by_cases h : rel a
    · exact .inr (.inl (relN a h).2)
    · rw [hneg h] at e; exact E.stp.fs a o e
  · by_cases hI : i ∈ I
    · obtain ⟨p, ep, c, _, _⟩ := E.celF i d (.inr hI) g
      exact ⟨_, ep, (c.mono sb (H' := Hb') fun a o ha e => by rw [hpos ⟨i, d, p, hI, nJ, g, ep, ha⟩]; exact e).is (Sub.refl _)⟩
    · obtain ⟨v, e, is⟩ := E.val i d g nP hI
      exact ⟨v, e, is.mono sb⟩
  · have hi' : i ∈ P ∨ i ∈ I := hi.imp id (hJ i)
    obtain ⟨p, ep, c, h1, f⟩ := E.celF i d hi' g
    refine ⟨p, ep, c.mono sb fun a o _ e => e, h1, fun a ha => ?_⟩
    have nr : ¬ rel a := fun ⟨k, dk, q, hk, hkJ, gk, ek, fk⟩ => by
      have e := E.sepF i k p q d dk a hi' (.inr hk) g gk ep ek ha fk
      subst e
      rcases hi with hi | hi
      · exact hPI i hk hi
      · exact hkJ hi
    exact ⟨by rw [hneg nr]; exact (f a ha).1, (f a ha).2.1, fun q => (f a ha).2.2 (hJ i q)⟩
  · have nr : ¬ rel a := fun ⟨i, d, p, hI, nJ, g, ep, ha⟩ => by
      obtain ⟨p', ep', c, _, _⟩ := E.celF i d (.inr hI) g
      rw [ep] at ep'; cases ep'
      exact c.nts ha e ps rfl
    rw [hneg nr]; exact z

section
variable {X : Cx} {Wx : WX} {P I J J1 : List Nat} {e a b c : Expr} {es : List Expr} {F : FE} {A : Env → (Env → Env → Prop) → XP → Prop} {sl : List (Option Nat)} {pos p : Pos} {k n : Nat} {f : Addr} {fd : FuncData} {ps : List Str} {G : DFn} {x : Str} {io : List Nat} {tA : TA}
/-- a call's reading, by the promise -/
theorem call_core {t : TA} (tk : Takes X Wx) (hio : ioOf 0 sl = io) (hsl : ∀ j ∈ slots sl, j ∈ P ∨ j ∈ J) (nd : (slots sl).Nodup) (hPJ : ∀ j ∈ J, j ∉ P) (hn : sl.length = n)
    (ka : ∀ (W : Wd) (ρ : Env) (σ : St) (Hb H : Hp) (Q : List V → Hp → Prop) (post : Env → Env → Prop) (xp : XP), EnvOk X.K W P I ρ σ Hb H → A ρ post xp → XOk X Wx W P σ xp →
    (∀ ds ρ' vs Hb' H', post ds ρ' → EnvOk X.K W P J ρ' σ Hb' H' → Sub Hb Hb' → Args X.K Hb' σ sl vs ds → Q vs H') → t σ H Q) :
    ∀ (W : Wd) (ρ : Env) (σ : St) (Hb H : Hp) (Q : VK) (post : Post) (xp : XP), EnvOk X.K W P I ρ σ Hb H → fCall G sl A ρ post xp → XOk X Wx W P σ xp →
    (∀ d ρ' v Hb' H', post d ρ' → EnvOk X.K W P J ρ' σ Hb' H' → Sub Hb Hb' → Is X.K Hb' v d → Q v H') → t σ H fun vs H1 => spD X.K n io G vs H1 Q (WE Wx σ) := by
  intro W ρ σ Hb H Q post xp E h x q
  subst hio
  refine ka W ρ σ Hb H _ _ xp E h x fun ds ρ1 vs Hb1 H1 f1 E1 s1 ar => ?_
  obtain ⟨lo, g⟩ := f1
  have hl := lentOk_of lo
  refine ⟨by rw [← ar.slLen]; exact hn, fill sl ds ρ1, Hb1, _, _, E1.lend ar hsl nd hl, g, fun d ρ' v Hb' H' p1 E2 is => ?_, fun c ρ' cls dx Hb' H' p1 E2 xi => ?_⟩
  · exact q _ _ _ _ _ p1 (E1.given ar hsl nd hl E2 ar.slLen) (s1.trans E2.stp.hb) is
  · have E3 := E1.given ar hsl nd hl E2 ar.slLen
    obtain ⟨Hb3, E4, s4⟩ := E3.drop (J := []) (fun j q => by cases q) hPJ
    refine x c _ cls dx Hb3 H' p1 E4 ?_
    obtain ⟨e, r | ⟨d, us, e1, e2, e3, e4⟩⟩ := xi
    · exact ⟨e, .inl r⟩
    · exact ⟨e, .inr ⟨d, us, e1, s4.at e2, e3, e4.mono s4⟩⟩
end
end DL

/-! DL4: statements over data. -/
namespace DL
open PySem L2
open PyProof.Rows hiding St

structure SPo where
  nx : Env → Prop
  rt : Post
  bk : Env → Prop
  ct : Env → Prop
  ex : XP
abbrev FS := Env → SPo → Prop
def SPo.sq (S : SPo) (n : Env → Prop) : SPo := { nx := n, rt := S.rt, bk := S.bk, ct := S.ct, ex := S.ex }
def SPo.lp (S : SPo) (n : Env → Prop) : SPo := { nx := n, rt := S.rt, bk := S.nx, ct := n, ex := S.ex }
@[simp ↓] theorem sq_nx (S : SPo) (n : Env → Prop) : (S.sq n).nx = n := (rfl)
@[simp ↓] theorem sq_rt (S : SPo) (n : Env → Prop) : (S.sq n).rt = S.rt := (rfl)
@[simp ↓] theorem sq_bk (S : SPo) (n : Env → Prop) : (S.sq n).bk = S.bk := (rfl)
@[simp ↓] theorem sq_ct (S : SPo) (n : Env → Prop) : (S.sq n).ct = S.ct := (rfl)
@[simp ↓] theorem sq_ex (S : SPo) (n : Env → Prop) : (S.sq n).ex = S.ex := (rfl)
@[simp ↓] theorem lp_nx (S : SPo) (n : Env → Prop) : (S.lp n).nx = n := (rfl)
@[simp ↓] theorem lp_rt (S : SPo) (n : Env → Prop) : (S.lp n).rt = S.rt := (rfl)
@[simp ↓] theorem lp_bk (S : SPo) (n : Env → Prop) : (S.lp n).bk = S.nx := (rfl)
@[simp ↓] theorem lp_ct (S : SPo) (n : Env → Prop) : (S.lp n).ct = n := (rfl)
@[simp ↓] theorem lp_ex (S : SPo) (n : Env → Prop) : (S.lp n).ex = S.ex := (rfl)
structure SOk (X : Cx) (Wx : WX) (P L J : List Nat) (W : Wd) (Hb : Hp) (D : Ends) (S : SPo) : Prop where
  nx : ∀ ρ' σ' Hb' H', S.nx ρ' → EnvOk X.K W P J ρ' σ' Hb' H' → Sub Hb Hb' → D.nx σ' H'
  rt : ∀ d ρ' σ' v Hb' H', S.rt d ρ' → EnvOk X.K W P [] ρ' σ' Hb' H' → Is X.K Hb' v d → D.rt v H'
  bk : ∀ ρ' σ' Hb' H', S.bk ρ' → EnvOk X.K W P L ρ' σ' Hb' H' → Sub Hb Hb' → D.bk σ' H'
  ct : ∀ ρ' σ' Hb' H', S.ct ρ' → EnvOk X.K W P L ρ' σ' Hb' H' → Sub Hb Hb' → D.ct σ' H'
  ex : ∀ c ρ' cls dx σ' Hb' H', S.ex c ρ' → EnvOk X.K W P [] ρ' σ' Hb' H' → XIs X.K Hb' cls dx c → Wx cls dx σ' H'
structure DS (X : Cx) (Wx : WX) (P L I : List Nat) (st : Stmt) (F : FS) (J : List Nat) : Prop where
  run : ∃ t, PS X st t ∧ ∀ (W : Wd) (ρ : Env) (σ : St) (Hb H : Hp) (D : Ends) (S : SPo), EnvOk X.K W P I ρ σ Hb H → F ρ S → SOk X Wx P L J W Hb D S → t D σ H
structure DSs (X : Cx) (Wx : WX) (P L I : List Nat) (st : List Stmt) (F : FS) (J : List Nat) : Prop where
  run : ∃ t, PSs X st t ∧ ∀ (W : Wd) (ρ : Env) (σ : St) (Hb H : Hp) (D : Ends) (S : SPo), EnvOk X.K W P I ρ σ Hb H → F ρ S → SOk X Wx P L J W Hb D S → t D σ H
theorem SOk.from {X : Cx} {Wx : WX} {P L J : List Nat} {W : Wd} {Hb Hb1 : Hp} {D : Ends} {S : SPo} (h : SOk X Wx P L J W Hb D S) (s : Sub Hb Hb1) : SOk X Wx P L J W Hb1 D S :=
  ⟨fun ρ' σ' Hb' H' a E t => h.nx ρ' σ' Hb' H' a E (s.trans t), h.rt, fun ρ' σ' Hb' H' a E t => h.bk ρ' σ' Hb' H' a E (s.trans t), fun ρ' σ' Hb' H' a E t => h.ct ρ' σ' Hb' H' a E (s.trans t), h.ex⟩
theorem SOk.xok {X : Cx} {Wx : WX} {P L J : List Nat} {W : Wd} {Hb : Hp} {D : Ends} {S : SPo} (h : SOk X Wx P L J W Hb D S) (σ : St) : XOk X Wx W P σ S.ex := fun c ρ' cls dx Hb' H' e E x => h.ex c ρ' cls dx σ Hb' H' e E x

/-! ### readings -/
def fNext : FS := fun ρ S => S.nx ρ
@[simp ↓] theorem fNext_ap (ρ : Env) (S : SPo) : fNext  ρ S = (S.nx ρ) := (rfl)
def fSeq (A B : FS) : FS := fun ρ S => A ρ (S.sq fun ρ1 => B ρ1 S)
@[simp ↓] theorem fSeq_ap (A B : FS) (ρ : Env) (S : SPo) : fSeq A B ρ S = (A ρ (S.sq fun ρ1 => B ρ1 S)) := (rfl)
def fRet (F : FE) : FS := fun ρ S => F ρ S.rt S.ex
@[simp ↓] theorem fRet_ap (F : FE) (ρ : Env) (S : SPo) : fRet F ρ S = (F ρ S.rt S.ex) := (rfl)
def fSet (i : Nat) (F : FE) : FS := fun ρ S => F ρ (fun d ρ1 => S.nx (put ρ1 i (some d))) S.ex
@[simp ↓] theorem fSet_ap (i : Nat) (F : FE) (ρ : Env) (S : SPo) : fSet i F ρ S = (F ρ (fun d ρ1 => S.nx (put ρ1 i (some d))) S.ex) := (rfl)
def fIfS (T : FT) (A B : FS) : FS := fun ρ S => T ρ (fun b ρ1 => if b = true then A ρ1 S else B ρ1 S) S.ex
@[simp ↓] theorem fIfS_ap (T : FT) (A B : FS) (ρ : Env) (S : SPo) : fIfS T A B ρ S = (T ρ (fun b ρ1 => if b = true then A ρ1 S else B ρ1 S) S.ex) := (rfl)
abbrev FG := D → Env → (Env → Prop) → Prop
def gNm (i : Nat) : FG := fun d ρ k => k (put ρ i (some d))
@[simp ↓] theorem gNm_ap (i : Nat) (d : D) (ρ : Env) (k : Env → Prop) : gNm i d ρ k = (k (put ρ i (some d))) := (rfl)
abbrev FGs := List D → Env → (Env → Prop) → Prop
/-- assigning a frozen value to a slot that owns nothing -/
theorem EnvOk.set {K : PySem.W.Frag} {W : Wd} {P I : List Nat} {ρ : Env} {σ : St} {Hb H : Hp} {i : Nat} {v : V} {d : D} (E : EnvOk K W P I ρ σ Hb H) (h : Is K Hb v d) (hP : i ∉ P) (hI : i ∉ I) : EnvOk K W P I (put ρ i (some d)) (σ.set i (some v)) Hb H where
  tab := E.tab
  sub := E.sub
  stp := E.stp
  len := by rw [List.length_set, put_length]; exact E.len
  val := fun j e g nP nI => by
    rcases get_put g with ⟨rfl, q⟩ | ⟨hn, q⟩
    · cases q
      have hl : j < σ.length := by
        have := get_lt g
        rw [put_length] at this
        rw [E.len]; exact this
      exact ⟨v, by rw [List.getElem?_set_self hl], h⟩
    · obtain ⟨w, e1, e2⟩ := E.val j e q nP nI
      exact ⟨w, by rw [List.getElem?_set_ne (Ne.symm hn)]; exact e1, e2⟩
  celF := fun j e hj g => by
    have hn : j ≠ i := fun q => by subst q; exact hj.elim hP hI
    rw [get_put_ne _ _ _ _ (Ne.symm hn)] at g
    obtain ⟨p, e1, r⟩ := E.celF j e hj g
    exact ⟨p, by rw [List.getElem?_set_ne (Ne.symm hn)]; exact e1, r⟩
  sepF := fun j k p q dj dk a hj hk gj gk ej ek => by
    have nj : j ≠ i := fun q => by subst q; exact hj.elim hP hI
    have nk : k ≠ i := fun q => by subst q; exact hk.elim hP hI
    rw [get_put_ne _ _ _ _ (Ne.symm nj)] at gj
    rw [get_put_ne _ _ _ _ (Ne.symm nk)] at gk
    rw [List.getElem?_set_ne (Ne.symm nj)] at ej
    rw [List.getElem?_set_ne (Ne.symm nk)] at ek
    exact E.sepF j k p q dj dk a hj hk gj gk ej ek

/-- only the slots in ts differ -/
def Off (ts : List Nat) (σ σ' : St) : Prop := σ'.length = σ.length ∧ ∀ i, i ∉ ts → σ'[i]? = σ[i]?
theorem Off.refl (ts : List Nat) (σ : St) : Off ts σ σ := ⟨rfl, fun _ _ => rfl⟩
theorem Off.trans {ts us : List Nat} {σ σ1 σ2 : St} (a : Off ts σ σ1) (b : Off us σ1 σ2) : Off (ts ++ us) σ σ2 :=
  ⟨b.1.trans a.1, fun i h => (b.2 i fun q => h (List.mem_append_right _ q)).trans (a.2 i fun q => h (List.mem_append_left _ q))⟩
structure DG (X : Cx) (P I : List Nat) (tg : Expr) (ts : List Nat) (t : TG) (g : FG) : Prop where
  pe : PG X tg t
  ev : ∀ (W : Wd) (ρ : Env) (σ : St) (Hb H : Hp) (v : V) (d : D) (Q : St → Hp → Prop) (k : Env → Prop), EnvOk X.K W P I ρ σ Hb H → Is X.K Hb v d → g d ρ k →
    (∀ ρ' σ', k ρ' → EnvOk X.K W P I ρ' σ' Hb H → Off ts σ σ' → Q σ' H) → t v σ H Q
structure DGs (X : Cx) (P I : List Nat) (tg : List Expr) (ts : List Nat) (t : TGs) (g : FGs) : Prop where
  pe : PGs X tg t
  ev : ∀ (W : Wd) (ρ : Env) (σ : St) (Hb H : Hp) (vs : List V) (ds : List D) (Q : St → Hp → Prop) (k : Env → Prop), EnvOk X.K W P I ρ σ Hb H → IsL X.K Hb vs ds → g ds ρ k →
    (∀ ρ' σ', k ρ' → EnvOk X.K W P I ρ' σ' Hb H → Off ts σ σ' → Q σ' H) → t vs σ H Q
section
variable {X : Cx} {Wx : WX} {P L I J J1 J2 : List Nat} {e tg c : Expr} {es : List Expr} {st : Stmt} {rest A B : List Stmt} {F : FE} {T : FT} {Fa Fb : FS} {g : FG} {r : FGs} {pos pos' : Pos} {te : TE} {tt : TT} {tA : TA} {tg1 : TG} {tgs : TGs}
theorem dg_name (i : Nat) {x : Str} (hN : X.N.Nodup) (hi : X.N[i]? = some x := by rfl) (hx : Loc X.env.scope x := by first | exact Or.inl rfl | exact Or.inr rfl) (hf : X.fn x = true ∨ X.env.scope.names.lookup x = some .local := by first | exact .inl rfl | exact .inr rfl | assumption)
    (hP : i ∉ P := by decide) (hI : i ∉ I := by decide) : DG X P I (.Name x pos) [i] (gName i) (gNm i) :=
  ⟨pg_name hN hi hx hf, fun W ρ σ Hb H v d Q k E is f q => q _ _ f (E.set is hP hI) ⟨List.length_set, fun j hj => by rw [List.getElem?_set_ne (fun e => hj (by rw [e]; exact List.mem_cons_self))]⟩⟩
theorem dss_nil : DSs X Wx P L I [] fNext I := ⟨_, pss_nil, fun W ρ σ Hb H D S E f q => q.nx _ _ _ _ f E (Sub.refl _)⟩
theorem dss_cons (h1 : DS X Wx P L I st Fa J1) (h2 : DSs X Wx P L J1 rest Fb J) : DSs X Wx P L I (st :: rest) (fSeq Fa Fb) J := by
  obtain ⟨t1, p1, k1⟩ := h1.run
  obtain ⟨t2, p2, k2⟩ := h2.run
  exact ⟨_, pss_cons p1 p2, fun W ρ σ Hb H D S E f q => k1 W ρ σ Hb H _ _ E f ⟨fun ρ' σ' Hb' H' a E' s' => k2 W ρ' σ' Hb' H' D S E' a (q.from s'), q.rt, q.bk, q.ct, q.ex⟩⟩
theorem dss_one (h1 : DS X Wx P L I st Fa J) : DSs X Wx P L I [st] Fa J := by
  obtain ⟨t1, p1, k1⟩ := h1.run
  exact ⟨_, pss_one p1, k1⟩
theorem ds_ret (h : DE X Wx P I e te F J) (hP : ∀ j ∈ J, j ∉ P := by decide) : DS X Wx P L I (.Return (some e) pos) (fRet F) J1 := by
  obtain ⟨p, k⟩ := h
  refine ⟨_, ps_ret p, fun W ρ σ Hb H D S E f q => k W ρ σ Hb H _ _ _ E f (q.xok σ) fun d ρ1 v Hb1 H1 f1 E1 s1 i1 => ?_⟩
  obtain ⟨Hb2, E2, s2⟩ := E1.drop (J := []) (fun j q => by cases q) hP
  exact q.rt _ _ _ _ _ _ f1 E2 (i1.mono s2)
theorem ds_if (hc : DT X Wx P I c tt T J1) (ha : DSs X Wx P L J1 A Fa J) (hb : DSs X Wx P L J1 B Fb J) : DS X Wx P L I (.If c A B pos) (fIfS T Fa Fb) J := by
  obtain ⟨p1, k1⟩ := hc
  obtain ⟨t2, p2, k2⟩ := ha.run
  obtain ⟨t3, p3, k3⟩ := hb.run
  refine ⟨_, ps_if p1 p2 p3, fun W ρ σ Hb H D S E f q => k1 W ρ σ Hb H _ _ _ E f (q.xok σ) fun b ρ1 Hb1 H1 f1 E1 s1 => ?_⟩
  cases b with
  | true =>
    rw [if_pos rfl] at f1 ⊢
    exact k2 W ρ1 σ Hb1 H1 D S E1 f1 (q.from s1)
  | false =>
    rw [if_neg Bool.false_ne_true] at f1 ⊢
    exact k3 W ρ1 σ Hb1 H1 D S E1 f1 (q.from s1)
theorem ds_set (i : Nat) {x : Str} (hN : X.N.Nodup) (h : DE X Wx P I e te F J) (hi : X.N[i]? = some x := by rfl) (hx : Loc X.env.scope x := by first | exact Or.inl rfl | exact Or.inr rfl) (hs : swapsWith e (some (.Name x pos')) pos.line X.env = pure false := by rfl)
    (hf : X.fn x = true ∨ X.env.scope.names.lookup x = some .local := by first | exact .inl rfl | exact .inr rfl | assumption) (hP : i ∉ P := by decide) (hI : i ∉ J := by decide) : DS X Wx P L I (.Assign [.Name x pos'] e pos) (fSet i F) J := by
  obtain ⟨p, k⟩ := h
  exact ⟨_, ps_set hN hi hx p hs hf, fun W ρ σ Hb H D S E f q => k W ρ σ Hb H _ _ _ E f (q.xok σ) fun d ρ1 v Hb1 H1 f1 E1 s1 i1 => q.nx _ _ _ _ f1 (E1.set i1 hP hI) s1⟩
end

/-! ### loops -/
/-- the data that a walk yields -/
def ItD (K : PySem.W.Frag) (J : It) (Hb : Hp) (ds : List D) : Prop := ∀ (i : Nat) (H1 Hb1 : Hp), Sub Hb Hb1 → Sub Hb1 H1 →
  (∀ d, ds[i]? = some d → J.go i H1 ∧ ∀ x H2, J.yld i H1 x H2 → ∃ Hb2, Grow Hb1 H1 Hb2 H2 ∧ Is K Hb2 x d) ∧ (i = ds.length → J.stop i H1)
structure DI (X : Cx) (Wx : WX) (P I : List Nat) (tg iter : Expr) (wi : TI) (F : FA) (J : List Nat) : Prop where
  pe : PI X tg iter wi
  ev : ∀ (W : Wd) (ρ : Env) (σ : St) (Hb H : Hp) (R : It → Hp → Prop) (post : List D → Env → Prop) (xp : XP), EnvOk X.K W P I ρ σ Hb H → F ρ post xp → XOk X Wx W P σ xp →
    (∀ ds ρ' Jt Hb' H', post ds ρ' → EnvOk X.K W P J ρ' σ Hb' H' → Sub Hb Hb' → ItD X.K Jt Hb' ds → R Jt H') → wi σ H R
/-- a list or a tuple -/
def fSeqI (F : FE) : FA := fun ρ post xp => F ρ (fun d ρ1 => match d with
  | .lst ds => post ds ρ1
  | .tup ds => post ds ρ1
  | .ktp ds => post ds ρ1
  | .slst ds => post ds ρ1
  | _ => False) xp
@[simp ↓] theorem fSeqI_ap (F : FE) (ρ : Env) (post : List D → Env → Prop) (xp : XP) : fSeqI F ρ post xp = (F ρ (fun d ρ1 => match d with
  | .lst ds => post ds ρ1
  | .tup ds => post ds ρ1
  | .ktp ds => post ds ρ1
  | .slst ds => post ds ρ1
  | _ => False) xp) := (rfl)
def fRange1 (A : FA) : FA := fun ρ post xp => A ρ (fun ds ρ1 => match ds with
  | [.int n] => (-(2 ^ 62) ≤ n ∧ n < 2 ^ 62) ∧ post ((List.range n.toNat).map fun k : Nat => D.int (k : Int)) ρ1
  | _ => False) xp
@[simp ↓] theorem fRange1_ap (A : FA) (ρ : Env) (post : List D → Env → Prop) (xp : XP) : fRange1 A ρ post xp = (A ρ (fun ds ρ1 => match ds with
  | [.int n] => (-(2 ^ 62) ≤ n ∧ n < 2 ^ 62) ∧ post ((List.range n.toNat).map fun k : Nat => D.int (k : Int)) ρ1
  | _ => False) xp) := (rfl)
def iSeq (K : PySem.W.Frag) (tl : TE) : TI := fun σ H R => tl σ H fun x H1 => ∃ a, x = .ref a ∧ (((∃ xs, SqL K H1 a xs) ∧ R (Itl K a) H1) ∨ ((∃ xs, SqT K H1 a xs) ∧ R (Itt K a) H1))
theorem pi_seq {X : Cx} {tg l : Expr} {tl : TE} (hl : PE X l tl) : PI X tg l (iSeq X.K tl) := by
  refine ⟨fun pins s σ H R I h => ?_⟩
  refine thn (hl.run pins s σ H _ I h) fun v s1 ⟨x, H1, I1, r1, q1⟩ => ?_
  obtain ⟨a, e, ⟨⟨xs, hq⟩, q⟩ | ⟨⟨xs, hq⟩, q⟩⟩ := q1
  · subst e
    cases r1
    obtain ⟨its, rv, p, hz⟩ := I1.list hq
    refine wpAny_pyIter_list p.isList ?_
    refine ⟨s1.heap.objs.size, [s1.heap.objs.size], _, _, H1, rfl, I1.kept (t' := s1.toks) fun b o e => Heap.get?_push_of_some _ e, turn_list a _, ⟨_, Heap.get?_push_size _ rfl, rfl, rfl⟩, fun b hb => ?_, q⟩
    have e : b = s1.heap.objs.size := by simpa using hb
    subst e
    exact I1.fpOk (Nat.le_refl _) (I1.hok.fresh (Nat.le_refl _))
  · subst e
    cases r1
    obtain ⟨its, rv, p, hz⟩ := I1.tuple hq
    refine wpAny_pyIter_tuple (show s1.heap.IsTuple a its.toArray from p) ?_
    refine ⟨s1.heap.objs.size, [s1.heap.objs.size], _, _, H1, rfl, I1.kept (t' := s1.toks) fun b o e => Heap.get?_push_of_some _ e, turn_tuple a _, ⟨_, Heap.get?_push_size _ rfl, rfl, rfl⟩, fun b hb => ?_, q⟩
    have e : b = s1.heap.objs.size := by simpa using hb
    subst e
    exact I1.fpOk (Nat.le_refl _) (I1.hok.fresh (Nat.le_refl _))
theorem itd_list {K : PySem.W.Frag} {Hb : Hp} {a : Addr} {vs : List V} {ds : List D} (h : SqL K Hb a vs) (l : IsL K Hb vs ds) : ItD K (Itl K a) Hb ds := fun i H1 Hb1 s1 s2 => by
  have h1 := (s1.trans s2).sqL h
  refine ⟨fun d hd => ?_, fun e => ⟨vs, h1, by rw [l.length]; omega⟩⟩
  obtain ⟨v, hv, iv⟩ := l.get hd
  refine ⟨⟨vs, v, h1, hv⟩, fun x H2 ⟨e, q⟩ => ?_⟩
  subst e
  have ex := q vs h1
  rw [hv] at ex; cases ex
  exact ⟨Hb1, .refl, iv.mono s1⟩
theorem itd_tup {K : PySem.W.Frag} {Hb : Hp} {a : Addr} {vs : List V} {ds : List D} (h : SqT K Hb a vs) (l : IsL K Hb vs ds) : ItD K (Itt K a) Hb ds := fun i H1 Hb1 s1 s2 => by
  have h1 := (s1.trans s2).sqT h
  refine ⟨fun d hd => ?_, fun e => ⟨vs, h1, by rw [l.length]; omega⟩⟩
  obtain ⟨v, hv, iv⟩ := l.get hd
  refine ⟨⟨vs, v, h1, hv⟩, fun x H2 ⟨e, q⟩ => ?_⟩
  subst e
  have ex := q vs h1
  rw [hv] at ex; cases ex
  exact ⟨Hb1, .refl, iv.mono s1⟩
theorem itd_range {K : PySem.W.Frag} {Hb : Hp} (lo : Int) (n : Nat) : ItD K (Itr lo n) Hb ((List.range n).map fun k : Nat => D.int (lo + (k : Int))) := fun i H1 Hb1 s1 s2 => by
  refine ⟨fun d hd => ?_, fun e => by show n ≤ i; rw [e]; simp⟩
  rw [List.getElem?_map] at hd
  cases q : (List.range n)[i]? with
  | none => rw [q] at hd; cases hd
  | some k =>
    rw [q] at hd; cases hd
    obtain ⟨hl, ek⟩ := List.getElem?_eq_some_iff.mp q
    rw [List.getElem_range] at ek
    subst ek
    have hl' : i < n := by simpa using hl
    refine ⟨hl', fun x H2 ⟨e, ex⟩ => ?_⟩
    subst e ex
    exact ⟨Hb1, .refl, .int _⟩
section
variable {X : Cx} {Wx : WX} {P L I J J1 J2 : List Nat} {e tg c iter : Expr} {es : List Expr} {st : Stmt} {body : List Stmt} {F : FE} {T : FT} {A : FA} {B : FS} {g : FG} {r : FGs} {pos pos' p : Pos} {te : TE} {tt : TT} {tA : TA} {tg1 : TG} {tgs : TGs} {wi : TI}
theorem di_seq (h : DE X Wx P I e te F J) : DI X Wx P I tg e (iSeq X.K te) (fSeqI F) J := by
  obtain ⟨p, k⟩ := h
  refine ⟨pi_seq p, fun W ρ σ Hb H R post xp E f x q => k W ρ σ Hb H _ _ xp E f x fun d ρ1 v Hb1 H1 f1 E1 s1 i1 => ?_⟩
  cases d <;> first | exact f1.elim | skip
  · obtain ⟨a, vs, rfl, h, l⟩ := is_tupD i1 rfl
    exact ⟨a, rfl, .inr ⟨⟨vs, E1.sub.sqT h⟩, q _ _ _ _ _ f1 E1 s1 (itd_tup h l)⟩⟩
  · obtain ⟨a, vs, rfl, h, l⟩ := is_lstD i1 rfl
    exact ⟨a, rfl, .inl ⟨⟨vs, E1.sub.sqL h⟩, q _ _ _ _ _ f1 E1 s1 (itd_list h l)⟩⟩
  · obtain ⟨a, vs, rfl, h, l⟩ := is_tupD i1 rfl
    exact ⟨a, rfl, .inr ⟨⟨vs, E1.sub.sqT h⟩, q _ _ _ _ _ f1 E1 s1 (itd_tup h l)⟩⟩
  · obtain ⟨a, vs, rfl, h, l⟩ := is_lstD i1 rfl
    exact ⟨a, rfl, .inl ⟨⟨vs, E1.sub.sqL h⟩, q _ _ _ _ _ f1 E1 s1 (itd_list h l)⟩⟩
theorem di_range1 (hm : X.mg "range" = none) (ha : DA X Wx P I [e] tA A J) (hg : Gl X "range" := by rfl) (hs : starEach [e] X.env = [(false, eval e X.env)] := by rfl) : DI X Wx P I tg (.Call (.Name "range" p) [e] [] pos) (iRng1 tA) (fRange1 A) J := by
  obtain ⟨pa, k⟩ := ha
  refine ⟨pi_range1 hg hm pa hs, fun W ρ σ Hb H R post xp E f x q => k W ρ σ Hb H _ _ xp E f x fun ds ρ1 vs Hb1 H1 f1 E1 s1 i1 => ?_⟩
  match ds, i1, f1 with
  | [.int n], .cons (.int _) .nil, f1 =>
    refine ⟨n, rfl, f1.1.1, f1.1.2, q _ _ _ _ _ f1.2 E1 s1 ?_⟩
    have := itd_range (K := X.K) (Hb := Hb1) 0 n.toNat
    simpa using this
/-- a for loop, item by item -/
def loopL (g : FG) (B : FS) (S : SPo) : List D → Env → Prop
  | [], ρ => S.nx ρ
  | d :: ds, ρ => g d ρ fun ρ1 => B ρ1 { nx := loopL g B S ds, rt := S.rt, bk := S.nx, ct := loopL g B S ds, ex := S.ex }
inductive LockS (S : SPo) : Type | mk
def loopK (g : FG) (B : FS) (S : SPo) (_ : LockS S) (ds : List D) (ρ : Env) : Prop := loopL g B S ds ρ
def fFor (A : FA) (g : FG) (B : FS) : FS := fun ρ S => A ρ (fun ds ρ1 => loopK g B S .mk ds ρ1) S.ex
@[simp ↓] theorem fFor_ap (A : FA) (g : FG) (B : FS) (ρ : Env) (S : SPo) : fFor A g B ρ S = (A ρ (fun ds ρ1 => loopK g B S .mk ds ρ1) S.ex) := (rfl)
theorem ds_for (hp : PassesOwn (model X.prog X.w) X.A X.env X.xe) (hc : X.calm = true) {ts : List Nat} (hi : DI X Wx P I tg iter wi A J) (hg : DG X P J tg ts tg1 g) (hb : DSs X Wx P J J body B J)
    (hs : ∀ x, foldedSetIterable iter X.env x = pure x := by intro _; rfl) : DS X Wx P L I (.For tg iter body [] pos) (fFor A g B) J := by
  obtain ⟨pi, ki⟩ := hi
  obtain ⟨pg, kg⟩ := hg
  obtain ⟨tb, pb, kb⟩ := hb.run
  refine ⟨_, ps_for hp hc pi pg pb hs, fun W ρ σ Hb H D S E f q => ki W ρ σ Hb H _ _ _ E f (q.xok σ) fun ds ρ1 Jt Hb1 H1 f1 E1 s1 it => ?_⟩
  refine ⟨fun i m σ' H' => m = ds.length - i ∧ i ≤ ds.length ∧ ∃ ρ' Hb', EnvOk X.K W P J ρ' σ' Hb' H' ∧ Sub Hb1 Hb' ∧ loopL g B S (ds.drop i) ρ', ⟨_, rfl, Nat.zero_le _, ρ1, Hb1, E1, Sub.refl _, f1⟩, ?_⟩
  rintro i m σ2 H2 ⟨rfl, hi, ρ2, Hb2, E2, s2, f2⟩
  obtain ⟨i1, i2⟩ := it i H2 Hb2 s2 E2.sub
  by_cases hlt : i < ds.length
  · rw [List.drop_eq_getElem_cons hlt] at f2
    obtain ⟨go, yl⟩ := i1 ds[i] (List.getElem?_eq_getElem hlt)
    refine .inr ⟨go, fun σ' H' => ∃ ρ' Hb', EnvOk X.K W P J ρ' σ' Hb' H' ∧ Sub Hb1 Hb' ∧ loopL g B S (ds.drop (i + 1)) ρ', fun σ' H' h => ⟨ds.length - (i + 1), by omega, rfl, hlt, h⟩, fun x H3 y => ?_⟩
    obtain ⟨Hb3, gr, is⟩ := yl x H3 y
    obtain ⟨E3, s3⟩ := gr.env E2
    refine kg W ρ2 σ2 Hb3 H3 x _ _ _ E3 is f2 fun ρ4 σ4 f4 E4 _ => ?_
    refine kb W ρ4 σ4 Hb3 H3 _ _ E4 f4 ⟨fun ρ' σ' Hb' H' a b c => ⟨ρ', Hb', b, (s2.trans s3).trans c, a⟩, q.rt, fun ρ' σ' Hb' H' a b c => q.nx _ _ _ _ a b (((s1.trans s2).trans s3).trans c), fun ρ' σ' Hb' H' a b c => ⟨ρ', Hb', b, (s2.trans s3).trans c, a⟩, q.ex⟩
  · have e : i = ds.length := by omega
    subst e
    rw [List.drop_length] at f2
    exact .inl ⟨i2 rfl, q.nx _ _ _ _ f2 E2 (s1.trans s2)⟩

end
end DL

/-! DL5: cells that a slot owns: lists that are appended to, dicts. -/
namespace DL
open PySem L2
open PyProof.Rows hiding St

/-- a new cell at p that nothing else knows -/
structure NewAt (K : PySem.W.Frag) (W : Wd) (P J : List Nat) (ρ : Env) (σ : St) (Hb H : Hp) (p : Addr) (d : D) : Prop where
  cell : Cell K Hb H p d
  nbF : ∀ a, foot H p d a → Hb a = none ∧ W.H a = none
  unF : ∀ i di q a, (i ∈ P ∨ i ∈ J) → get ρ i = some di → σ[i]? = some (some (.ref q)) → foot H p d a → ¬ foot H q di a
theorem NewAt.nb {K : PySem.W.Frag} {W : Wd} {P J : List Nat} {ρ : Env} {σ : St} {Hb H : Hp} {p : Addr} {d : D} (n : NewAt K W P J ρ σ Hb H p d) : Hb p = none := (n.nbF p foot.root).1
theorem NewAt.wn {K : PySem.W.Frag} {W : Wd} {P J : List Nat} {ρ : Env} {σ : St} {Hb H : Hp} {p : Addr} {d : D} (n : NewAt K W P J ρ σ Hb H p d) : W.H p = none := (n.nbF p foot.root).2
theorem NewAt.un {K : PySem.W.Frag} {W : Wd} {P J : List Nat} {ρ : Env} {σ : St} {Hb H : Hp} {p : Addr} {d : D} (n : NewAt K W P J ρ σ Hb H p d) : ∀ i, (i ∈ P ∨ i ∈ J) → get ρ i ≠ none → σ[i]? ≠ some (some (.ref p)) := fun i hi g e => by
  cases q : get ρ i with
  | none => exact g q
  | some di => exact n.unF i di p p hi q e foot.root foot.root
structure DNw (X : Cx) (Wx : WX) (P I : List Nat) (e : Expr) (t : TE) (F : FE) (J : List Nat) : Prop where
  pe : PE X e t
  ev : ∀ (W : Wd) (ρ : Env) (σ : St) (Hb H : Hp) (Q : VK) (post : Post) (xp : XP), EnvOk X.K W P I ρ σ Hb H → F ρ post xp → XOk X Wx W P σ xp →
    (∀ d ρ' p Hb' H', post d ρ' → EnvOk X.K W P J ρ' σ Hb' H' → Sub Hb Hb' → NewAt X.K W P J ρ' σ Hb' H' p d → Q (.ref p) H') → t σ H Q
section
variable {K : PySem.W.Frag} {W : Wd} {P I J : List Nat} {ρ : Env} {σ : St} {Hb H : Hp} {p : Addr} {d : D} {o : HO}
theorem flat_foot {d : D} (fl : partsOf d = []) {H : Hp} {p a : Addr} (h : foot H p d a) : a = p := h.elim id fun e => by rw [fl] at e; cases e
/-- what a slot owns is none of what is not there -/
theorem EnvOk.noneF (E : EnvOk K W P I ρ σ Hb H) {i : Nat} {di : D} {q a : Addr} (hi : i ∈ P ∨ i ∈ I) (g : get ρ i = some di) (e : σ[i]? = some (some (.ref q))) (ft : foot H q di a) : ∃ o, H a = some o := by
  obtain ⟨p, ep, c, _⟩ := E.celF i di hi g
  rw [e] at ep; cases ep
  obtain ⟨o, ho, _⟩ := c.footS ft
  exact ⟨o, ho⟩
theorem NewAt.mk' (E : EnvOk K W P I ρ σ Hb H) (h : H p = none) (c : Cell K Hb (upd H p o) p d) (fl : partsOf d = [] := by rfl) : NewAt K W P I ρ σ Hb (upd H p o) p d where
  cell := c
  nbF := fun a ha => by
    have := flat_foot fl ha
    subst this
    exact ⟨E.sub.none h, E.stp.al a h⟩
  unF := fun i di q a hi g e ha fa => by
    have := flat_foot fl ha
    subst this
    have nq : q ≠ a := fun z => by
      subst z
      obtain ⟨u, hu⟩ := E.noneF hi g e foot.root
      rw [h] at hu; cases hu
    have fa := foot.cong (H := H) (by rw [upd_ne nq]) fa
    obtain ⟨u, hu⟩ := E.noneF hi g e fa
    rw [h] at hu; cases hu
/-- frozen -/
theorem EnvOk.freeze (E : EnvOk K W P I ρ σ Hb H) (n : NewAt K W P I ρ σ Hb H p d) : ∃ Hb', EnvOk K W P I ρ σ Hb' H ∧ Sub Hb Hb' ∧ Is K Hb' (.ref p) d := by
  classical
  let Hb' : Hp := fun a => if foot H p d a then H a else Hb a
  have hpos : ∀ {a}, foot H p d a → Hb' a = H a := fun {a} h => if_pos h
  have hneg : ∀ {a}, ¬ foot H p d a → Hb' a = Hb a := fun {a} h => if_neg h
  have sb : Sub Hb Hb' := fun a o e => by
    by_cases h : foot H p d a
    · rw [(n.nbF a h).1] at e; cases e
    · rw [hneg h]; exact ⟨_, e, .inl rfl⟩
  obtain ⟨k1, k2⟩ := E.cells (H' := H) (W' := W) sb (fun i x q a u hi g e ha hu => ⟨hu, by
    obtain ⟨q', e', _, _, f⟩ := E.celF i x hi g
    rw [e] at e'; cases e'
    rw [hneg fun z => n.unF i x q a hi g e z ha]
    exact (f a ha).1⟩) (fun _ _ _ _ _ _ _ _ => ⟨id, id⟩) (fun _ _ _ _ _ _ _ _ => id)
  refine ⟨Hb', ⟨fun a u e => ?_, ⟨E.stp.hb.trans sb, E.stp.fr, fun a u e => ?_, E.stp.al, E.stp.tp⟩, E.len, fun i x g nP nI => ?_, k1, k2, E.tab.kb sb fun a ps e z => by rw [hneg fun w => n.cell.nts w e ps rfl]; exact z⟩, sb, ?_⟩
  · by_cases ha : foot H p d a
    · rw [hpos ha] at e; exact ⟨_, e, .inl rfl⟩
    · rw [hneg ha] at e; exact E.sub a u e
  · by_cases ha : foot H p d a
    · exact .inr (.inl (n.nbF a ha).2)
    · rw [hneg ha] at e; exact E.stp.fs a u e
  · obtain ⟨v, e, q⟩ := E.val i x g nP nI
    exact ⟨v, e, q.mono sb⟩
  · exact (n.cell.mono sb (H' := Hb') fun a u ha e => by rw [hpos ha]; exact e).is (Sub.refl _)
/-- a slot takes the new cell -/
theorem EnvOk.take (E : EnvOk K W P J ρ σ Hb H) (n : NewAt K W P J ρ σ Hb H p d) {i : Nat} (hP : i ∉ P) (hi : i < ρ.length) : EnvOk K W P (i :: J) (put ρ i (some d)) (σ.set i (some (.ref p))) Hb H where
  tab := E.tab
  sub := E.sub
  stp := E.stp
  len := by rw [List.length_set, put_length]; exact E.len
  val := fun j x g nP nI => by
    have hn : j ≠ i := fun q => nI (by rw [q]; exact List.mem_cons_self)
    rw [get_put_ne _ _ _ _ (Ne.symm hn)] at g
    obtain ⟨w, e1, e2⟩ := E.val j x g nP fun q => nI (List.mem_cons_of_mem _ q)
    exact ⟨w, by rw [List.getElem?_set_ne (Ne.symm hn)]; exact e1, e2⟩
  celF := fun j x hj g => by
    by_cases hn : j = i
    · subst hn
      rw [get_put_same _ _ _ hi] at g; cases g
      exact ⟨p, by rw [List.getElem?_set_self (by rw [E.len]; exact hi)], n.cell, fun q => absurd q hP, fun a ha => ⟨(n.nbF a ha).1, fun q => absurd q hP, fun _ => (n.nbF a ha).2⟩⟩
    · rw [get_put_ne _ _ _ _ (Ne.symm hn)] at g
      have hj' : j ∈ P ∨ j ∈ J := hj.imp id fun q => (List.mem_cons.mp q).resolve_left hn
      obtain ⟨q, e1, e2, e3, e4⟩ := E.celF j x hj' g
      exact ⟨q, by rw [List.getElem?_set_ne (Ne.symm hn)]; exact e1, e2, e3, fun a ha => ⟨(e4 a ha).1, (e4 a ha).2.1, fun z => (e4 a ha).2.2 ((List.mem_cons.mp z).resolve_left hn)⟩⟩
  sepF := fun j k q q' dj dk a hj hk gj gk ej ek fj fk => by
    have other : ∀ {m : Nat} {dm : D} {r : Addr}, m ≠ i → (m ∈ P ∨ m ∈ i :: J) → get (put ρ i (some d)) m = some dm → (σ.set i (some (.ref p)))[m]? = some (some (.ref r)) → (m ∈ P ∨ m ∈ J) ∧ get ρ m = some dm ∧ σ[m]? = some (some (.ref r)) := fun {m dm r} hn hm gm em => by
      rw [get_put_ne _ _ _ _ (Ne.symm hn)] at gm
      rw [List.getElem?_set_ne (Ne.symm hn)] at em
      exact ⟨hm.imp id fun z => (List.mem_cons.mp z).resolve_left hn, gm, em⟩
    by_cases hj0 : j = i
    · by_cases hk0 : k = i
      · rw [hj0, hk0]
      · obtain ⟨a1, a2, a3⟩ := other hk0 hk gk ek
        subst hj0
        rw [List.getElem?_set_self (by rw [E.len]; exact hi)] at ej
        cases ej
        rw [get_put_same _ _ _ hi] at gj; cases gj
        exact absurd fk (n.unF k dk q' a a1 a2 a3 fj)
    · obtain ⟨b1, b2, b3⟩ := other hj0 hj gj ej
      by_cases hk0 : k = i
      · subst hk0
        rw [List.getElem?_set_self (by rw [E.len]; exact hi)] at ek
        cases ek
        rw [get_put_same _ _ _ hi] at gk; cases gk
        exact absurd fj (n.unF j dj q a b1 b2 b3 fk)
      · obtain ⟨a1, a2, a3⟩ := other hk0 hk gk ek
        exact E.sepF j k q q' dj dk a b1 a1 b2 a2 b3 a3 fj fk
/-- an address of a slot's cell is written; the cell's addresses stay -/
theorem EnvOk.writeF {i : Nat} {d0 : D} {r : Addr} (E : EnvOk K W P I ρ σ Hb H) (hi : i ∈ P ∨ i ∈ I) (g : get ρ i = some d0) (e : σ[i]? = some (some (.ref r))) (fp : foot H r d0 p) (c : Cell K Hb (upd H p o) r d) (nt : ∀ vs : List V, o ≠ .tup vs) (same : ∀ a, foot (upd H p o) r d a → foot H r d0 a) : EnvOk K W P I (put ρ i (some d)) σ Hb (upd H p o) := by
  obtain ⟨p', ep, c0, hr, f⟩ := E.celF i d0 hi g
  rw [e] at ep; cases ep
  obtain ⟨nb, h1, h2⟩ := f p fp
  -- the others
  have oth : ∀ {j x q}, j ≠ i → (j ∈ P ∨ j ∈ I) → get ρ j = some x → σ[j]? = some (some (.ref q)) → ∀ a, foot H q x a → a ≠ p := fun {j x q} hn hj gj ej a ha z => by
    subst z
    exact hn (E.sepF j i q r x d0 a hj hi gj g ej e ha fp)
  have rt : ∀ {j x q}, j ≠ i → (j ∈ P ∨ j ∈ I) → get ρ j = some x → σ[j]? = some (some (.ref q)) → ∀ a, foot (upd H p o) q x a → foot H q x a := fun {j x q} hn hj gj ej a ha =>
    foot.cong (by rw [upd_ne (oth hn hj gj ej q foot.root)]) ha
  obtain ⟨o0, ho0, no0⟩ := c0.footT fp
  refine ⟨fun a x ea => ?_, ⟨E.stp.hb, fun a x ea n ntb => ?_, E.stp.fs, fun a ea => ?_, fun a vs ea => ?_⟩, by rw [put_length]; exact E.len, fun j x gj nP nI => ?_, fun j x hj gj => ?_, fun j k q q' dj dk a hj hk gj gk ej ek fj fk => ?_, E.tab.wr ho0 no0⟩
  · have ha : a ≠ p := fun z => by subst z; rw [nb] at ea; cases ea
    rw [upd_ne ha]; exact E.sub a x ea
  · have ha : a ≠ p := fun z => by
      subst z
      rcases hi with hi | hi
      · rcases h1 hi with h1 | h1
        · exact n i h1
        · rw [h1] at ea; cases ea
      · rw [h2 hi] at ea; cases ea
    rw [upd_ne ha]; exact E.stp.fr a x ea n ntb
  · by_cases ha : a = p
    · subst ha; rw [upd_same] at ea; cases ea
    · rw [upd_ne ha] at ea; exact E.stp.al a ea
  · by_cases ha : a = p
    · subst ha; rw [upd_same] at ea; cases ea; exact absurd rfl (nt vs)
    · rw [upd_ne ha] at ea; exact E.stp.tp a vs ea
  · have hn : j ≠ i := fun q => by subst q; exact hi.elim nP nI
    rw [get_put_ne _ _ _ _ (Ne.symm hn)] at gj
    exact E.val j x gj nP nI
  · by_cases hn : j = i
    · subst hn
      rw [get_put_same _ _ _ (get_lt g)] at gj; cases gj
      exact ⟨r, e, c, hr, fun a ha => f a (same a ha)⟩
    · rw [get_put_ne _ _ _ _ (Ne.symm hn)] at gj
      obtain ⟨q, e1, e2, e3, e4⟩ := E.celF j x hj gj
      exact ⟨q, e1, e2.mono (Sub.refl _) fun a o ha eo => by rw [upd_ne (oth hn hj gj e1 a ha)]; exact eo, e3, fun a ha => e4 a (rt hn hj gj e1 a ha)⟩
  · by_cases hj0 : j = i
    · by_cases hk0 : k = i
      · rw [hj0, hk0]
      · subst hj0
        rw [get_put_same _ _ _ (get_lt g)] at gj; cases gj
        rw [get_put_ne _ _ _ _ (Ne.symm hk0)] at gk
        rw [e] at ej; cases ej
        exact E.sepF j k r q' d0 dk a hj hk g gk e ek (same a fj) (rt hk0 hk gk ek a fk)
    · rw [get_put_ne _ _ _ _ (Ne.symm hj0)] at gj
      by_cases hk0 : k = i
      · subst hk0
        rw [get_put_same _ _ _ (get_lt g)] at gk; cases gk
        rw [e] at ek; cases ek
        exact E.sepF j k q r dj d0 a hj hk gj g ej e (rt hj0 hj gj ej a fj) (same a fk)
      · rw [get_put_ne _ _ _ _ (Ne.symm hk0)] at gk
        exact E.sepF j k q q' dj dk a hj hk gj gk ej ek (rt hj0 hj gj ej a fj) (rt hk0 hk gk ek a fk)
/-- the cell of a slot is written -/
theorem EnvOk.write (E : EnvOk K W P I ρ σ Hb H) {i : Nat} {d0 : D} (hi : i ∈ P ∨ i ∈ I) (g : get ρ i = some d0) (e : σ[i]? = some (some (.ref p))) (c : Cell K Hb (upd H p o) p d) (fl : ∀ a, a ∈ partsOf d → foot H p d0 a := by intro a z; cases z) : EnvOk K W P I (put ρ i (some d)) σ Hb (upd H p o) :=
  E.writeF hi g e foot.root c (fun vs z => c.nt vs (by rw [upd_same, z])) fun a ha => by
    rcases ha with ha | ha
    · exact .inl ha
    · exact fl a ha
end

section
variable {X : Cx} {Wx : WX} {P L I J J1 J2 : List Nat} {e a b c : Expr} {es : List Expr} {F G : FE} {A : FA} {pos pos' apos cpos : Pos} {te : TE} {tA : TA}
theorem de_new (h : DNw X Wx P I e te F J) : DE X Wx P I e te F J := by
  obtain ⟨p, k⟩ := h
  refine ⟨p, fun W ρ σ Hb H Q post xp E f x q => k W ρ σ Hb H Q post xp E f x fun d ρ' p Hb' H' f' E' s' n => ?_⟩
  obtain ⟨Hb2, E2, s2, i2⟩ := E'.freeze n
  exact q _ _ _ _ _ f' E2 (s'.trans s2) i2
theorem dn_lst (h : DA X Wx P I es tA A J) : DNw X Wx P I (.List es pos) (tLst tA) (fun ρ post xp => A ρ (fun xs ρ1 => xs.length ≤ 1000000 ∧ post (.lst xs) ρ1) xp) J := by
  obtain ⟨pa, ka⟩ := h
  refine ⟨pe_lst pa, fun W ρ σ Hb H Q post xp E f x q => ka W ρ σ Hb H _ _ xp E f x fun ds ρ1 vs Hb1 H1 f1 E1 s1 i1 => ⟨?_, fun p hp => ?_⟩⟩
  · rw [i1.length]; exact Nat.le_trans f1.1 (by decide)
  · exact q _ _ _ _ _ f1.2 (E1.more hp) s1 (NewAt.mk' E1 hp ⟨vs, upd_same, i1⟩)
/-- x = a new cell; x owns it from here on -/
def fSetN (i : Nat) (F : FE) : FS := fun ρ S => F ρ (fun d ρ1 => i < ρ1.length ∧ S.nx (put ρ1 i (some d))) S.ex
@[simp ↓] theorem fSetN_ap (i : Nat) (F : FE) (ρ : Env) (S : SPo) : fSetN i F ρ S = (F ρ (fun d ρ1 => i < ρ1.length ∧ S.nx (put ρ1 i (some d))) S.ex) := (rfl)
theorem ds_setN (i : Nat) {x : Str} (hN : X.N.Nodup) (h : DNw X Wx P I e te F J) (hi : X.N[i]? = some x := by rfl) (hx : Loc X.env.scope x := by first | exact Or.inl rfl | exact Or.inr rfl) (hs : swapsWith e (some (.Name x pos')) pos.line X.env = pure false := by rfl)
    (hf : X.fn x = true ∨ X.env.scope.names.lookup x = some .local := by first | exact .inl rfl | exact .inr rfl | assumption) (hP : i ∉ P := by decide) : DS X Wx P L I (.Assign [.Name x pos'] e pos) (fSetN i F) (i :: J) := by
  obtain ⟨p, k⟩ := h
  exact ⟨_, ps_set hN hi hx p hs hf, fun W ρ σ Hb H D S E f q => k W ρ σ Hb H _ _ _ E f (q.xok σ) fun d ρ1 p Hb1 H1 f1 E1 s1 n => q.nx _ _ _ _ f1.2 (E1.take n hP f1.1) s1⟩
end
end DL

/-! DL6: dicts, slices, comprehensions over data. -/
namespace DL
open PySem L2
open PyProof.Rows hiding St

/-! ### a store into a slot's own dict -/
def fPutO (i : Nat) (Fv Fk : FE) : FS := fun ρ S => Fv ρ (fun v ρ1 => (∃ d0, get ρ1 i = some d0 ∧ isDict d0) ∧ Fk ρ1 (fun k ρ2 => ∃ d d', get ρ2 i = some d ∧ sizeD d < 1000000 ∧ putKD d k v = some d' ∧ S.nx (put ρ2 i (some d'))) S.ex) S.ex
@[simp ↓] theorem fPutO_ap (i : Nat) (Fv Fk : FE) (ρ : Env) (S : SPo) : fPutO i Fv Fk ρ S = (Fv ρ (fun v ρ1 => (∃ d0, get ρ1 i = some d0 ∧ isDict d0) ∧ Fk ρ1 (fun k ρ2 => ∃ d d', get ρ2 i = some d ∧ sizeD d < 1000000 ∧ putKD d k v = some d' ∧ S.nx (put ρ2 i (some d'))) S.ex) S.ex) := (rfl)
section
variable {X : Cx} {Wx : WX} {P L I J J1 J2 : List Nat} {e a b c o k : Expr} {es : List Expr} {F G : FE} {A : FA} {pos pos' apos cpos : Pos} {ta tb : TE}
/-- d[k] = v, d a slot's own -/
theorem ds_putO (i : Nat) {x : Str} {value : Expr} {spos : Pos} (hu : X.A.units + 1 < cLine) (hv : DE X Wx P I value ta F J1) (hk : DE X Wx P J1 k tb G J) (hi : i ∈ P ∨ i ∈ J1 := by decide) (hj : i ∈ P ∨ i ∈ J := by decide) (hN : X.N[i]? = some x := by rfl) (hvx : Vis X.env.scope x := by first | exact Or.inl rfl | exact Or.inr (Or.inl rfl) | exact Or.inr (Or.inr rfl)) (hd : (x == ("__debug__" : Str)) = false := by decide)
    (hcd : (x == ("__classdict__" : Str)) = false := by decide) (hs : swapsWith value (some (.Subscript (.Name x pos') k spos)) pos.line X.env = pure false := by rfl) :
    DS X Wx P L I (.Assign [.Subscript (.Name x pos') k spos] value pos) (fPutO i F G) J := by
  obtain ⟨p1, k1⟩ := hv
  obtain ⟨p2, k2⟩ := hk
  refine ⟨_, ps_dput hu (pe_var hN hvx hd hcd) p2 p1 hs, fun W ρ σ Hb H D S E f q => k1 W ρ σ Hb H _ _ _ E f (q.xok σ) fun z ρ1 v Hb1 H1 f1 E1 s1 i1 => ?_⟩
  obtain ⟨⟨d0, g0, _⟩, f1⟩ := f1
  obtain ⟨p, ep, _⟩ := E1.cel i d0 hi g0
  refine ⟨_, ep, k2 W ρ1 σ Hb1 H1 _ _ _ E1 f1 (q.xok σ) fun kd ρ2 y Hb2 H2 f2 E2 s2 i2 => ?_⟩
  obtain ⟨d, d', gd, hz, g, f2⟩ := f2
  obtain ⟨p', ep', _, c, _⟩ := E2.cel i d hj gd
  rw [ep] at ep'; cases ep'
  obtain ⟨o, dp, c', fl⟩ := cell_put c i2 (i1.mono s2) E2.sub hz g
  exact ⟨p, _, rfl, dp, q.nx _ _ _ _ f2 (E2.write hj gd ep c' fl) (s1.trans s2)⟩
end

/-! ### slices -/
def cutL (ds : List D) (lo hi : Option Int) : List D := (ds.drop (HT.sIx ds.length 0 lo)).take (HT.sIx ds.length ds.length hi - HT.sIx ds.length 0 lo)
theorem cut_is {K : PySem.W.Frag} {H : Hp} {vs : List V} {ds : List D} (l : IsL K H vs ds) (lo hi : Option Int) : IsL K H (cutV vs lo hi) (cutL ds lo hi) := by
  unfold cutV cutL
  rw [l.length]
  exact (l.drop _).take _
abbrev FO := Env → (Option Int → Env → Prop) → XP → Prop
structure DOp (X : Cx) (Wx : WX) (P I : List Nat) (e : Option Expr) (t : TO) (F : FO) (J : List Nat) : Prop where
  pe : PO X e t
  ev : ∀ (W : Wd) (ρ : Env) (σ : St) (Hb H : Hp) (Q : Option Int → Hp → Prop) (post : Option Int → Env → Prop) (xp : XP), EnvOk X.K W P I ρ σ Hb H → F ρ post xp → XOk X Wx W P σ xp →
    (∀ o ρ' Hb' H', post o ρ' → EnvOk X.K W P J ρ' σ Hb' H' → Sub Hb Hb' → Q o H') → t σ H Q
def oNone : FO := fun ρ post _ => post none ρ
@[simp ↓] theorem oNone_ap (ρ : Env) (post : Option Int → Env → Prop) (z_2 : XP) : oNone  ρ post z_2 = (post none ρ) := (rfl)
def oSome (F : FE) : FO := fun ρ post xp => F ρ (fun d ρ1 => match d with
  | .int i => post (some i) ρ1
  | _ => False) xp
@[simp ↓] theorem oSome_ap (F : FE) (ρ : Env) (post : Option Int → Env → Prop) (xp : XP) : oSome F ρ post xp = (F ρ (fun d ρ1 => match d with
  | .int i => post (some i) ρ1
  | _ => False) xp) := (rfl)
def gCut (d : D) (lo hi : Option Int) (k : D → Prop) : Prop := match d with
  | .lst ds => k (.lst (cutL ds lo hi))
  | .slst ds => k (.lst (cutL ds lo hi))
  | .tup ds => k (.tup (cutL ds lo hi))
  | _ => False
def fCut (F : FE) (A B : FO) : FE := fun ρ post xp => F ρ (fun d ρ1 => A ρ1 (fun lo ρ2 => B ρ2 (fun hi ρ3 => gCut d lo hi fun z => post z ρ3) xp) xp) xp
@[simp ↓] theorem fCut_ap (F : FE) (A B : FO) (ρ : Env) (post : Post) (xp : XP) : fCut F A B ρ post xp = (F ρ (fun d ρ1 => A ρ1 (fun lo ρ2 => B ρ2 (fun hi ρ3 => gCut d lo hi fun z => post z ρ3) xp) xp) xp) := (rfl)
theorem cutL_whole {ds : List D} {lo hi : Option Int} (h : HT.sIx ds.length 0 lo = 0 ∧ HT.sIx ds.length ds.length hi = ds.length) : cutL ds lo hi = ds := by
  unfold cutL
  rw [h.1, h.2]
  simp
section
variable {X : Cx} {Wx : WX} {P L I J J1 J2 : List Nat} {e a b c o k : Expr} {eo : Option Expr} {es : List Expr} {F G : FE} {A B : FO} {pos p2 : Pos} {ta : TE} {tl th : TO}
theorem do_none : DOp X Wx P I none tNoPart oNone I := ⟨po_none, fun W ρ σ Hb H Q post xp E f _ q => q _ _ _ _ f E (Sub.refl _)⟩
theorem do_some (h : DE X Wx P I e ta F J) : DOp X Wx P I (some e) (tPart ta) (oSome F) J := by
  obtain ⟨p, k⟩ := h
  refine ⟨po_some p, fun W ρ σ Hb H Q post xp E f x q => k W ρ σ Hb H _ _ xp E f x fun d ρ1 v Hb1 H1 f1 E1 s1 i1 => ?_⟩
  cases d <;> first | exact f1.elim | skip
  exact ⟨_, is_int i1, q _ _ _ _ f1 E1 s1⟩
theorem cut_core {lo hi : Option Expr} (h : DE X Wx P I e ta F J1) (ha : DOp X Wx P J1 lo tl A J2) (hb : DOp X Wx P J2 hi th B J) : ∀ (W : Wd) (ρ : Env) (σ : St) (Hb H : Hp) (Q : VK) (post : D → Option Int → Option Int → Env → Prop) (xp : XP), EnvOk X.K W P I ρ σ Hb H →
    F ρ (fun d ρ1 => A ρ1 (fun lo ρ2 => B ρ2 (fun hi ρ3 => post d lo hi ρ3) xp) xp) xp → XOk X Wx W P σ xp →
    ∀ r : V → Option Int → Option Int → Hp → VK → Prop, (∀ d lo hi ρ' v Hb' H', post d lo hi ρ' → EnvOk X.K W P J ρ' σ Hb' H' → Sub Hb Hb' → Is X.K Hb' v d → r v lo hi H' Q) → tSl r ta tl th σ H Q := by
  obtain ⟨p1, k1⟩ := h
  obtain ⟨p2, k2⟩ := ha
  obtain ⟨p3, k3⟩ := hb
  exact fun W ρ σ Hb H Q post xp E f x r q => k1 W ρ σ Hb H _ _ xp E f x fun d ρ1 v Hb1 H1 f1 E1 s1 i1 => k2 W ρ1 σ Hb1 H1 _ _ xp E1 f1 x fun lo ρ2 Hb2 H2 f2 E2 s2 =>
    k3 W ρ2 σ Hb2 H2 _ _ xp E2 f2 x fun hi ρ3 Hb3 H3 f3 E3 s3 => q _ _ _ _ _ _ _ f3 E3 ((s1.trans s2).trans s3) ((i1.mono s2).mono s3)
theorem de_cut {lo hi : Option Expr} (h : DE X Wx P I e ta F J1) (ha : DOp X Wx P J1 lo tl A J2) (hb : DOp X Wx P J2 hi th B J) : DE X Wx P I (.Subscript e (.Slice lo hi none p2) pos) (tSl (fun x lo hi H Q => rSlL X.K x lo hi H Q ∨ rSlA X.K x lo hi H Q) ta tl th) (fCut F A B) J := by
  have kk := cut_core h ha hb
  refine de_of (pe_slice (SlR.or sl_list sl_tupA) h.pe ha.pe hb.pe) fun W ρ σ Hb H Q post xp E f x q => kk W ρ σ Hb H Q _ xp E f x _ fun d lo hi ρ' v Hb' H' f1 E1 s1 i1 => ?_
  unfold gCut at f1
  split at f1
  · obtain ⟨a, vs, rfl, hs, l⟩ := is_lstD i1 rfl
    exact .inl ⟨a, vs, rfl, E1.sub.sqL hs, fun p hp => q _ _ _ _ _ f1 (E1.alloc hp) (s1.trans (Sub.new (E1.sub.none hp))) (.lst upd_same ((cut_is l lo hi).mono (Sub.new (E1.sub.none hp))))⟩
  · obtain ⟨a, vs, rfl, hs, l⟩ := is_lstD i1 rfl
    exact .inl ⟨a, vs, rfl, E1.sub.sqL hs, fun p hp => q _ _ _ _ _ f1 (E1.alloc hp) (s1.trans (Sub.new (E1.sub.none hp))) (.lst upd_same ((cut_is l lo hi).mono (Sub.new (E1.sub.none hp))))⟩
  · obtain ⟨a, vs, rfl, hs, l⟩ := is_tupD i1 rfl
    refine .inr ⟨a, vs, rfl, E1.sub.sqT hs, fun hw => ?_, fun hw p hp => ?_⟩
    · rw [l.length] at hw
      rw [cutL_whole hw] at f1
      exact q _ _ _ _ _ f1 E1 s1 i1
    · exact q _ _ _ _ _ f1 (E1.alloc hp) (s1.trans (Sub.new (E1.sub.none hp))) (.tup upd_same ((cut_is l lo hi).mono (Sub.new (E1.sub.none hp))))
  · exact f1.elim
end
end DL

/-! DL7: list comprehensions over data. -/
namespace DL
open PySem L2
open PyProof.Rows hiding St

@[simp] def wipeE (ρ : Env) : List Nat → Env
  | [] => ρ
  | v :: vs => put (wipeE ρ vs) v none
/-- the slots vs as they were in ρ -/
@[simp] def unwipe (ρ ρ' : Env) : List Nat → Env
  | [] => ρ'
  | v :: vs => put (unwipe ρ ρ' vs) v (get ρ v)
theorem wipeE_len (ρ : Env) : ∀ vs, (wipeE ρ vs).length = ρ.length
  | [] => rfl
  | v :: vs => (put_length _ _ _).trans (wipeE_len ρ vs)
theorem unwipe_len (ρ ρ' : Env) : ∀ vs, (unwipe ρ ρ' vs).length = ρ'.length
  | [] => rfl
  | v :: vs => (put_length _ _ _).trans (unwipe_len ρ ρ' vs)
theorem get_wipe {ρ : Env} {i : Nat} {d : D} : ∀ {vs : List Nat}, get (wipeE ρ vs) i = some d → get ρ i = some d ∧ i ∉ vs
  | [], h => ⟨h, by simp⟩
  | v :: vs, h => by
    rcases get_put (show get (put (wipeE ρ vs) v none) i = some d from h) with ⟨_, q⟩ | ⟨n, q⟩
    · cases q
    · obtain ⟨a, b⟩ := get_wipe q
      exact ⟨a, by simp only [List.mem_cons, not_or]; exact ⟨n, b⟩⟩
theorem get_unwipe {ρ ρ' : Env} {i : Nat} {d : D} : ∀ {vs : List Nat}, get (unwipe ρ ρ' vs) i = some d → (i ∈ vs ∧ get ρ i = some d) ∨ (i ∉ vs ∧ get ρ' i = some d)
  | [], h => .inr ⟨by simp, h⟩
  | v :: vs, h => by
    rcases get_put (show get (put (unwipe ρ ρ' vs) v (get ρ v)) i = some d from h) with ⟨e, q⟩ | ⟨n, q⟩
    · subst e; exact .inl ⟨List.mem_cons_self, q⟩
    · rcases get_unwipe q with ⟨a, b⟩ | ⟨a, b⟩
      · exact .inl ⟨List.mem_cons_of_mem _ a, b⟩
      · exact .inr ⟨by simp only [List.mem_cons, not_or]; exact ⟨n, a⟩, b⟩
theorem wipe_get {σ : St} {i : Nat} : ∀ {vs : List Nat}, i ∉ vs → (wipe σ vs)[i]? = σ[i]?
  | [], _ => rfl
  | v :: vs, h => by
    simp only [List.mem_cons, not_or] at h
    unfold wipe
    rw [List.getElem?_set_ne (Ne.symm h.1)]
    exact wipe_get h.2
theorem wipe_in {σ : St} {i : Nat} : ∀ {vs : List Nat}, i ∈ vs → i < σ.length → (wipe σ vs)[i]? = some none
  | [], h, _ => by cases h
  | v :: vs, h, hl => by
    unfold wipe
    by_cases e : v = i
    · subst e
      rw [List.getElem?_set_self (by rw [wipe_length]; exact hl)]
    · rw [List.getElem?_set_ne e]
      exact wipe_in ((List.mem_cons.mp h).resolve_left (Ne.symm e)) hl
theorem wipe_ext {σ σ' : St} {vs : List Nat} (hl : σ'.length = σ.length) (h : ∀ i, i ∉ vs → σ'[i]? = σ[i]?) : wipe σ' vs = wipe σ vs := by
  apply List.ext_getElem?
  intro i
  by_cases hi : i ∈ vs
  · by_cases hb : i < σ.length
    · rw [wipe_in hi hb, wipe_in hi (by rw [hl]; exact hb)]
    · rw [List.getElem?_eq_none (by rw [wipe_length]; omega), List.getElem?_eq_none (by rw [wipe_length]; omega)]
  · rw [wipe_get hi, wipe_get hi, h i hi]
section
variable {K : PySem.W.Frag} {W : Wd} {P I : List Nat} {ρ : Env} {σ : St} {Hb H : Hp} {vs : List Nat}
theorem EnvOk.wiped (E : EnvOk K W P I ρ σ Hb H) (hP : ∀ v ∈ vs, v ∉ P ∧ v ∉ I) : EnvOk K W P I (wipeE ρ vs) (wipe σ vs) Hb H where
  tab := E.tab
  sub := E.sub
  stp := E.stp
  len := by rw [wipe_length, wipeE_len]; exact E.len
  val := fun i d g nP nI => by
    obtain ⟨g, h⟩ := get_wipe g
    obtain ⟨v, e, is⟩ := E.val i d g nP nI
    exact ⟨v, by rw [wipe_get h]; exact e, is⟩
  celF := fun i d hi g => by
    obtain ⟨g, h⟩ := get_wipe g
    obtain ⟨p, e, r⟩ := E.celF i d hi g
    exact ⟨p, by rw [wipe_get h]; exact e, r⟩
  sepF := fun i j p q di dj a hi hj gi gj ei ej => by
    obtain ⟨a1, b1⟩ := get_wipe gi
    obtain ⟨a2, b2⟩ := get_wipe gj
    rw [wipe_get b1] at ei
    rw [wipe_get b2] at ej
    exact E.sepF i j p q di dj a hi hj a1 a2 ei ej
/-- out of the block: its own names as they were -/
theorem EnvOk.unwiped {W' : Wd} {ρ' : Env} {σ' : St} {Hb' H' : Hp} (E : EnvOk K W P I ρ σ Hb H) (E' : EnvOk K W' P I ρ' σ' Hb' H') (s : Sub Hb Hb') (o : σ'.length = σ.length ∧ ∀ i, i ∉ vs → σ'[i]? = σ[i]?) (hP : ∀ v ∈ vs, v ∉ P ∧ v ∉ I) :
    EnvOk K W' P I (unwipe ρ ρ' vs) σ Hb' H' where
  tab := E'.tab
  sub := E'.sub
  stp := E'.stp
  len := by rw [unwipe_len, ← E'.len, o.1]
  val := fun i d g nP nI => by
    rcases get_unwipe g with ⟨a, b⟩ | ⟨a, b⟩
    · obtain ⟨v, e, is⟩ := E.val i d b nP nI
      exact ⟨v, e, is.mono s⟩
    · obtain ⟨v, e, is⟩ := E'.val i d b nP nI
      exact ⟨v, by rw [← o.2 i a]; exact e, is⟩
  celF := fun i d hi g => by
    rcases get_unwipe g with ⟨a, b⟩ | ⟨a, b⟩
    · exact absurd hi (fun q => q.elim (hP i a).1 (hP i a).2)
    · obtain ⟨p, e, r⟩ := E'.celF i d hi b
      exact ⟨p, by rw [← o.2 i a]; exact e, r⟩
  sepF := fun i j p q di dj a hi hj gi gj ei ej => by
    have back : ∀ {k : Nat} {d : D}, (k ∈ P ∨ k ∈ I) → get (unwipe ρ ρ' vs) k = some d → get ρ' k = some d ∧ k ∉ vs := fun {k d} hk g => by
      rcases get_unwipe g with ⟨a, b⟩ | ⟨a, b⟩
      · exact absurd hk (fun q => q.elim (hP k a).1 (hP k a).2)
      · exact ⟨b, a⟩
    obtain ⟨a1, b1⟩ := back hi gi
    obtain ⟨a2, b2⟩ := back hj gj
    exact E'.sepF i j p q di dj a hi hj a1 a2 (by rw [o.2 i b1]; exact ei) (by rw [o.2 j b2]; exact ej)
/-- an object that nothing here knows is written -/
theorem EnvOk.pokeF {p : Addr} {o : HO} (E : EnvOk K W P I ρ σ Hb H) (nb : Hb p = none) (wn : W.H p = none) (np : ∀ ts, H p ≠ some (.tbl ts)) (un : ∀ i di q, (i ∈ P ∨ i ∈ I) → get ρ i = some di → σ[i]? = some (some (.ref q)) → ¬ foot H q di p) : EnvOk K W P I ρ σ Hb (upd H p o) := by
  have ne : ∀ i d q a, (i ∈ P ∨ i ∈ I) → get ρ i = some d → σ[i]? = some (some (.ref q)) → foot H q d a → a ≠ p := fun i d q a hi g e ha z => by
    subst z; exact un i d q hi g e ha
  obtain ⟨k1, k2⟩ := E.cells (H' := upd H p o) (W' := W) (Sub.refl Hb) (fun i d q a u hi g e ha hu => ⟨by rw [upd_ne (ne i d q a hi g e ha)]; exact hu, by
    obtain ⟨q', e', _, _, f⟩ := E.celF i d hi g
    rw [e] at e'; cases e'
    exact (f a ha).1⟩) (fun _ _ _ _ _ _ _ _ => ⟨id, id⟩) (fun _ _ _ _ _ _ _ _ => id)
  refine ⟨fun a x ea => ?_, ⟨E.stp.hb, fun a x ea n ntb => ?_, E.stp.fs, fun a ea => ?_, fun a vs ea => ?_⟩, E.len, E.val, k1, k2, E.tab.keep (Sub.refl _) (fun a ps e => ?_) fun _ _ _ h => h⟩
  · have ha : a ≠ p := fun z => by subst z; rw [nb] at ea; cases ea
    rw [upd_ne ha]; exact E.sub a x ea
  · have ha : a ≠ p := fun z => by subst z; rw [wn] at ea; cases ea
    rw [upd_ne ha]; exact E.stp.fr a x ea n ntb
  · by_cases ha : a = p
    · subst ha; rw [upd_same] at ea; cases ea
    · rw [upd_ne ha] at ea; exact E.stp.al a ea
  · by_cases ha : a = p
    · subst ha; exact .inl wn
    · rw [upd_ne ha] at ea; exact E.stp.tp a vs ea
  · rw [upd_ne (fun z => by subst z; exact np _ e)]; exact e
theorem NewAt.grow {p : Addr} {d : D} {Hb' H' : Hp} (E : EnvOk K W P I ρ σ Hb H) (n : NewAt K W P I ρ σ Hb H p d) (g : Grow Hb H Hb' H') : NewAt K W P I ρ σ Hb' H' p d := by
  induction g with
  | refl => exact n
  | @step Hb1 H1 r o g h no ih =>
    have E1 := (g.env E).1
    have hne : ∀ a, foot H1 p d a → a ≠ r := fun a ha z => by
      subst z
      obtain ⟨o, ho, _⟩ := ih.cell.footS ha
      rw [h] at ho; cases ho
    have rt : ∀ a, foot (upd H1 r o) p d a → foot H1 p d a := fun a ha => foot.cong (by rw [upd_ne (hne p foot.root)]) ha
    refine ⟨ih.cell.mono (Sub.new (E1.sub.none h)) fun a o ha eo => by rw [upd_ne (hne a ha)]; exact eo, fun a ha => ⟨by rw [upd_ne (hne a (rt a ha))]; exact (ih.nbF a (rt a ha)).1, (ih.nbF a (rt a ha)).2⟩, fun i di q a hi g e ha fa => ?_⟩
    have hq : q ≠ r := fun z => by
      subst z
      obtain ⟨o, ho⟩ := E1.noneF hi g e foot.root
      rw [h] at ho; cases ho
    exact ih.unF i di q a hi g e (rt a ha) (foot.cong (by rw [upd_ne hq]) fa)
  | @know Hb1 H1 r vs g h ih =>
    have hne : ∀ a, foot H1 p d a → a ≠ r := fun a ha z => by
      subst z
      obtain ⟨o, ho, nt⟩ := ih.cell.footS ha
      rw [h] at ho; cases ho
      exact nt _ rfl
    exact ⟨ih.cell.mono ((g.env E).1.know h).2 fun a o ha eo => eo, fun a ha => ⟨by rw [upd_ne (hne a ha)]; exact (ih.nbF a ha).1, (ih.nbF a ha).2⟩, ih.unF⟩
/-- a new cell, over a stretch in which it was not known -/
theorem NewAt.over {p : Addr} {d : D} {ρ' : Env} {Hb' H' : Hp} (n : NewAt K W P I ρ σ Hb H p d) (E8 : EnvOk K (here P I ρ σ Hb H) (P ++ I) [] ρ' σ Hb' H') : NewAt K W P I ρ' σ Hb' H' p d := by
  have kp : ∀ a, foot H p d a → ∃ o, H a = some o ∧ H' a = some o ∧ Hb' a = none := fun a ha => by
    obtain ⟨o, ho, nt⟩ := n.cell.footS ha
    have no : ∀ i, ¬ (here P I ρ σ Hb H).ps i a := fun i ⟨hi, di, q, g, e, fa⟩ => n.unF i di q a hi g e ha fa
    exact ⟨o, ho, E8.stp.own (n.nbF a ha).1 ho (n.cell.nts ha ho) no, E8.stp.nb (n.nbF a ha).1 ho nt⟩
  have rt : H' p = H p := by
    obtain ⟨o, e1, e2, _⟩ := kp p foot.root
    rw [e1, e2]
  refine ⟨n.cell.mono E8.stp.hb fun a o ha eo => ?_, fun a ha => ?_, fun i di q a hi g e ha fa => ?_⟩
  · obtain ⟨o', e1, e2, _⟩ := kp a ha
    rw [eo] at e1; cases e1; exact e2
  · have ha := foot.cong rt ha
    obtain ⟨_, _, _, nb⟩ := kp a ha
    exact ⟨nb, (n.nbF a ha).2⟩
  · have ha := foot.cong rt ha
    obtain ⟨q', e', _, _, f⟩ := E8.celF i di (.inl (List.mem_append.mpr hi)) g
    rw [e] at e'; cases e'
    rcases (f a fa).2.1 (List.mem_append.mpr hi) with ⟨hi', d1, q1, g1, e1, f1⟩ | r
    · exact n.unF i d1 q1 a hi' g1 e1 ha f1
    · obtain ⟨o, e1, _⟩ := kp a ha
      have r : H a = none := r
      rw [e1] at r; cases r
/-- a new cell is written -/
theorem NewAt.write {p : Addr} {d d' : D} {o : HO} (E : EnvOk K W P I ρ σ Hb H) (n : NewAt K W P I ρ σ Hb H p d) (c : Cell K Hb (upd H p o) p d') (fl : partsOf d' = [] := by rfl) :
    EnvOk K W P I ρ σ Hb (upd H p o) ∧ NewAt K W P I ρ σ Hb (upd H p o) p d' := by
  refine ⟨E.pokeF n.nb n.wn (fun ts z => n.cell.nts foot.root z ts rfl) fun i di q hi g e ft => n.unF i di q p hi g e foot.root ft, c, fun a ha => ?_, fun i di q a hi g e ha fa => ?_⟩
  · have := flat_foot fl ha
    subst this
    exact ⟨n.nb, n.wn⟩
  · have := flat_foot fl ha
    subst this
    have nq : q ≠ a := fun z => by subst z; exact n.unF i di q q hi g e foot.root foot.root
    exact n.unF i di q a hi g e foot.root (foot.cong (by rw [upd_ne nq]) fa)
end

/-- no exception leaves a comprehension -/
def noX : XP := fun _ _ => False
abbrev WN : WX := fun _ _ _ _ => False
/-- the comprehension's turns -/
def compL (vs : List Nat) (g : FG) (T : FT) (E : FE) (post : Post) : List D → List D → Env → Prop
  | [], acc, ρ => post (.lst acc) ρ
  | d :: ds, acc, ρ => g d (wipeE ρ vs) fun ρ1 => T ρ1 (fun b ρ2 => if b = true then E ρ2 (fun y ρ3 => acc.length < 1000000 ∧ compL vs g T E post ds (acc ++ [y]) (unwipe ρ ρ3 vs)) noX else compL vs g T E post ds acc (unwipe ρ ρ2 vs)) noX
def compK (vs : List Nat) (g : FG) (T : FT) (E : FE) (post : Post) (_ : Lock post noX) (ds acc : List D) (ρ : Env) : Prop := compL vs g T E post ds acc ρ
def fLc (A : FA) (vs : List Nat) (g : FG) (T : FT) (E : FE) : FE := fun ρ post xp => A ρ (fun ds ρ1 => compK vs g T E post .mk ds [] ρ1) xp
@[simp ↓] theorem fLc_ap (A : FA) (vs : List Nat) (g : FG) (T : FT) (E : FE) (ρ : Env) (post : Post) (xp : XP) : fLc A vs g T E ρ post xp = (A ρ (fun ds ρ1 => compK vs g T E post .mk ds [] ρ1) xp) := (rfl)
def tYesD : FT := fun ρ post _ => post true ρ
@[simp ↓] theorem tYesD_ap (ρ : Env) (post : Bool → Env → Prop) (z_2 : XP) : tYesD  ρ post z_2 = (post true ρ) := (rfl)
structure DTs (X : Cx) (Wx : WX) (P I : List Nat) (ifs : List Expr) (t : TT) (F : FT) (J : List Nat) : Prop where
  pe : PTs X ifs t
  ev : ∀ (W : Wd) (ρ : Env) (σ : St) (Hb H : Hp) (Q : Bool → Hp → Prop) (post : Bool → Env → Prop) (xp : XP), EnvOk X.K W P I ρ σ Hb H → F ρ post xp → XOk X Wx W P σ xp →
    (∀ b ρ' Hb' H', post b ρ' → EnvOk X.K W P J ρ' σ Hb' H' → Sub Hb Hb' → Q b H') → t σ H Q
theorem dts_nil {X : Cx} {Wx : WX} {P I : List Nat} : DTs X Wx P I [] tYes tYesD I := ⟨pts_nil, fun W ρ σ Hb H Q post xp E f _ q => q _ _ _ _ f E (Sub.refl _)⟩
section
variable {X : Cx} {Wx : WX} {P L I J : List Nat} {elt tg iter : Expr} {ifs : List Expr} {scope : Scope} {own : List (Str × Nat)} {pos spos py : Pos} {wi : TI} {g : TG} {tt : TT} {te : TE} {A : FA} {gd : FG} {T : FT} {E : FE} {ts : List Nat}
theorem lc_ev (hi : DI X Wx P I tg iter wi A J) (hg : ∀ (s : Shared) (H : Hp) (C : Addr) (cl : List (Str × Addr)) (fp : List Addr), DG (X.blk s H scope (compEnvC scope cl C X.env) fp) (P ++ J) [] tg ts g gd)
    (ht : ∀ (s : Shared) (H : Hp) (C : Addr) (cl : List (Str × Addr)) (fp : List Addr), DTs (X.blk s H scope (compEnvC scope cl C X.env) fp) WN (P ++ J) [] ifs tt T [])
    (he : ∀ (s : Shared) (H : Hp) (C : Addr) (cl : List (Str × Addr)) (fp : List Addr), DE (X.blk s H scope (compEnvC scope cl C X.env) fp) WN (P ++ J) [] elt te E [])
    (hts : ∀ v ∈ ts, v ∈ own.map (·.2)) (hvs : ∀ v ∈ own.map (·.2), v ∉ P ∧ v ∉ J) :
    ∀ (W : Wd) (ρ : Env) (σ : St) (Hb H : Hp) (Q : VK) (post : Post) (xp : XP), EnvOk X.K W P I ρ σ Hb H → fLc A (own.map (·.2)) gd T E ρ post xp → XOk X Wx W P σ xp →
    (∀ d ρ' p Hb' H', post d ρ' → EnvOk X.K W P J ρ' σ Hb' H' → Sub Hb Hb' → NewAt X.K W P J ρ' σ Hb' H' p d → Q (.ref p) H') → tLc wi g tt te (own.map (·.2)) σ H Q := by
  intro W ρ σ Hb H Q post xp E0 f x q
  refine hi.ev W ρ σ Hb H _ _ xp E0 f x fun ds ρ1 Jt Hb1 H1 f1 E1 s1 it => ?_
  have f1 : compL (own.map (·.2)) gd T E post ds [] ρ1 := f1
  intro D hD
  let s0 : Shared := {}
  refine ⟨fun i m H' => m = ds.length - i ∧ i ≤ ds.length ∧ ∃ ρ' Hb' acc, EnvOk X.K W P J ρ' σ Hb' H' ∧ Sub Hb1 Hb' ∧ NewAt X.K W P J ρ' σ Hb' H' D (.lst acc) ∧ compL (own.map (·.2)) gd T E post (ds.drop i) acc ρ',
    ⟨_, rfl, Nat.zero_le _, ρ1, Hb1, [], E1.more hD, Sub.refl _, NewAt.mk' E1 hD ⟨[], upd_same, .nil⟩, f1⟩, ?_⟩
  rintro i m H2 ⟨rfl, hi, ρ2, Hb2, acc, E2, s2, n2, f2⟩
  obtain ⟨i1, i2⟩ := it i H2 Hb2 s2 E2.sub
  by_cases hlt : i < ds.length
  · rw [List.drop_eq_getElem_cons hlt] at f2
    unfold compL at f2
    obtain ⟨go, yl⟩ := i1 ds[i] (List.getElem?_eq_getElem hlt)
    refine .inr ⟨go, fun H' => ∃ ρ' Hb' acc, EnvOk X.K W P J ρ' σ Hb' H' ∧ Sub Hb1 Hb' ∧ NewAt X.K W P J ρ' σ Hb' H' D (.lst acc) ∧ compL (own.map (·.2)) gd T E post (ds.drop (i + 1)) acc ρ', fun H' h => ⟨ds.length - (i + 1), by omega, rfl, hlt, h⟩, fun y H3 yy => ?_⟩
    obtain ⟨Hb3, gr, is⟩ := yl y H3 yy
    obtain ⟨E3, s3⟩ := gr.env E2
    have n3 := n2.grow E2 gr
    have hP' : ∀ v ∈ own.map (·.2), v ∉ P ++ J ∧ v ∉ ([] : List Nat) := fun v hv => ⟨fun z => (List.mem_append.mp z).elim (hvs v hv).1 (hvs v hv).2, by simp⟩
    have EL := E3.lent
    have EW := EL.wiped hP'
    have xn : ∀ (Y : Cx) (σ' : St), XOk Y WN (here P J ρ2 σ Hb3 H3) (P ++ J) σ' noX := fun Y σ' c ρ' cls dx Hb' H' z => z.elim
    refine (hg s0 H3 0 [] []).ev (here P J ρ2 σ Hb3 H3) (wipeE ρ2 (own.map (·.2))) (wipe σ (own.map (·.2))) Hb3 H3 y _ _ _ EW is f2 fun ρ4 σ4 f4 E4 o4 => ?_
    have off : σ4.length = σ.length ∧ ∀ i, i ∉ own.map (·.2) → σ4[i]? = σ[i]? := ⟨by rw [o4.1, wipe_length], fun i hi => by rw [o4.2 i fun z => hi (hts i z), wipe_get hi]⟩
    refine ⟨wipe_ext off.1 off.2, (ht s0 H3 0 [] []).ev _ ρ4 σ4 Hb3 H3 _ _ noX E4 f4 (xn _ _) fun b ρ5 Hb5 H5 f5 E5 s5 => ?_⟩
    cases b with
    | true =>
      rw [if_pos rfl] at f5 ⊢
      refine (he s0 H3 0 [] []).ev _ ρ5 σ4 Hb5 H5 _ _ noX E5 f5 (xn _ _) fun z ρ6 v Hb6 H6 f6 E6 s6 i6 => ?_
      have E8 := EL.unwiped E6 (s5.trans s6) off hP'
      have E7 := E3.back E8
      have n7 := n3.over E8
      obtain ⟨vs, hv, lv⟩ := n7.cell
      obtain ⟨E9, n9⟩ := n7.write (o := .lst (vs ++ [v])) (d' := .lst (acc ++ [z])) E7 ⟨_, upd_same, lv.snoc i6⟩
      exact ⟨vs, hv, by rw [lv.length]; exact Nat.lt_of_lt_of_le f6.1 (by decide), _, Hb6, acc ++ [z], E9, ((s2.trans s3).trans s5).trans s6, n9, f6.2⟩
    | false =>
      rw [if_neg Bool.false_ne_true] at f5 ⊢
      have E8 := EL.unwiped E5 s5 off hP'
      exact ⟨_, Hb5, acc, E3.back E8, (s2.trans s3).trans s5, n3.over E8, f5⟩
  · have e : i = ds.length := by omega
    subst e
    rw [List.drop_length] at f2
    exact .inl ⟨i2 rfl, q _ _ _ _ _ f2 E2 (s1.trans s2) n2⟩
theorem dn_lc (own : List (Str × Nat)) (hc : X.calm = true) (hN : X.N.Nodup) (hi : DI X Wx P I tg iter wi A J) (ok : BlkOk X.N X.env.scope scope own)
    (hg : ∀ (s : Shared) (H : Hp) (C : Addr) (cl : List (Str × Addr)) (fp : List Addr), DG (X.blk s H scope (compEnvC scope cl C X.env) fp) (P ++ J) [] tg ts g gd)
    (ht : ∀ (s : Shared) (H : Hp) (C : Addr) (cl : List (Str × Addr)) (fp : List Addr), DTs (X.blk s H scope (compEnvC scope cl C X.env) fp) WN (P ++ J) [] ifs tt T [])
    (he : ∀ (s : Shared) (H : Hp) (C : Addr) (cl : List (Str × Addr)) (fp : List Addr), DE (X.blk s H scope (compEnvC scope cl C X.env) fp) WN (P ++ J) [] elt te E [])
    (hts : ∀ v ∈ ts, v ∈ own.map (·.2) := by decide) (hvs : ∀ v ∈ own.map (·.2), v ∉ P ∧ v ∉ J := by decide) (hs : ∀ x, foldedSetIterable iter X.env x = pure x := by intro _; rfl) :
    DNw X Wx P I (.ListComp elt [⟨tg, iter, ifs, 0⟩] scope pos) (tLc wi g tt te (own.map (·.2))) (fLc A (own.map (·.2)) gd T E) J :=
  ⟨pe_lc hc hN hi.pe ok (fun s H C cl fp => (hg s H C cl fp).pe) (fun s H C cl fp => (ht s H C cl fp).pe) (fun s H C cl fp => (he s H C cl fp).pe) hs, lc_ev hi hg ht he hts hvs⟩
/-- y = [..]: the list is never changed -/
theorem ds_setLc (i : Nat) {y : Str} (own : List (Str × Nat)) (hc : X.calm = true) (hN : X.N.Nodup) (hsw : swapsWith (.ListComp elt [⟨tg, iter, ifs, 0⟩] scope pos) (some (.Name y py)) spos.line X.env = pure true) (hi : DI X Wx P I tg iter wi A J) (ok : BlkOk X.N X.env.scope scope own)
    (hg : ∀ (s : Shared) (H : Hp) (C : Addr) (cl : List (Str × Addr)) (fp : List Addr), DG (X.blk s H scope (compEnvC scope cl C X.env) fp) (P ++ J) [] tg ts g gd)
    (ht : ∀ (s : Shared) (H : Hp) (C : Addr) (cl : List (Str × Addr)) (fp : List Addr), DTs (X.blk s H scope (compEnvC scope cl C X.env) fp) WN (P ++ J) [] ifs tt T [])
    (he : ∀ (s : Shared) (H : Hp) (C : Addr) (cl : List (Str × Addr)) (fp : List Addr), DE (X.blk s H scope (compEnvC scope cl C X.env) fp) WN (P ++ J) [] elt te E [])
    (hy : X.N[i]? = some y := by rfl) (hyl : X.env.scope.names.lookup y = some .local := by rfl) (hP : i ∉ P := by decide) (hI : i ∉ J := by decide)
    (hts : ∀ v ∈ ts, v ∈ own.map (·.2) := by decide) (hvs : ∀ v ∈ own.map (·.2), v ∉ P ∧ v ∉ J := by decide) (hs : ∀ x, foldedSetIterable iter X.env x = pure x := by intro _; rfl) :
    DS X Wx P L I (.Assign [.Name y py] (.ListComp elt [⟨tg, iter, ifs, 0⟩] scope pos) spos) (fSet i (fLc A (own.map (·.2)) gd T E)) J :=
  ⟨_, ps_setLc hc hN hy hyl hsw hi.pe ok (fun s H C cl fp => (hg s H C cl fp).pe) (fun s H C cl fp => (ht s H C cl fp).pe) (fun s H C cl fp => (he s H C cl fp).pe) hs,
    fun W ρ σ Hb H D S E f q => lc_ev hi hg ht he hts hvs W ρ σ Hb H _ _ _ E f (q.xok σ) fun d ρ1 p Hb1 H1 f1 E1 s1 n => by
      obtain ⟨Hb2, E2, s2, i2⟩ := E1.freeze n
      exact q.nx _ _ _ _ f1 (E2.set i2 hP hI) (s1.trans s2)⟩
end
end DL

/-! DL8: a def by its body, over data; the law's end. -/
namespace DL
open PySem L2
open PyProof.Rows hiding St

/-- the lent parameters as they stand at the end -/
def maskF (io : List Nat) : Nat → Nat → Env → Env
  | _, 0, _ => []
  | i, n + 1, ρ => (if i ∈ io then get ρ i else none) :: maskF io (i + 1) n ρ
theorem maskF_len (io : List Nat) : ∀ (n i : Nat) (ρ : Env), (maskF io i n ρ).length = n
  | 0, _, _ => rfl
  | n + 1, i, ρ => congrArg (· + 1) (maskF_len io n (i + 1) ρ)
theorem get_mask (io : List Nat) : ∀ (n i j : Nat) (ρ : Env), j < n → get (maskF io i n ρ) j = if i + j ∈ io then get ρ (i + j) else none
  | 0, _, _, _, h => by omega
  | n + 1, i, 0, ρ, h => rfl
  | n + 1, i, j + 1, ρ, h => by
    have e : i + (j + 1) = i + 1 + j := by omega
    rw [e]
    exact get_mask io n (i + 1) j ρ (by omega)
theorem get_mask_some {io : List Nat} {n j : Nat} {ρ : Env} {d : D} (h : get (maskF io 0 n ρ) j = some d) : j ∈ io ∧ get ρ j = some d ∧ j < n := by
  have hl := get_lt h
  rw [maskF_len] at hl
  rw [get_mask io n 0 j ρ hl, Nat.zero_add] at h
  split at h
  · exact ⟨by assumption, h, hl⟩
  · cases h
section
variable {K : PySem.W.Frag} {io J : List Nat} {ρ ρ' : Env} {σ' : St} {Hb H Hb' H' : Hp} {vs : List V} {n m : Nat}
theorem EnvOk.masked {ρ0 : Env} (E : EnvOk K ⟨Hb, H, lentAt io vs ρ0 H, rootAt io vs⟩ io J ρ' σ' Hb' H') (hn : vs.length = n) : EnvOk K ⟨Hb, H, lentAt io vs ρ0 H, rootAt io vs⟩ io [] (maskF io 0 n ρ') (vs.map some) Hb' H' where
  tab := E.tab
  sub := E.sub
  stp := E.stp
  len := by rw [maskF_len, List.length_map, hn]
  val := fun i d g nP _ => absurd (get_mask_some g).1 nP
  celF := fun i d hi g => by
    obtain ⟨h1, h2, h3⟩ := get_mask_some g
    obtain ⟨p, e, c, hp, f⟩ := E.celF i d (.inl h1) h2
    obtain ⟨_, ev⟩ := hp h1
    exact ⟨p, by rw [List.getElem?_map, ev]; rfl, c, hp, fun a ha => ⟨(f a ha).1, (f a ha).2.1, fun q => by cases q⟩⟩
  sepF := fun i j p q di dj a hi hj gi gj ei ej fi fj => by
    have back : ∀ {k : Nat} {d : D} {r : Addr}, get (maskF io 0 n ρ') k = some d → (vs.map some)[k]? = some (some (V.ref r)) → k ∈ io ∧ get ρ' k = some d ∧ σ'[k]? = some (some (.ref r)) := fun {k d r} g e => by
      obtain ⟨h1, h2, h3⟩ := get_mask_some g
      obtain ⟨p', e', c, hp, _⟩ := E.celF k d (.inl h1) h2
      obtain ⟨_, ev⟩ := hp h1
      rw [List.getElem?_map, ev] at e
      cases e
      exact ⟨h1, h2, e'⟩
    obtain ⟨a1, a2, a3⟩ := back gi ei
    obtain ⟨b1, b2, b3⟩ := back gj ej
    exact E.sepF i j p q di dj a (.inl a1) (.inl b1) a2 b2 a3 b3 fi fj
theorem get_append_none : ∀ (ρ : Env) (m i : Nat) (d : D), get (ρ ++ List.replicate m none) i = some d → get ρ i = some d
  | [], 0, _, _, h => by simp [get] at h
  | [], m + 1, 0, _, h => by simp [get, List.replicate_succ] at h
  | [], m + 1, i + 1, d, h => get_append_none [] m i d (by simpa [List.replicate_succ, get] using h)
  | x :: r, m, 0, _, h => h
  | x :: r, m, i + 1, d, h => get_append_none r m i d h
theorem EnvOk.entry {ρ0 : Env} (E : EnvOk K ⟨Hb, H, lentAt io vs ρ0 H, rootAt io vs⟩ io [] ρ (vs.map some) Hb H) : EnvOk K ⟨Hb, H, lentAt io vs ρ0 H, rootAt io vs⟩ io [] (ρ ++ List.replicate m none) (vs.map some ++ List.replicate m none) Hb H where
  tab := E.tab
  sub := E.sub
  stp := E.stp
  len := by have := E.len; rw [List.length_append, List.length_append, this, List.length_replicate, List.length_replicate]
  val := fun i d g nP nI => by
    have g := get_append_none _ _ _ _ g
    obtain ⟨v, e, is⟩ := E.val i d g nP nI
    have hl := get_lt g
    exact ⟨v, by rw [List.getElem?_append_left (by rw [E.len]; exact hl)]; exact e, is⟩
  celF := fun i d hi g => by
    have g := get_append_none _ _ _ _ g
    obtain ⟨p, e, r⟩ := E.celF i d hi g
    have hl := get_lt g
    exact ⟨p, by rw [List.getElem?_append_left (by rw [E.len]; exact hl)]; exact e, r⟩
  sepF := fun i j p q di dj a hi hj gi gj ei ej => by
    have back : ∀ {k : Nat} {d : D} {r : Addr}, get (ρ ++ List.replicate m none) k = some d → (vs.map some ++ List.replicate m none)[k]? = some (some (V.ref r)) → get ρ k = some d ∧ (vs.map some)[k]? = some (some (V.ref r)) := fun {k d r} q e => by
      have q := get_append_none _ _ _ _ q
      have hl := get_lt q
      rw [List.getElem?_append_left (by rw [E.len]; exact hl)] at e
      exact ⟨q, e⟩
    obtain ⟨a1, a2⟩ := back gi ei
    obtain ⟨b1, b2⟩ := back gj ej
    exact E.sepF i j p q di dj a hi hj a1 b1 a2 b2
end
/-- how a body may end -/
def endS (io : List Nat) (n : Nat) (post : Post) (xp : XP) : SPo where
  nx := fun ρ' => post .non (maskF io 0 n ρ')
  rt := fun d ρ' => post d (maskF io 0 n ρ')
  bk := fun _ => False
  ct := fun _ => False
  ex := fun c ρ' => xp c (maskF io 0 n ρ')
abbrev WofE (E : XK) : WX := fun cls d _ H => E cls d H
section
variable {P : Program} {w : World} {K : PySem.W.Frag} {mg : Str → Option Value} {base : Heap}
end

/-! ### the law -/
def spLaw (K : PySem.W.Frag) : Sp := fun vs H Q _ => ∃ (a : Addr) (ns : List Int), vs = [.ref a] ∧ SqL K H a (ns.map V.int) ∧ ns.length ≤ 63 ∧ TabsAt K H ∧ ∀ H', Q (.bl true) H'
theorem isL_ints {K : PySem.W.Frag} {H : Hp} : ∀ ns : List Int, IsL K H (ns.map V.int) (ns.map D.int)
  | [] => .nil
  | n :: r => .cons (.int n) (isL_ints r)
section
variable {P : Program} {w : World} {K : PySem.W.Frag} {mg : Str → Option Value} {base : Heap}
theorem ok_law {k : Nat} {f : Addr} {fd : FuncData} {ps : List Str} {G : DFn} (F : FnOk P w K mg base (L2.CX P w) k f fd ps (spD K 1 [] G))
    (h : ∀ ns : List Int, ns.length ≤ 63 → G [some (.slst (ns.map D.int))] (fun d _ => d = .bl true) fun _ _ => False) : FnOk P w K mg base (L2.CX P w) k f fd ps (spLaw K) :=
  F.imp fun vs H Q E ⟨a, ns, e, hs, hl, ht, q⟩ => by
    subst e
    refine ⟨rfl, [some (.slst (ns.map D.int))], noTab H, _, _, ⟨noTab_sub _, Stp.refl _ _ _ _, rfl, fun i d g _ _ => ?_, fun i d hi _ => ?_, fun i j p q di dj a hi => ?_, ht.ok⟩, h ns hl, fun d ρ' v Hb' H' e _ is => ?_, fun _ _ _ _ _ _ z => z.elim⟩
    · match i, g with
      | 0, g =>
        cases g
        exact ⟨_, rfl, .slst (noTab_sqL hs) (isL_ints ns)⟩
      | i + 1, g => simp [get] at g
    · rcases hi with hi | hi <;> cases hi
    · rcases hi with hi | hi <;> cases hi
    · subst e
      rw [is_bl is]
      exact q _
end
end DL

/-! DL9: isinstance, repr of flat values, chains, dict displays, stores into own lists. -/
namespace DL
open PySem L2
open PyProof.Rows hiding St

/-! ### isinstance with a built-in class -/
def tyD : D → Option String
  | .non => some "NoneType"
  | .bl _ => some "bool"
  | .int _ => some "int"
  | .str _ => some "str"
  | .tup _ => some "tuple"
  | .ktp _ => some "tuple"
  | .lst _ => some "list"
  | .slst _ => some "list"
  | .dk _ => some "dict"
  | _ => none
inductive Kd where
  | int | bool | str | tuple | list | dict
@[simp] def Kd.name : Kd → String
  | .int => "int"
  | .bool => "bool"
  | .str => "str"
  | .tuple => "tuple"
  | .list => "list"
  | .dict => "dict"
@[simp] def isK : Kd → D → Option Bool
  | .int, .bl _ => some true
  | .int, .int _ => some true
  | .bool, .bl _ => some true
  | .str, .str _ => some true
  | .tuple, .tup _ => some true
  | .tuple, .ktp _ => some true
  | .list, .lst _ => some true
  | .list, .slst _ => some true
  | .dict, .dk _ => some true
  | _, .ty _ => none
  | _, .fn _ => none
  | _, .cl _ => none
  | _, .xc _ _ => none
  | _, .lam _ _ => none
  | _, .obj _ _ => none
  | _, .dt _ => none
  | _, .nest _ _ _ => none
  | _, .nestL _ _ _ _ => none
  | _, .nobj _ _ _ => none
  | _, _ => some false
theorem isK_kit {K : PySem.W.Frag} (c : Kd) {d : D} {b : Bool} (h : isK c d = some b) : ∃ T, tyD d = some T ∧ PySem.W.kitOne K (.type T) (.type c.name) = some b := by
  cases c <;> cases d <;> simp only [isK] at h <;> first | (cases h; done) | (cases h; exact ⟨_, rfl, kit_ty (by decide +kernel)⟩)
theorem o_tyx {K : PySem.W.Frag} {Hb H : Hp} {v : V} {d : D} {T : String} (s : Sub Hb H) (h : IsO K Hb H v d) (e : tyD d = some T) : TyX K H v (.type T) := by
  have q := h.is s
  clear h s
  cases q with
  | non => cases e; exact .base .non
  | bl b => cases e; exact .base (.bl _)
  | int i => cases e; exact .base (.int _)
  | str z => cases e; exact .base (.str _)
  | ty n => cases e
  | fn n => cases e
  | cl n => cases e
  | xc0 _ _ => cases e
  | xcd _ _ _ _ _ => cases e
  | lam _ _ => cases e
  | tup h l => cases e; exact .base (.tup h)
  | lst h l => cases e; exact .base (.lst h)
  | ktp h l =>
    cases e
    rcases h.sq with (h | ⟨o, h⟩) | ⟨o, its, n, h1, h2, _⟩
    · exact .base (.tup h)
    · exact .fTuple h
    · exact .kTuple h1 h2
  | slst h l =>
    cases e
    rcases h with (h | ⟨o, h⟩) | ⟨o, its, n, h1, h2, _⟩
    · exact .base (.lst h)
    · exact .base (.frz h)
    · exact .kList h1 h2
  | dk h e2 l =>
    cases e
    rcases h with h | ⟨o, h⟩
    · exact .base (.dK h)
    · exact .fDict h
  | dt h e2 l => cases e
  | obj c h e2 l => cases e
  | nest h e2 l => cases e
  | nestL h e2 l => cases e
  | nobj c h e2 l => cases e
def gIsi (c : Kd) : GN
  | [d, .ty n], k => n = c.name ∧ ∃ b, isK c d = some b ∧ k (.bl b)
  | _, _ => False
theorem rv_isi {K : PySem.W.Frag} (c : Kd) : RVN K (rIsi K) (gIsi c) := fun Hb H xs ds k Q s l g q => by
  unfold gIsi at g
  split at g
  · obtain ⟨e, b, h, g⟩ := g
    subst e
    obtain ⟨v, w, rfl, i, j⟩ := o_two l
    obtain rfl := o_ty j
    obtain ⟨T, h1, h2⟩ := isK_kit (K := K) c h
    exact ⟨_, _, _, _, b, rfl, .ty _, o_tyx s i h1, h2, q _ _ _ _ g .refl (.bl _)⟩
  · exact g.elim

/-! ### repr of flat values -/
section
variable {X : Cx}
@[simp] def flatText : D → Option Str
  | .non => some "None"
  | .bl b => some (if b then "True" else "False")
  | .int i => if i.natAbs.log2 < 1920 then some (toString i : String) else none
  | _ => none
end

/-! ### a op b op' c -/
section
variable {X : Cx} {Wx : WX} {P L I J J1 J2 : List Nat} {e a b c o k : Expr} {es : List Expr} {F G M : FE} {A : FA} {pos pos' p2 : Pos} {ta tb tc : TE}
def fChain (g g' : G2) (F G M : FE) : FE := fun ρ post xp => F ρ (fun x ρ1 => G ρ1 (fun y ρ2 => g x y fun z => gB z fun t => if t = true then M ρ2 (fun w ρ3 => g' y w fun z => post z ρ3) xp else post (.bl false) ρ2) xp) xp
@[simp ↓] theorem fChain_ap (g g' : G2) (F G M : FE) (ρ : Env) (post : Post) (xp : XP) : fChain g g' F G M ρ post xp = (F ρ (fun x ρ1 => G ρ1 (fun y ρ2 => g x y fun z => gB z fun t => if t = true then M ρ2 (fun w ρ3 => g' y w fun z => post z ρ3) xp else post (.bl false) ρ2) xp) xp) := (rfl)
theorem chain_core {r r' : R2} {g g' : G2} (hr : RV2 X.K r g) (hr' : RV2 X.K r' g') (ha : DE X Wx P I a ta F I) (hb : DE X Wx P I b tb G I) (hc : DE X Wx P I c tc M I) :
    ∀ (W : Wd) (ρ : Env) (σ : St) (Hb H : Hp) (Q : VK) (post : Post) (xp : XP), EnvOk X.K W P I ρ σ Hb H → fChain g g' F G M ρ post xp → XOk X Wx W P σ xp →
    (∀ d ρ' v Hb' H', post d ρ' → EnvOk X.K W P I ρ' σ Hb' H' → Sub Hb Hb' → Is X.K Hb' v d → Q v H') → tChain r r' ta tb tc σ H Q := by
  intro W ρ σ Hb H Q post xp E f x q
  refine ha.ev W ρ σ Hb H _ _ xp E f x fun d ρ1 v Hb1 H1 f1 E1 s1 i1 => ?_
  refine hb.ev W ρ1 σ Hb1 H1 _ _ xp E1 f1 x fun d2 ρ2 v2 Hb2 H2 f2 E2 s2 i2 => ?_
  refine hr Hb2 H2 v v2 d d2 _ _ E2.sub (.inl (i1.mono s2)) (.inl i2) f2 fun w dz Hb3 H3 kz gr iz => ?_
  obtain ⟨E3, s3⟩ := gr.env E2
  cases dz <;> first | exact kz.elim | skip
  rename_i t
  refine ⟨t, is_bl iz, ?_⟩
  cases t with
  | true =>
    have kz : M ρ2 (fun w ρ3 => g' d2 w fun z => post z ρ3) xp := by simpa [gB] using kz
    rw [if_pos rfl]
    refine hc.ev W ρ2 σ Hb3 H3 _ _ xp E3 kz x fun d4 ρ4 v4 Hb4 H4 f4 E4 s4 i4 => ?_
    refine hr' Hb4 H4 v2 v4 d2 d4 _ _ E4.sub (.inl ((i2.mono s3).mono s4)) (.inl i4) f4 fun w dz Hb5 H5 kz gr iz => ?_
    obtain ⟨E5, s5⟩ := gr.env E4
    exact q _ _ _ _ _ kz E5 ((((s1.trans s2).trans s3).trans s4).trans s5) iz
  | false =>
    have kz : post (.bl false) ρ2 := by simpa [gB] using kz
    rw [if_neg Bool.false_ne_true]
    exact q _ _ _ _ _ kz E3 ((s1.trans s2).trans s3) (.bl _)
theorem dt_chain {op op' : CmpOp} {r r' : R2} {g g' : G2} (ho : OpR X (compareOp op) r) (hr : RV2 X.K r g) (ho' : OpR X (compareOp op') r') (hr' : RV2 X.K r' g') (ha : DE X Wx P I a ta F I) (hb : DE X Wx P I b tb G I) (hc : DE X Wx P I c tc M I)
    (hm : lastMarks [op, op'] [b, c] = false := by with_unfolding_all rfl) : DT X Wx P I (.Compare a [op, op'] [b, c] pos) (tTest (tChain r r' ta tb tc)) (fTest (fChain g g' F G M)) I := by
  refine dt_of (pt_chain ho ho' ha.pe hb.pe hc.pe hm) fun W ρ σ Hb H Q post xp E f x q => chain_core hr hr' ha hb hc W ρ σ Hb H _ _ xp E f x fun d ρ1 v Hb1 H1 f1 E1 s1 i1 => ?_
  cases d <;> first | exact f1.elim | skip
  exact ⟨_, is_bl i1, q _ _ _ _ f1 E1 s1⟩

/-! ### dict displays: {}, {'k': v, ..} -/
@[simp] def dKey : D → Option Key
  | .int i => some (.inl i)
  | .str s => some (.inr s)
  | _ => none
structure DPs (X : Cx) (Wx : WX) (P I : List Nat) (pos : Pos) (keys : List (Option Expr)) (vals : List Expr) (t : List (TE × TE)) (F : Env → (List (Key × D) → Env → Prop) → XP → Prop) : Prop where
  pe : PPs X pos keys vals t
  ev : ∀ (W : Wd) (ρ : Env) (σ : St) (Hb H : Hp) (Q : List (V × V) → Hp → Prop) (post : List (Key × D) → Env → Prop) (xp : XP), EnvOk X.K W P I ρ σ Hb H → F ρ post xp → XOk X Wx W P σ xp →
    (∀ ds ρ' (vs : List (Key × V)) Hb' H', post ds ρ' → EnvOk X.K W P I ρ' σ Hb' H' → Sub Hb Hb' → ds.length = keys.length → vs.map (·.1) = ds.map (·.1) → IsL X.K Hb' (vs.map (·.2)) (ds.map (·.2)) → Q (vs.map fun kv => (kV kv.1, kv.2)) H') → tPairs t σ H Q
theorem dps_nil : DPs X Wx P I pos [] [] [] (fun ρ post _ => post [] ρ) := ⟨pps_nil, fun W ρ σ Hb H Q post xp E f _ q => q [] ρ [] Hb H f E (Sub.refl _) rfl rfl .nil⟩
theorem dps_cons {v : Expr} {ks : List (Option Expr)} {vs : List Expr} {trs : List (TE × TE)} {R : Env → (List (Key × D) → Env → Prop) → XP → Prop} (hk : DE X Wx P I k ta F I) (hv : DE X Wx P I v tb G I) (hr : DPs X Wx P I pos ks vs trs R) :
    DPs X Wx P I pos (some k :: ks) (v :: vs) ((ta, tb) :: trs) (fun ρ post xp => F ρ (fun kd ρ1 => G ρ1 (fun d ρ2 => ∃ key, dKey kd = some key ∧ R ρ2 (fun r ρ3 => post ((key, d) :: r) ρ3) xp) xp) xp) := by
  obtain ⟨p1, k1⟩ := hk
  obtain ⟨p2, k2⟩ := hv
  obtain ⟨p3, k3⟩ := hr
  refine ⟨pps_cons p1 p2 p3, fun W ρ σ Hb H Q post xp E f x q => k1 W ρ σ Hb H _ _ xp E f x fun kd ρ1 kv Hb1 H1 f1 E1 s1 i1 => k2 W ρ1 σ Hb1 H1 _ _ xp E1 f1 x fun d ρ2 v Hb2 H2 f2 E2 s2 i2 => ?_⟩
  obtain ⟨key, ek, f2⟩ := f2
  refine k3 W ρ2 σ Hb2 H2 _ _ xp E2 f2 x fun ds ρ3 us Hb3 H3 f3 E3 s3 z3 e3 l3 => ?_
  have ekv : kv = kV key := by
    cases kd <;> simp only [dKey] at ek <;> first | (cases ek; done) | cases ek
    · exact is_int i1
    · exact is_str i1
  subst ekv
  exact q ((key, d) :: ds) ρ3 ((key, v) :: us) Hb3 H3 f3 E3 ((s1.trans s2).trans s3) (congrArg (· + 1) z3) (by simp [e3]) (.cons (i2.mono s3) l3)
@[simp] def mergeD (kvs : List (Key × D)) : List (Key × D) := kvs.foldl (fun acc kv => putD acc kv.1 kv.2) []
def fDict (R : Env → (List (Key × D) → Env → Prop) → XP → Prop) : FE := fun ρ post xp => R ρ (fun kvs ρ1 => post (.dk (mergeD kvs)) ρ1) xp
@[simp ↓] theorem fDict_ap (R : Env → (List (Key × D) → Env → Prop) → XP → Prop) (ρ : Env) (post : Post) (xp : XP) : fDict R ρ post xp = (R ρ (fun kvs ρ1 => post (.dk (mergeD kvs)) ρ1) xp) := (rfl)
theorem any_keys {k : Key} : ∀ {vs : List (Key × V)} {ds : List (Key × D)}, vs.map (·.1) = ds.map (·.1) → (vs.any fun kv => decide (kv.1 = k)) = (ds.any fun kv => decide (kv.1 = k))
  | [], [], _ => rfl
  | v :: vs, d :: ds, e => by
    simp only [List.map_cons, List.cons.injEq] at e
    simp only [List.any_cons, e.1, any_keys e.2]
  | [], _ :: _, e => by simp at e
  | _ :: _, [], e => by simp at e
theorem putK_is {K : PySem.W.Frag} {H : Hp} {vs : List (Key × V)} {ds : List (Key × D)} {k : Key} {v : V} {d : D} (e : vs.map (·.1) = ds.map (·.1)) (l : IsL K H (vs.map (·.2)) (ds.map (·.2))) (i : Is K H v d) :
    (putK vs k v).map (·.1) = (putD ds k d).map (·.1) ∧ IsL K H ((putK vs k v).map (·.2)) ((putD ds k d).map (·.2)) := by
  unfold putK putD
  rw [any_keys e]
  split
  · have rec1 : ∀ {vs : List (Key × V)} {ds : List (Key × D)}, vs.map (·.1) = ds.map (·.1) → IsL K H (vs.map (·.2)) (ds.map (·.2)) →
        (vs.map fun kv => if kv.1 = k then (kv.1, v) else kv).map (·.1) = (ds.map fun kv => if kv.1 = k then (kv.1, d) else kv).map (·.1) ∧ IsL K H ((vs.map fun kv => if kv.1 = k then (kv.1, v) else kv).map (·.2)) ((ds.map fun kv => if kv.1 = k then (kv.1, d) else kv).map (·.2)) := by
      intro vs
      induction vs with
      | nil =>
        intro ds e l
        cases ds with
        | nil => exact ⟨rfl, .nil⟩
        | cons => simp at e
      | cons a vs ih =>
        intro ds e l
        cases ds with
        | nil => simp at e
        | cons b ds =>
          simp only [List.map_cons, List.cons.injEq] at e
          rw [List.map_cons, List.map_cons] at l
          cases l with
          | cons l1 l2 =>
            obtain ⟨r1, r2⟩ := ih e.2 l2
            rw [List.map_cons, List.map_cons, List.map_cons, List.map_cons, List.map_cons, List.map_cons, r1, e.1]
            by_cases hk : b.1 = k
            · rw [if_pos hk, if_pos hk]
              exact ⟨rfl, .cons i r2⟩
            · rw [if_neg hk, if_neg hk]
              exact ⟨by rw [e.1], .cons l1 r2⟩
    exact rec1 e l
  · simp only [List.map_append, List.map_cons, List.map_nil]
    exact ⟨by rw [e], l.snoc i⟩
theorem merge_is {K : PySem.W.Frag} {H : Hp} : ∀ {vs : List (Key × V)} {ds : List (Key × D)} {av : List (Key × V)} {ad : List (Key × D)}, vs.map (·.1) = ds.map (·.1) → IsL K H (vs.map (·.2)) (ds.map (·.2)) → av.map (·.1) = ad.map (·.1) → IsL K H (av.map (·.2)) (ad.map (·.2)) →
    (mergeK av vs).map (·.1) = (ds.foldl (fun acc kv => putD acc kv.1 kv.2) ad).map (·.1) ∧ IsL K H ((mergeK av vs).map (·.2)) ((ds.foldl (fun acc kv => putD acc kv.1 kv.2) ad).map (·.2))
  | [], [], _, _, _, _, e, l => ⟨e, l⟩
  | v :: vs, d :: ds, av, ad, e1, l1, e, l => by
    simp only [List.map_cons, List.cons.injEq] at e1
    rw [List.map_cons, List.map_cons] at l1
    cases l1 with
    | cons a l1 =>
      obtain ⟨p1, p2⟩ := putK_is (k := v.1) e l a
      have := merge_is e1.2 l1 p1 p2
      have em : mergeK av (v :: vs) = mergeK (putK av v.1 v.2) vs := rfl
      rw [em, List.foldl_cons, ← e1.1]
      exact this
  | [], _ :: _, _, _, e1, _, _, _ => by simp at e1
  | _ :: _, [], _, _, e1, _, _, _ => by simp at e1
/-- the world with one address more, that nobody lends -/
def Wd.plus (W : Wd) (p : Addr) (o : HO) : Wd := ⟨W.Hb, upd W.H p o, fun i a => W.ps i a ∧ a ≠ p, W.rt⟩
theorem EnvOk.over {K : PySem.W.Frag} {W : Wd} {P I : List Nat} {ρ : Env} {σ : St} {Hb H : Hp} {p : Addr} {o : HO} (E : EnvOk K W P I ρ σ Hb H) (hp : H p = none) : EnvOk K (W.plus p o) P I ρ σ Hb (upd H p o) := by
  have E1 := E.more (o := o) hp
  have nb := E.sub.none hp
  have wn := E.stp.al p hp
  obtain ⟨k1, k2⟩ := E.cells (H' := upd H p o) (W' := W.plus p o) (Sub.refl Hb) (fun i d q a u hi g e ha hu => ⟨by rw [upd_ne (ne_of_none hu hp)]; exact hu, by
    obtain ⟨q', e', _, _, f⟩ := E.celF i d hi g
    rw [e] at e'; cases e'
    exact (f a ha).1⟩) (fun i a d q hi g e ha => by
      obtain ⟨u, hu⟩ := E.noneF (.inl hi) g e ha
      have na : a ≠ p := ne_of_none hu hp
      exact ⟨fun h => ⟨h, na⟩, fun h => by show upd W.H p o a = none; rw [upd_ne na]; exact h⟩) (fun i a d q hi g e ha h => by
      obtain ⟨u, hu⟩ := E.noneF (.inr hi) g e ha
      have na : a ≠ p := ne_of_none hu hp
      show upd W.H p o a = none
      rw [upd_ne na]; exact h)
  refine ⟨E1.sub, ⟨E1.stp.hb, fun a u e n ntb => ?_, fun a u e => ?_, fun a e => ?_, fun a vs e => ?_⟩, E1.len, E1.val, k1, k2, E1.tab⟩
  · by_cases ha : a = p
    · subst ha
      have e : upd W.H a o a = some u := e
      rw [upd_same] at e ⊢; exact .inl e
    · have e : upd W.H p o a = some u := e
      rw [upd_ne ha] at e
      exact E1.stp.fr a u e (fun i q => n i ⟨q, ha⟩) ntb
  · have ha : a ≠ p := fun z => by subst z; rw [nb] at e; cases e
    rcases E1.stp.fs a u e with r | r | ⟨vs, r⟩
    · exact .inl r
    · exact .inr (.inl (by show upd W.H p o a = none; rw [upd_ne ha]; exact r))
    · exact .inr (.inr ⟨vs, by show upd W.H p o a = some (.tup vs); rw [upd_ne ha]; exact r⟩)
  · have ha : a ≠ p := fun z => by subst z; rw [upd_same] at e; cases e
    show upd W.H p o a = none
    rw [upd_ne ha]
    exact E1.stp.al a e
  · by_cases ha : a = p
    · subst ha
      rw [upd_same] at e
      exact .inr (by show upd W.H a o a = some (.tup vs); rw [upd_same]; exact e)
    · rw [upd_ne ha] at e
      show upd W.H p o a = none ∨ upd W.H p o a = some (.tup vs)
      rw [upd_ne ha]
      exact E.stp.tp a vs e
theorem EnvOk.under {K : PySem.W.Frag} {W : Wd} {P I : List Nat} {ρ : Env} {σ : St} {Hb H : Hp} {p : Addr} {o : HO} (E : EnvOk K (W.plus p o) P I ρ σ Hb H) (wn : W.H p = none) : EnvOk K W P I ρ σ Hb H := by
  refine ⟨E.sub, ⟨E.stp.hb, fun a u e n ntb => ?_, fun a u e => ?_, fun a e => ?_, fun a vs e => ?_⟩, E.len, E.val, fun i d hi g => ?_, E.sepF, E.tab⟩
  · have ha : a ≠ p := ne_of_none e wn
    exact E.stp.fr a u (by show upd W.H p o a = some u; rw [upd_ne ha]; exact e) (fun i q => n i q.1) ntb
  · rcases E.stp.fs a u e with r | r | ⟨vs, r⟩
    · exact .inl r
    · have r : upd W.H p o a = none := r
      have ha : a ≠ p := fun z => by subst z; rw [upd_same] at r; cases r
      rw [upd_ne ha] at r
      exact .inr (.inl r)
    · have r : upd W.H p o a = some (.tup vs) := r
      by_cases ha : a = p
      · subst ha; exact .inr (.inl wn)
      · rw [upd_ne ha] at r
        exact .inr (.inr ⟨vs, r⟩)
  · have r : upd W.H p o a = none := E.stp.al a e
    have ha : a ≠ p := fun z => by subst z; rw [upd_same] at r; cases r
    rw [upd_ne ha] at r
    exact r
  · by_cases ha : a = p
    · subst ha; exact .inl wn
    · have r : upd W.H p o a = none ∨ upd W.H p o a = some (.tup vs) := E.stp.tp a vs e
      rw [upd_ne ha] at r
      exact r
  · obtain ⟨q, e, c, hr, f⟩ := E.celF i d hi g
    have low : ∀ a, upd W.H p o a = none → W.H a = none := fun a r => by
      have ha : a ≠ p := fun z => by subst z; rw [upd_same] at r; cases r
      rw [upd_ne ha] at r
      exact r
    exact ⟨q, e, c, hr, fun a ha => ⟨(f a ha).1, fun z => ((f a ha).2.1 z).imp (·.1) (low a), fun z => low a ((f a ha).2.2 z)⟩⟩
theorem EnvOk.at_plus {K : PySem.W.Frag} {W : Wd} {P I : List Nat} {ρ : Env} {σ : St} {Hb H : Hp} {p : Addr} {o : HO} (E : EnvOk K (W.plus p o) P I ρ σ Hb H) (nb : W.Hb p = none) (nt : ∀ vs : List V, o ≠ .tup vs := by intro _ z; cases z) (ntb : ∀ ts, o ≠ .tbl ts := by intro _ z; cases z) : Hb p = none ∧ H p = some o ∧ ∀ i di q, (i ∈ P ∨ i ∈ I) → get ρ i = some di → σ[i]? = some (some (.ref q)) → ¬ foot H q di p := by
  refine ⟨E.stp.nb nb (o := o) upd_same nt, E.stp.own nb upd_same ntb fun i q => q.2 rfl, fun i di q hi g e ft => ?_⟩
  obtain ⟨q', e', _, _, f⟩ := E.celF i di hi g
  rw [e] at e'; cases e'
  have nn : ¬ (W.plus p o).H p = none := fun r => by
    have r : upd W.H p o p = none := r
    rw [upd_same] at r; cases r
  rcases hi with hi | hi
  · rcases (f p ft).2.1 hi with h | h
    · exact h.2 rfl
    · exact nn h
  · exact nn ((f p ft).2.2 hi)
theorem dn_dict {keys : List (Option Expr)} {vals : List Expr} {trs : List (TE × TE)} {R : Env → (List (Key × D) → Env → Prop) → XP → Prop} (h : DPs X Wx P I pos keys vals trs R) (hall : keys.all (·.isSome) = true := by rfl) (hl : keys.length = vals.length := by rfl) (h0 : keys ≠ [] := by exact fun h => nomatch h)
    (h15 : keys.length ≤ 15 := by decide) : DNw X Wx P I (.Dict keys vals pos) (tDisp trs) (fDict R) I := by
  obtain ⟨pp, kk⟩ := h
  refine ⟨pe_disp pp hall hl h0 h15, fun W ρ σ Hb H Q post xp E f x q p hp => ?_⟩
  have nb : W.Hb p = none := E.stp.hb.none (E.sub.none hp)
  have wn : W.H p = none := E.stp.al p hp
  refine kk (W.plus p (.dK [])) ρ σ Hb _ _ _ xp (E.over hp) f (fun c ρ' cls dx Hb' H' z E' xi => x c ρ' cls dx Hb' H' z (E'.under wn) xi) fun ds ρ' vs Hb2 H2 f2 E2 s2 z2 e2 l2 => ?_
  obtain ⟨n2, h2, un⟩ := E2.at_plus nb
  obtain ⟨m1, m2⟩ := merge_is (av := []) (ad := []) e2 l2 rfl .nil
  have lz : vs.length = ds.length := by
    have := congrArg List.length e2
    simpa using this
  have E3 := E2.under wn
  refine ⟨h2, vs, rfl, by rw [lz, z2]; exact h15, q _ _ _ _ _ f2 (E3.pokeF n2 wn (fun ts z => by rw [h2] at z; cases z) un) s2 ⟨⟨_, upd_same, m1, m2⟩, fun a ha => ?_, fun i di r a hi g e ha fa => ?_⟩⟩
  · have := flat_foot (d := .dk (mergeD ds)) rfl ha
    subst this
    exact ⟨n2, wn⟩
  · have := flat_foot (d := .dk (mergeD ds)) rfl ha
    subst this
    have nq : r ≠ a := fun z => by subst z; exact un i di r hi g e foot.root
    exact un i di r hi g e (foot.cong (by rw [upd_ne nq]) fa)
/-- {} -/
theorem dn_dict0 : DNw X Wx P I (.Dict [] [] pos) tDNewK (fC (.dk [])) I :=
  ⟨pe_dnewK, fun W ρ σ Hb H Q post xp E f x q p hp => q _ _ _ _ _ f (E.more hp) (Sub.refl _) (NewAt.mk' E hp ⟨[], upd_same, rfl, .nil⟩)⟩
end
end DL

/-! DL10: calls that make a new cell; small words for the printed walks. -/
namespace DL
open PySem L2
open PyProof.Rows hiding St

/-- the promise of a def that returns a new cell -/
def spN (K : PySem.W.Frag) (n : Nat) (io : List Nat) (G : DFn) : Sp := fun vs H Q E => vs.length = n ∧ ∃ (ρ : Env) (Hb : Hp) (post : Post) (xp : XP), EnvOk K ⟨Hb, H, lentAt io vs ρ H, rootAt io vs⟩ io [] ρ (vs.map some) Hb H ∧ G ρ post xp ∧
  (∀ d ρ' p Hb' H', post d ρ' → EnvOk K ⟨Hb, H, lentAt io vs ρ H, rootAt io vs⟩ io [] ρ' (vs.map some) Hb' H' → NewAt K ⟨Hb, H, lentAt io vs ρ H, rootAt io vs⟩ io [] ρ' (vs.map some) Hb' H' p d → Q (.ref p) H') ∧
  (∀ c ρ' cls dx Hb' H', xp c ρ' → EnvOk K ⟨Hb, H, lentAt io vs ρ H, rootAt io vs⟩ io [] ρ' (vs.map some) Hb' H' → XIs K Hb' cls dx c → E cls dx H')
section
variable {X : Cx} {Wx : WX} {P I J J1 : List Nat} {e a b c : Expr} {es : List Expr} {F : FE} {A : Env → (Env → Env → Prop) → XP → Prop} {sl : List (Option Nat)} {pos p : Pos} {k n : Nat} {f : Addr} {fd : FuncData} {ps : List Str} {G : DFn} {x : Str} {io : List Nat} {tA : TA}
theorem calln_core {t : TA} (tk : Takes X Wx) (hio : ioOf 0 sl = io) (hsl : ∀ j ∈ slots sl, j ∈ P ∨ j ∈ J) (nd : (slots sl).Nodup) (hPJ : ∀ j ∈ J, j ∉ P) (hn : sl.length = n)
    (ka : ∀ (W : Wd) (ρ : Env) (σ : St) (Hb H : Hp) (Q : List V → Hp → Prop) (post : Env → Env → Prop) (xp : XP), EnvOk X.K W P I ρ σ Hb H → A ρ post xp → XOk X Wx W P σ xp →
    (∀ ds ρ' vs Hb' H', post ds ρ' → EnvOk X.K W P J ρ' σ Hb' H' → Sub Hb Hb' → Args X.K Hb' σ sl vs ds → Q vs H') → t σ H Q) :
    ∀ (W : Wd) (ρ : Env) (σ : St) (Hb H : Hp) (Q : VK) (post : Post) (xp : XP), EnvOk X.K W P I ρ σ Hb H → fCall G sl A ρ post xp → XOk X Wx W P σ xp →
    (∀ d ρ' p Hb' H', post d ρ' → EnvOk X.K W P J ρ' σ Hb' H' → Sub Hb Hb' → NewAt X.K W P J ρ' σ Hb' H' p d → Q (.ref p) H') → t σ H fun vs H1 => spN X.K n io G vs H1 Q (WE Wx σ) := by
  intro W ρ σ Hb H Q post xp E h x q
  subst hio
  refine ka W ρ σ Hb H _ _ xp E h x fun ds ρ1 vs Hb1 H1 f1 E1 s1 ar => ?_
  obtain ⟨lo, g⟩ := f1
  have hl := lentOk_of lo
  refine ⟨by rw [← ar.slLen]; exact hn, fill sl ds ρ1, Hb1, _, _, E1.lend ar hsl nd hl, g, fun d ρ' pn Hb' H' p1 E2 nw => ?_, fun c ρ' cls dx Hb' H' p1 E2 xi => ?_⟩
  · have E3 := E1.given ar hsl nd hl E2 ar.slLen
    exact q _ _ _ _ _ p1 E3 (s1.trans E2.stp.hb) ⟨nw.cell, fun a ha => ⟨(nw.nbF a ha).1, E1.stp.al a (nw.nbF a ha).2⟩, fun i di r a hi g e ha fa =>
      E1.given_un ar hsl nd hl E2 ar.slLen (nw.nbF a ha).2 (fun m dm r hm g e ft => nw.unF m dm r a (.inl hm) g e ha ft) i di r hi g e fa⟩
  · have E3 := E1.given ar hsl nd hl E2 ar.slLen
    obtain ⟨Hb3, E4, s4⟩ := E3.drop (J := []) (fun j q => by cases q) hPJ
    refine x c _ cls dx Hb3 H' p1 E4 ?_
    obtain ⟨e, r | ⟨d, us, e1, e2, e3, e4⟩⟩ := xi
    · exact ⟨e, .inl r⟩
    · exact ⟨e, .inr ⟨d, us, e1, s4.at e2, e3, e4.mono s4⟩⟩
end
section
variable {P : Program} {w : World} {K : PySem.W.Frag} {mg : Str → Option Value} {base : Heap}
end
theorem hu65_of {A : Around} {k : Nat} (hr : Room k A) : A.units + 65 < cLine := by have := hr.un; omega
theorem hu64_of {A : Around} {k : Nat} (hr : Room k A) : A.units + 64 < cLine := by have := hr.un; omega
theorem hu0_of {A : Around} {k : Nat} (hr : Room k A) : A.units < cLine := by have := hr.un; omega
/-- readings by name -/
def fTupE (A : FA) : FE := fun ρ post xp => A ρ (fun xs ρ1 => xs.length ≤ 1000 ∧ post (.tup xs) ρ1) xp
@[simp ↓] theorem fTupE_ap (A : FA) (ρ : Env) (post : Post) (xp : XP) : fTupE A ρ post xp = (A ρ (fun xs ρ1 => xs.length ≤ 1000 ∧ post (.tup xs) ρ1) xp) := (rfl)
def fLstE (A : FA) : FE := fun ρ post xp => A ρ (fun xs ρ1 => xs.length ≤ 1000000 ∧ post (.lst xs) ρ1) xp
@[simp ↓] theorem fLstE_ap (A : FA) (ρ : Env) (post : Post) (xp : XP) : fLstE A ρ post xp = (A ρ (fun xs ρ1 => xs.length ≤ 1000000 ∧ post (.lst xs) ρ1) xp) := (rfl)
abbrev FKv := Env → (List (Key × D) → Env → Prop) → XP → Prop
def fKvs0 : FKv := fun ρ post _ => post [] ρ
@[simp ↓] theorem fKvs0_ap (ρ : Env) (post : List (Key × D) → Env → Prop) (z_2 : XP) : fKvs0  ρ post z_2 = (post [] ρ) := (rfl)
def fKvs (F G : FE) (R : FKv) : FKv := fun ρ post xp => F ρ (fun kd ρ1 => G ρ1 (fun d ρ2 => ∃ key, dKey kd = some key ∧ R ρ2 (fun r ρ3 => post ((key, d) :: r) ρ3) xp) xp) xp
@[simp ↓] theorem fKvs_ap (F G : FE) (R : FKv) (ρ : Env) (post : List (Key × D) → Env → Prop) (xp : XP) : fKvs F G R ρ post xp = (F ρ (fun kd ρ1 => G ρ1 (fun d ρ2 => ∃ key, dKey kd = some key ∧ R ρ2 (fun r ρ3 => post ((key, d) :: r) ρ3) xp) xp) xp) := (rfl)
/-! ### comprehensions whose parts' transformers may name the block -/
abbrev Bk (X : Cx) (scope : Scope) (s : Shared) (H : Hp) (C : Addr) (cl : List (Str × Addr)) (fp : List Addr) : Cx := X.blk s H scope (compEnvC scope cl C X.env) fp
section
variable {X : Cx} {Wx : WX} {P L I J : List Nat} {elt tg iter : Expr} {ifs : List Expr} {scope : Scope} {own : List (Str × Nat)} {pos spos py : Pos} {wi : TI} {A : FA} {gd : FG} {T : FT} {E : FE} {ts : List Nat}
theorem all_de {e : Expr} (h : ∀ (s : Shared) (H : Hp) (C : Addr) (cl : List (Str × Addr)) (fp : List Addr), ∃ te, DE (Bk X scope s H C cl fp) Wx P I e te E J) :
    ∃ te, ∀ (s : Shared) (H : Hp) (C : Addr) (cl : List (Str × Addr)) (fp : List Addr), DE (Bk X scope s H C cl fp) Wx P I e te E J := by
  classical
  refine ⟨fun σ H Q => ∀ s H0 C cl fp, Classical.choose (h s H0 C cl fp) σ H Q, fun s H C cl fp => ?_⟩
  have k := Classical.choose_spec (h s H C cl fp)
  refine ⟨⟨fun pins s1 σ H1 Q I1 q => k.pe.run pins s1 σ H1 Q I1 (q s H C cl fp)⟩, fun W ρ σ Hb H1 Q post xp E1 f x q s2 H2 C2 cl2 fp2 => ?_⟩
  exact (Classical.choose_spec (h s2 H2 C2 cl2 fp2)).ev W ρ σ Hb H1 Q post xp E1 f x q
theorem all_dts (h : ∀ (s : Shared) (H : Hp) (C : Addr) (cl : List (Str × Addr)) (fp : List Addr), ∃ te, DTs (Bk X scope s H C cl fp) Wx P I ifs te T J) :
    ∃ te, ∀ (s : Shared) (H : Hp) (C : Addr) (cl : List (Str × Addr)) (fp : List Addr), DTs (Bk X scope s H C cl fp) Wx P I ifs te T J := by
  classical
  refine ⟨fun σ H Q => ∀ s H0 C cl fp, Classical.choose (h s H0 C cl fp) σ H Q, fun s H C cl fp => ?_⟩
  have k := Classical.choose_spec (h s H C cl fp)
  refine ⟨⟨fun pins s1 σ H1 Q I1 q => k.pe.run pins s1 σ H1 Q I1 (q s H C cl fp)⟩, fun W ρ σ Hb H1 Q post xp E1 f x q s2 H2 C2 cl2 fp2 => ?_⟩
  exact (Classical.choose_spec (h s2 H2 C2 cl2 fp2)).ev W ρ σ Hb H1 Q post xp E1 f x q
theorem all_dg (h : ∀ (s : Shared) (H : Hp) (C : Addr) (cl : List (Str × Addr)) (fp : List Addr), ∃ g, DG (Bk X scope s H C cl fp) P I tg ts g gd) :
    ∃ g, ∀ (s : Shared) (H : Hp) (C : Addr) (cl : List (Str × Addr)) (fp : List Addr), DG (Bk X scope s H C cl fp) P I tg ts g gd := by
  classical
  refine ⟨fun v σ H Q => ∀ s H0 C cl fp, Classical.choose (h s H0 C cl fp) v σ H Q, fun s H C cl fp => ?_⟩
  have k := Classical.choose_spec (h s H C cl fp)
  refine ⟨⟨fun pins s1 σ H1 v u Q I1 r q => k.pe.run pins s1 σ H1 v u Q I1 r (q s H C cl fp)⟩, fun W ρ σ Hb H1 v d Q kk E1 i f q s2 H2 C2 cl2 fp2 => ?_⟩
  exact (Classical.choose_spec (h s2 H2 C2 cl2 fp2)).ev W ρ σ Hb H1 v d Q kk E1 i f q
/-- the new list of a comprehension -/
structure DNx (X : Cx) (Wx : WX) (P I : List Nat) (e : Expr) (F : FE) (J : List Nat) : Prop where
  ex : ∃ t, DNw X Wx P I e t F J
theorem dx_lc (N : List Str) (sc : Scope) (own : List (Str × Nat)) (vs : List Nat) (hc : X.calm = true) (hN : X.N.Nodup) (hi : DI X Wx P I tg iter wi A J) (hb : blkC N sc scope own = true)
    (hg : ∀ (s : Shared) (H : Hp) (C : Addr) (cl : List (Str × Addr)) (fp : List Addr), ∃ g, DG (Bk X scope s H C cl fp) (P ++ J) [] tg ts g gd)
    (ht : ∀ (s : Shared) (H : Hp) (C : Addr) (cl : List (Str × Addr)) (fp : List Addr), ∃ tt, DTs (Bk X scope s H C cl fp) WN (P ++ J) [] ifs tt T [])
    (he : ∀ (s : Shared) (H : Hp) (C : Addr) (cl : List (Str × Addr)) (fp : List Addr), ∃ te, DE (Bk X scope s H C cl fp) WN (P ++ J) [] elt te E [])
    (e1 : X.N = N := by rfl) (e2 : X.env.scope = sc := by rfl) (e3 : own.map (·.2) = vs := by rfl)
    (hts : ∀ v ∈ ts, v ∈ own.map (·.2) := by decide) (hvs : ∀ v ∈ own.map (·.2), v ∉ P ∧ v ∉ J := by decide) (hs : ∀ x, foldedSetIterable iter X.env x = pure x := by intro _; rfl) :
    DNx X Wx P I (.ListComp elt [⟨tg, iter, ifs, 0⟩] scope pos) (fLc A vs gd T E) J := by
  obtain ⟨g, hg⟩ := all_dg hg
  obtain ⟨tt, ht⟩ := all_dts ht
  obtain ⟨te, he⟩ := all_de he
  subst e1 e2 e3
  exact ⟨_, dn_lc own hc hN hi (blkOk_by hb) hg ht he hts hvs hs⟩
end
theorem dn_of {X : Cx} {Wx : WX} {P I J : List Nat} {e : Expr} {F : FE} (h : DNx X Wx P I e F J) : DNw X Wx P I e (Classical.choose h.ex) F J := Classical.choose_spec h.ex
section
variable {X : Cx} {Wx : WX} {P L I J : List Nat} {elt tg iter : Expr} {ifs : List Expr} {scope : Scope} {own : List (Str × Nat)} {pos spos py : Pos} {wi : TI} {A : FA} {gd : FG} {T : FT} {E : FE} {ts : List Nat}
theorem dx_setLc (i : Nat) {y : Str} (N : List Str) (sc : Scope) (own : List (Str × Nat)) (vs : List Nat) (hc : X.calm = true) (hN : X.N.Nodup) (hsw : swapsWith (.ListComp elt [⟨tg, iter, ifs, 0⟩] scope pos) (some (.Name y py)) spos.line X.env = pure true) (hi : DI X Wx P I tg iter wi A J) (hb : blkC N sc scope own = true)
    (hg : ∀ (s : Shared) (H : Hp) (C : Addr) (cl : List (Str × Addr)) (fp : List Addr), ∃ g, DG (Bk X scope s H C cl fp) (P ++ J) [] tg ts g gd)
    (ht : ∀ (s : Shared) (H : Hp) (C : Addr) (cl : List (Str × Addr)) (fp : List Addr), ∃ tt, DTs (Bk X scope s H C cl fp) WN (P ++ J) [] ifs tt T [])
    (he : ∀ (s : Shared) (H : Hp) (C : Addr) (cl : List (Str × Addr)) (fp : List Addr), ∃ te, DE (Bk X scope s H C cl fp) WN (P ++ J) [] elt te E [])
    (e1 : X.N = N := by rfl) (e2 : X.env.scope = sc := by rfl) (e3 : own.map (·.2) = vs := by rfl)
    (hy : X.N[i]? = some y := by rfl) (hyl : X.env.scope.names.lookup y = some .local := by rfl) (hP : i ∉ P := by decide) (hI : i ∉ J := by decide)
    (hts : ∀ v ∈ ts, v ∈ own.map (·.2) := by decide) (hvs : ∀ v ∈ own.map (·.2), v ∉ P ∧ v ∉ J := by decide) (hs : ∀ x, foldedSetIterable iter X.env x = pure x := by intro _; rfl) :
    DS X Wx P L I (.Assign [.Name y py] (.ListComp elt [⟨tg, iter, ifs, 0⟩] scope pos) spos) (fSet i (fLc A vs gd T E)) J := by
  obtain ⟨g, hg⟩ := all_dg hg
  obtain ⟨tt, ht⟩ := all_dts ht
  obtain ⟨te, he⟩ := all_de he
  subst e1 e2 e3
  exact ds_setLc i own hc hN hsw hi (blkOk_by hb) hg ht he hy hyl hP hI hts hvs hs
end
theorem cx_no {P : Program} {w : World} {outer : List PySem.Env} {H : Hp} {s s' : Shared} {u : Value} (h : L2.CX P w outer H s (fun _ _ _ => False) u s') : False := by
  obtain ⟨a, B, H', cls, d, h⟩ := h
  obtain ⟨_, _, _, _, _, _, h⟩ := h
  exact h.2

/-! ### == and != with an empty list or tuple: the items don't matter -/
section
variable {X : Cx} {K : PySem.W.Frag} {Hb H : Hp}
def rEmpS (K : PySem.W.Frag) (neg : Bool) : R2 := fun x y H Q => ∃ a b xs ys, x = .ref a ∧ y = .ref b ∧ ((SqL K H a xs ∧ SqL K H b ys) ∨ (SqT K H a xs ∧ SqT K H b ys)) ∧ (xs = [] ∨ ys = []) ∧ Q (.bl (neg != decide (xs.length = ys.length))) H
theorem emp_range {n m : Nat} (h : n = 0 ∨ m = 0) (e : Nat → Bool) : (List.range (min n m)).all e = true := by
  have : min n m = 0 := by omega
  rw [this]; rfl
theorem op_eqEmpS (hu : X.A.units < cLine) : OpR X (compareOp .Eq) (rEmpS X.K false) := by
  intro pins s σ H x y v u Q I rx ry h
  obtain ⟨a, b, xs, ys, rfl, rfl, hs, he, q⟩ := h
  cases rx; cases ry
  rcases hs with ⟨h1, h2⟩ | ⟨h1, h2⟩
  · obtain ⟨i1, r1, p1, _⟩ := I.list h1
    obtain ⟨i2, r2, p2, _⟩ := I.list h2
    have l1 := r1.length
    have l2 := r2.length
    by_cases hl : xs.length = ys.length
    · have z : xs = [] ∧ ys = [] := by
        rcases he with e | e
        · subst e; exact ⟨rfl, List.eq_nil_of_length_eq_zero hl.symm⟩
        · subst e; exact ⟨List.eq_nil_of_length_eq_zero hl, rfl⟩
      obtain ⟨rfl, rfl⟩ := z
      cases r1; cases r2
      exact SeqAt.eq_listAt (e := fun _ => true) p1.isList p2.isList rfl hu (fun j h _ => absurd h (by simp)) ⟨.bl true, H, I, rfl, by simpa using q⟩
    · refine SeqAt.eq_list_lengthsAt p1.isList p2.isList (by simp only [List.size_toArray, bne_iff_ne, ne_eq]; omega) hu ⟨.bl false, H, I, rfl, ?_⟩
      rw [decide_eq_false hl] at q
      exact q
  · obtain ⟨i1, r1, p1, _⟩ := I.tuple h1
    obtain ⟨i2, r2, p2, _⟩ := I.tuple h2
    have l1 := r1.length
    have l2 := r2.length
    have hz : i1.toArray.size = 0 ∨ i2.toArray.size = 0 := by
      simp only [List.size_toArray]
      rcases he with e | e
      · subst e; left; simpa using l1.symm
      · subst e; right; simpa using l2.symm
    refine SeqAt.eq_tupleAt (e := fun _ => true) p1 p2 hu (fun j h h' => by omega) ?_
    rw [emp_range hz]
    refine ⟨.bl (decide (xs.length = ys.length)), H, I, ?_, by simpa using q⟩
    show Value.bool _ = Value.bool _
    congr 1
    rw [Bool.true_and, l1, l2, List.size_toArray, List.size_toArray]
    by_cases z : i1.length = i2.length
    · rw [decide_eq_true z]; simpa using z
    · rw [decide_eq_false z]; simpa using z
theorem op_neEmpS (hu : X.A.units < cLine) : OpR X (compareOp .NotEq) (rEmpS X.K true) := by
  intro pins s σ H x y v u Q I rx ry h
  obtain ⟨a, b, xs, ys, rfl, rfl, hs, he, q⟩ := h
  cases rx; cases ry
  rcases hs with ⟨h1, h2⟩ | ⟨h1, h2⟩
  · obtain ⟨i1, r1, p1, _⟩ := I.list h1
    obtain ⟨i2, r2, p2, _⟩ := I.list h2
    have l1 := r1.length
    have l2 := r2.length
    by_cases hl : xs.length = ys.length
    · have z : xs = [] ∧ ys = [] := by
        rcases he with e | e
        · subst e; exact ⟨rfl, List.eq_nil_of_length_eq_zero hl.symm⟩
        · subst e; exact ⟨List.eq_nil_of_length_eq_zero hl, rfl⟩
      obtain ⟨rfl, rfl⟩ := z
      cases r1; cases r2
      exact SeqAt.RcNeAt.lists (e := fun _ => true) p1.isList p2.isList rfl hu (fun j h _ => absurd h (by simp)) _ _ _ _ ⟨.bl false, H, I, rfl, by simpa using q⟩
    · refine SeqAt.RcNeAt.lists_lengths p1.isList p2.isList (by simp only [List.size_toArray, bne_iff_ne, ne_eq]; omega) hu _ _ _ _ ⟨.bl true, H, I, rfl, ?_⟩
      rw [decide_eq_false hl] at q
      exact q
  · obtain ⟨i1, r1, p1, _⟩ := I.tuple h1
    obtain ⟨i2, r2, p2, _⟩ := I.tuple h2
    have l1 := r1.length
    have l2 := r2.length
    have hz : i1.toArray.size = 0 ∨ i2.toArray.size = 0 := by
      simp only [List.size_toArray]
      rcases he with e | e
      · subst e; left; simpa using l1.symm
      · subst e; right; simpa using l2.symm
    refine SeqAt.RcNeAt.tuples (e := fun _ => true) p1 p2 hu (fun j h h' => by omega) _ _ _ _ ?_
    rw [emp_range hz]
    refine ⟨.bl (!decide (xs.length = ys.length)), H, I, ?_, by simpa using q⟩
    show Value.bool _ = Value.bool _
    congr 1
    rw [Bool.true_and, l1, l2, List.size_toArray, List.size_toArray]
    by_cases z : i1.length = i2.length
    · rw [decide_eq_true z]; simpa using z
    · rw [decide_eq_false z]; simpa using z
def rEqSt (neg : Bool) : R2 := fun x y H Q => ∃ a b : Str, x = .str a ∧ y = .str b ∧ Q (.bl (neg != decide (a = b))) H
abbrev rEmp (K : PySem.W.Frag) (neg : Bool) : R2 := fun x y H Q => rEmpS K neg x y H Q ∨ rEqSt neg x y H Q
theorem op_eqSt : OpR X (compareOp .Eq) (rEqSt false) := fun pins s σ H x y v u Q I rx ry ⟨a, b, ex, ey, q⟩ => op_eq pins s σ H x y v u Q I rx ry (by
  subst ex; subst ey
  refine ⟨rfl, ?_⟩
  have : decide (V.str a = V.str b) = decide (a = b) := by simp
  rw [this]; simpa using q)
theorem op_neSt : OpR X (compareOp .NotEq) (rEqSt true) := fun pins s σ H x y v u Q I rx ry ⟨a, b, ex, ey, q⟩ => op_ne pins s σ H x y v u Q I rx ry (by
  subst ex; subst ey
  refine ⟨rfl, ?_⟩
  have : decide (V.str a = V.str b) = decide (a = b) := by simp
  rw [this]; simpa using q)
theorem op_eqEmp (hu : X.A.units < cLine) : OpR X (compareOp .Eq) (rEmp X.K false) := (op_eqEmpS hu).or op_eqSt
theorem op_neEmp (hu : X.A.units < cLine) : OpR X (compareOp .NotEq) (rEmp X.K true) := (op_neEmpS hu).or op_neSt
/-- two sequences of one kind, one of them empty -/
def empty2 : D → D → Option Bool
  | .lst a, .lst b => if a = [] ∨ b = [] then some (decide (a.length = b.length)) else none
  | .slst a, .lst b => if a = [] ∨ b = [] then some (decide (a.length = b.length)) else none
  | .tup a, .tup b => if a = [] ∨ b = [] then some (decide (a.length = b.length)) else none
  | .str a, .str b => some (decide (a = b))
  | _, _ => none
def gEqU : G2 := fun x y k => match empty2 x y with
  | some b => k (.bl b)
  | none => gEq x y k
def gNeU : G2 := fun x y k => match empty2 x y with
  | some b => k (.bl (!b))
  | none => gNe x y k
theorem emp_of (s : Sub Hb H) {v w : V} {x y : D} {b : Bool} {neg : Bool} {Q : VK} (ix : IsO K Hb H v x) (iy : IsO K Hb H w y) (e : empty2 x y = some b) (q : Q (.bl (neg != b)) H) : rEmp K neg v w H Q := by
  have L : ∀ {a b' : List D}, lstD x = some a → lstD y = some b' → (if a = [] ∨ b' = [] then some (decide (a.length = b'.length)) else none) = some b → rEmpS K neg v w H Q := fun {a b'} e1 e2 e => by
    obtain ⟨p, us, rfl, h1, l1⟩ := o_lstD s ix e1
    obtain ⟨p', us', rfl, h2, l2⟩ := o_lstD s iy e2
    split at e
    · rename_i he
      cases e
      refine ⟨p, p', us, us', rfl, rfl, .inl ⟨h1, h2⟩, he.imp (fun z => ?_) (fun z => ?_), by rw [l1.length, l2.length]; exact q⟩
      · subst z; exact List.eq_nil_of_length_eq_zero (by rw [l1.length]; rfl)
      · subst z; exact List.eq_nil_of_length_eq_zero (by rw [l2.length]; rfl)
    · cases e
  unfold empty2 at e
  split at e
  · exact .inl (L rfl rfl e)
  · exact .inl (L rfl rfl e)
  · obtain ⟨_, p, us, rfl, h1, l1⟩ := o_tupD s ix rfl
    obtain ⟨_, p', us', rfl, h2, l2⟩ := o_tupD s iy rfl
    split at e
    · rename_i he
      cases e
      refine .inl ⟨p, p', us, us', rfl, rfl, .inr ⟨h1, h2⟩, he.imp (fun z => ?_) (fun z => ?_), by rw [l1.length, l2.length]; exact q⟩
      · subst z; exact List.eq_nil_of_length_eq_zero (by rw [l1.length]; rfl)
      · subst z; exact List.eq_nil_of_length_eq_zero (by rw [l2.length]; rfl)
    · cases e
  · cases e
    have e1 := o_str ix
    have e2 := o_str iy
    exact .inr ⟨_, _, e1, e2, q⟩
  · cases e
theorem op_eqU (hu : X.A.units + 64 < cLine) : OpR X (compareOp .Eq) (fun x y H Q => rEqD X.K x y H Q ∨ rEmp X.K false x y H Q) := (op_eqD hu).or (op_eqEmp (by omega))
theorem op_neU (hu : X.A.units + 64 < cLine) : OpR X (compareOp .NotEq) (fun x y H Q => rNeD X.K x y H Q ∨ rEmp X.K true x y H Q) := (op_neD hu).or (op_neEmp (by omega))
theorem rv_eqU : RV2 K (fun x y H Q => rEqD K x y H Q ∨ rEmp K false x y H Q) gEqU := fun Hb H x y dx dy k Q s ix iy g q => by
  unfold gEqU at g
  split at g
  · rename_i b e
    exact .inr (emp_of s ix iy e (by simpa using q _ _ _ _ g .refl (.bl _)))
  · exact .inl (rv_eq Hb H x y dx dy k Q s ix iy g q)
theorem rv_neU : RV2 K (fun x y H Q => rNeD K x y H Q ∨ rEmp K true x y H Q) gNeU := fun Hb H x y dx dy k Q s ix iy g q => by
  unfold gNeU at g
  split at g
  · rename_i b e
    exact .inr (emp_of s ix iy e (by simpa using q _ _ _ _ g .refl (.bl _)))
  · exact .inl (rv_ne Hb H x y dx dy k Q s ix iy g q)
end
end DL

/-! DL11: how readings are evaluated (simp). -/
namespace DL
open PySem L2

@[simp] theorem ofString_inj {a b : String} : (Str.ofString a = Str.ofString b) = (a = b) := by
  refine propext ⟨fun h => ?_, fun h => by rw [h]⟩
  rw [Str.ofString_eq_toList, Str.ofString_eq_toList] at h
  have h := congrArg (fun s : Str => s.cps.toList) h
  simp only [List.toList_toArray] at h
  have inj : ∀ {l m : List Char}, l.map Char.toNat = m.map Char.toNat → l = m := by
    intro l
    induction l with
    | nil => intro m h; cases m with
      | nil => rfl
      | cons => simp at h
    | cons x l ih => intro m h; cases m with
      | nil => simp at h
      | cons y m =>
        simp only [List.map_cons, List.cons.injEq] at h
        have e : x = y := by
          have := h.1
          exact Char.ext (UInt32.toNat_inj.mp this)
        rw [e, ih h.2]
  exact String.toList_injective (inj h)
@[simp] theorem get_zero (x : Option D) (r : Env) : get (x :: r) 0 = x := rfl
@[simp] theorem get_succ (x : Option D) (r : Env) (n : Nat) : get (x :: r) (n + 1) = get r n := rfl
@[simp] theorem put_zero (x d : Option D) (r : Env) : put (x :: r) 0 d = d :: r := rfl
@[simp] theorem put_succ (x d : Option D) (r : Env) (n : Nat) : put (x :: r) (n + 1) d = x :: put r n d := rfl
@[simp ↓] theorem gAdd_int (i j : Int) (k) : gAdd (.int i) (.int j) k = k (.int (i + j)) := (rfl)
@[simp ↓] theorem gAdd_lst (a b : List D) (k) : gAdd (.lst a) (.lst b) k = (a.length + b.length ≤ 1000000 ∧ k (.lst (a ++ b))) := (rfl)
@[simp ↓] theorem gAdd_tup (a b : List D) (k) : gAdd (.tup a) (.tup b) k = (a.length + b.length ≤ 1000000 ∧ k (.tup (a ++ b))) := (rfl)
@[simp ↓] theorem gAdd_str (a b : Str) (k) : gAdd (.str a) (.str b) k = (a.length + b.length ≤ 1000000 ∧ k (.str (a ++ b))) := (rfl)
@[simp ↓] theorem gSub_int (i j : Int) (k) : gSub (.int i) (.int j) k = k (.int (i - j)) := (rfl)
@[simp ↓] theorem gMul_int (i j : Int) (k) : gMul (.int i) (.int j) k = (CMulO i j ∧ k (.int (i * j))) := (rfl)
@[simp ↓] theorem gFdiv_int (i j : Int) (k) : gFdiv (.int i) (.int j) k = ((j ≠ 0 ∧ j.natAbs.log2 < 9000) ∧ k (.int (i.fdiv j))) := (rfl)
@[simp ↓] theorem gFmod_int (i j : Int) (k) : gFmod (.int i) (.int j) k = (j ≠ 0 ∧ k (.int (i.fmod j))) := (rfl)
@[simp ↓] theorem gPow_int (i j : Int) (k) : gPow (.int i) (.int j) k = ((0 ≤ j ∧ j ≤ 1000000 ∧ i.natAbs < 2 ^ 64) ∧ k (.int (i ^ j.toNat))) := (rfl)
@[simp ↓] theorem gNeg_int (i : Int) (k) : gNeg (.int i) k = k (.int (-i)) := (rfl)
@[simp ↓] theorem gLt_int (i j : Int) (k) : gLt (.int i) (.int j) k = k (.bl (decide (i < j))) := (rfl)
@[simp ↓] theorem gLe_int (i j : Int) (k) : gLe (.int i) (.int j) k = k (.bl (decide (i ≤ j))) := (rfl)
@[simp ↓] theorem gGe_int (i j : Int) (k) : gGe (.int i) (.int j) k = k (.bl (decide (j ≤ i))) := (rfl)
@[simp ↓] theorem gEqU_lst0 (a : List D) (k) : gEqU (.lst a) (.lst []) k = k (.bl (decide (a = []))) := by
  have e : empty2 (.lst a) (.lst []) = some (decide (a = [])) := by simp [empty2, List.length_eq_zero_iff]
  show (match empty2 (.lst a) (.lst []) with | some b => k (.bl b) | none => _) = _
  rw [e]
@[simp ↓] theorem gNeU_lst0 (a : List D) (k) : gNeU (.lst a) (.lst []) k = k (.bl (!decide (a = []))) := by
  have e : empty2 (.lst a) (.lst []) = some (decide (a = [])) := by simp [empty2, List.length_eq_zero_iff]
  show (match empty2 (.lst a) (.lst []) with | some b => k (.bl (!b)) | none => _) = _
  rw [e]
theorem gEq_of {x y : D} {a b : PyData} (h1 : pd x = some a) (h2 : pd y = some b) (s1 : SeqAt.shaped a = true) (s2 : SeqAt.shaped b = true) (k : D → Prop) : gEq x y k = k (.bl (PyData.eqv a b)) := by
  refine propext ⟨fun ⟨c, d, e1, e2, _, _, h⟩ => ?_, fun h => ⟨a, b, h1, h2, s1, s2, h⟩⟩
  rw [h1] at e1; rw [h2] at e2
  cases e1; cases e2; exact h
theorem gNe_of {x y : D} {a b : PyData} (h1 : pd x = some a) (h2 : pd y = some b) (s1 : SeqAt.shaped a = true) (s2 : SeqAt.shaped b = true) (k : D → Prop) : gNe x y k = k (.bl (!PyData.eqv a b)) := by
  refine propext ⟨fun ⟨c, d, e1, e2, _, _, h⟩ => ?_, fun h => ⟨a, b, h1, h2, s1, s2, h⟩⟩
  rw [h1] at e1; rw [h2] at e2
  cases e1; cases e2; exact h
theorem shaped_int (i : Int) : SeqAt.shaped (.int i) = true := by
  simp [SeqAt.shaped, PyData.canLay0, PyData.depth]
theorem shaped_bool (i : Bool) : SeqAt.shaped (.bool i) = true := by
  simp [SeqAt.shaped, PyData.canLay0, PyData.depth]
@[simp ↓] theorem gEqU_int (i j : Int) (k) : gEqU (.int i) (.int j) k = k (.bl (decide (i = j))) := by
  show gEq _ _ _ = _
  rw [gEq_of rfl rfl (shaped_int i) (shaped_int j)]
  have e : PyData.eqv (.int i) (.int j) = decide (i = j) := by
    simp only [PyData.eqv]
    by_cases h : i = j <;> simp [h]
  rw [e]
@[simp ↓] theorem gNeU_int (i j : Int) (k) : gNeU (.int i) (.int j) k = k (.bl (!decide (i = j))) := by
  show gNe _ _ _ = _
  rw [gNe_of rfl rfl (shaped_int i) (shaped_int j)]
  have e : PyData.eqv (.int i) (.int j) = decide (i = j) := by
    simp only [PyData.eqv]
    by_cases h : i = j <;> simp [h]
  rw [e]
@[simp ↓] theorem gEqU_bl (i j : Bool) (k) : gEqU (.bl i) (.bl j) k = k (.bl (decide (i = j))) := by
  show gEq _ _ _ = _
  rw [gEq_of rfl rfl (shaped_bool i) (shaped_bool j)]
  cases i <;> cases j <;> simp [PyData.eqv]
@[simp ↓] theorem gNeU_bl (i j : Bool) (k) : gNeU (.bl i) (.bl j) k = k (.bl (!decide (i = j))) := by
  show gNe _ _ _ = _
  rw [gNe_of rfl rfl (shaped_bool i) (shaped_bool j)]
  cases i <;> cases j <;> simp [PyData.eqv]
@[simp ↓] theorem gIx_tup (a : List D) (i : Int) (k) : gIx (.tup a) (.int i) k = ∃ d, atI a i = some d ∧ k d := (rfl)
@[simp ↓] theorem gIx_lst (a : List D) (i : Int) (k) : gIx (.lst a) (.int i) k = ∃ d, atI a i = some d ∧ k d := (rfl)
@[simp ↓] theorem gIx_slst (a : List D) (i : Int) (k) : gIx (.slst a) (.int i) k = ∃ d, atI a i = some d ∧ k d := (rfl)
@[simp ↓] theorem gIx_dkS (a : List (Key × D)) (i : Str) (k) : gIx (.dk a) (.str i) k = ∃ d, valD a (.inr i) = some d ∧ k d := by
  show (∃ d, getK (.dk a) (.str i) = some (some d) ∧ k d) = _
  simp [getK]
@[simp ↓] theorem gIx_dkI (a : List (Key × D)) (i : Int) (k) : gIx (.dk a) (.int i) k = ∃ d, valD a (.inl i) = some d ∧ k d := by
  show (∃ d, getK (.dk a) (.int i) = some (some d) ∧ k d) = _
  simp [getK]
@[simp] theorem valD_cons {κ : Type} [DecidableEq κ] (p : κ × D) (r : List (κ × D)) (k : κ) : valD (p :: r) k = if p.1 = k then some p.2 else valD r k := by
  unfold valD
  by_cases h : p.1 = k
  · simp [List.find?_cons, h]
  · simp [List.find?_cons, h]
@[simp] theorem valD_nil {κ : Type} [DecidableEq κ] (k : κ) : valD ([] : List (κ × D)) k = none := rfl
@[simp] theorem putKD_dkS (a : List (Key × D)) (i : Str) (v d : D) : (putKD (.dk a) (.str i) v = some d) = (D.dk (putD a (.inr i) v) = d) := by simp [putKD]
@[simp] theorem putKD_dkI (a : List (Key × D)) (i : Int) (v d : D) : (putKD (.dk a) (.int i) v = some d) = (D.dk (putD a (.inl i) v) = d) := by simp [putKD]
@[simp] theorem sizeD_dk (a : List (Key × D)) : sizeD (.dk a) = a.length := rfl
@[simp] theorem isDict_dk (a : List (Key × D)) : isDict (.dk a) = True := rfl
@[simp ↓] theorem gLen_lst (a : List D) (k) : gLen [.lst a] k = k (.int a.length) := (rfl)
@[simp ↓] theorem gLen_slst (a : List D) (k) : gLen [.slst a] k = k (.int a.length) := (rfl)
@[simp ↓] theorem gLen_tup (a : List D) (k) : gLen [.tup a] k = k (.int a.length) := (rfl)
@[simp ↓] theorem gLen_dk (a : List (Key × D)) (k) : gLen [.dk a] k = k (.int a.length) := (rfl)
@[simp ↓] theorem gAbs_int (i : Int) (k) : gAbs [.int i] k = k (.int (if i < 0 then -i else i)) := (rfl)
@[simp ↓] theorem gInt_int (i : Int) (k) : gInt [.int i] k = k (.int i) := (rfl)
@[simp ↓] theorem gInt_bl (b : Bool) (k) : gInt [.bl b] k = k (.int (if b then 1 else 0)) := (rfl)
@[simp ↓] theorem gTuple_lst (a : List D) (k) : gTuple [.lst a] k = k (.tup a) := (rfl)
@[simp ↓] theorem gTuple_tup (a : List D) (k) : gTuple [.tup a] k = k (.tup a) := (rfl)
@[simp ↓] theorem gIsi_ty (c : Kd) (d : D) (n : String) (k) : gIsi c [d, .ty n] k = (n = c.name ∧ ∃ b, isK c d = some b ∧ k (.bl b)) := (rfl)
@[simp ↓] theorem gCut_lst (a : List D) (lo hi : Option Int) (k) : gCut (.lst a) lo hi k = k (.lst (cutL a lo hi)) := (rfl)
@[simp ↓] theorem gCut_slst (a : List D) (lo hi : Option Int) (k) : gCut (.slst a) lo hi k = k (.lst (cutL a lo hi)) := (rfl)
@[simp ↓] theorem endS_nx (io n post xp ρ) : (endS io n post xp).nx ρ = post .non (maskF io 0 n ρ) := (rfl)
@[simp ↓] theorem endS_rt (io n post xp d ρ) : (endS io n post xp).rt d ρ = post d (maskF io 0 n ρ) := (rfl)
@[simp ↓] theorem endS_ex (io n post xp d ρ) : (endS io n post xp).ex d ρ = xp d (maskF io 0 n ρ) := (rfl)
@[simp] theorem maskF_zero (io i ρ) : maskF io i 0 ρ = [] := rfl
@[simp] theorem maskF_succ (io i n ρ) : maskF io i (n + 1) ρ = (if i ∈ io then get ρ i else none) :: maskF io (i + 1) n ρ := rfl
theorem atI_nat {a : List D} {i : Nat} {d : D} (h : a[i]? = some d) : atI a (i : Int) = some d := by
  obtain ⟨hl, _⟩ := List.getElem?_eq_some_iff.mp h
  unfold atI ixN
  rw [if_pos (by omega), if_pos (by omega)]
  simpa using h
/-- an item by a drawn index -/
theorem atI_lt {a : List D} {i : Int} (h0 : 0 ≤ i) (h1 : i < a.length) : ∃ d, atI a i = some d ∧ d ∈ a := by
  have hl : i.toNat < a.length := by omega
  refine ⟨a[i.toNat], ?_, List.getElem_mem hl⟩
  have := atI_nat (a := a) (i := i.toNat) (List.getElem?_eq_getElem hl)
  rwa [Int.toNat_of_nonneg h0] at this
theorem fmod_nn {i j : Int} (h : 0 < j) : 0 ≤ i.fmod j := Int.fmod_nonneg_of_pos i h
theorem fmod_lt {i j : Int} (h : 0 < j) : i.fmod j < j := Int.fmod_lt_of_pos i h
theorem fdiv_nn {i j : Int} (h : 0 ≤ i) (h' : 0 < j) : 0 ≤ i.fdiv j := by
  rw [Int.fdiv_eq_ediv_of_nonneg _ (Int.le_of_lt h')]; exact Int.ediv_nonneg h (Int.le_of_lt h')
/-- a for loop by an invariant of the items left and the environment -/
theorem loop_inv {g : FG} {B : FS} {S : SPo} (Inv : List D → Env → Prop) (h0 : ∀ ρ, Inv [] ρ → S.nx ρ)
    (h1 : ∀ d ds ρ (N : Env → Prop), (∀ ρ', Inv ds ρ' → N ρ') → Inv (d :: ds) ρ → g d ρ fun ρ1 => B ρ1 (S.lp N)) :
    ∀ ds ρ, Inv ds ρ → loopL g B S ds ρ
  | [], ρ, h => h0 ρ h
  | d :: ds, ρ, h => h1 d ds ρ _ (fun ρ' q => loop_inv Inv h0 h1 ds ρ' q) h
theorem ix_drawn {a : List D} {i : Int} {k : D → Prop} (h0 : 0 ≤ i) (h1 : i < a.length) (h : ∀ d ∈ a, k d) : ∃ d, atI a i = some d ∧ k d := by
  obtain ⟨d, e, m⟩ := atI_lt h0 h1
  exact ⟨d, e, h d m⟩
@[simp] theorem atI_ints (ns : List Int) (i : Int) (k : D → Prop) : (∃ d, atI (ns.map D.int) i = some d ∧ k d) = ∃ c, atI ns i = some c ∧ k (.int c) := by
  have e : atI (ns.map D.int) i = (atI ns i).map D.int := by
    unfold atI
    rw [List.length_map]
    cases ixN ns.length i <;> simp
  rw [e]
  refine propext ⟨fun ⟨d, h, q⟩ => ?_, fun ⟨c, h, q⟩ => ⟨_, by rw [h]; rfl, q⟩⟩
  cases z : atI ns i with
  | none => rw [z] at h; cases h
  | some c => rw [z] at h; cases h; exact ⟨c, rfl, q⟩
theorem atI_ex {α : Type} {a : List α} {i : Int} (h0 : 0 ≤ i) (h1 : i < a.length) : ∃ d, atI a i = some d := by
  have hl : i.toNat < a.length := by omega
  refine ⟨a[i.toNat], ?_⟩
  unfold atI ixN
  rw [if_pos h0, if_pos h1]
  simp [hl]
theorem cmul_l {i j : Int} (h : -(2 ^ 64) < i) (h' : i < 2 ^ 64) : CMulO i j := .inl ⟨h, h'⟩
theorem cmul_r {i j : Int} (h : -(2 ^ 64) < j) (h' : j < 2 ^ 64) : CMulO i j := .inr (.inl ⟨h, h'⟩)
theorem draw_sum {x p b c d : Int} (hp : 0 < p) (hp2 : p ≤ 2147483648) (hb : 0 ≤ b) (hb2 : b ≤ 1000000) (ha : 0 ≤ c) (ha2 : c ≤ 1000000) (hd : 0 ≤ d) (hd2 : d ≤ 1000000) : (x.fmod p + b * c + d).natAbs < 18446744073709551616 := by
  have h1 := fmod_nn (i := x) hp
  have h2 := fmod_lt (i := x) hp
  have h3 : b * c ≤ 1000000 * 1000000 := Int.mul_le_mul hb2 ha2 ha (by omega)
  have h4 : 0 ≤ b * c := Int.mul_nonneg hb ha
  omega
@[simp ↓] theorem gEqU_str (a b : Str) (k) : gEqU (.str a) (.str b) k = k (.bl (decide (a = b))) := (rfl)
@[simp ↓] theorem gNeU_str (a b : Str) (k) : gNeU (.str a) (.str b) k = k (.bl (!decide (a = b))) := (rfl)
theorem cutL_all {a : List D} {n : Nat} (h : a.length ≤ n) : cutL a none (some (n : Int)) = a := cutL_whole ⟨rfl, by rw [HT.sIx_nat]; omega⟩
theorem ix_at {a : List D} {i : Nat} {d : D} (h : a[i]? = some d) (k : D → Prop) : (∃ d', atI a (i : Int) = some d' ∧ k d') = k d := by
  rw [DL.atI_nat h]; simp
@[simp ↓] theorem ix_0 (x : D) (l : List D) (k : D → Prop) : (∃ d', atI (x :: l) 0 = some d' ∧ k d') = k x := ix_at (i := 0) rfl k
@[simp ↓] theorem ix_1 (x0 x1 : D) (l : List D) (k : D → Prop) : (∃ d', atI (x0 :: x1 :: l) 1 = some d' ∧ k d') = k x1 := ix_at (i := 1) rfl k
@[simp ↓] theorem ix_2 (x0 x1 x2 : D) (l : List D) (k : D → Prop) : (∃ d', atI (x0 :: x1 :: x2 :: l) 2 = some d' ∧ k d') = k x2 := ix_at (i := 2) rfl k
@[simp ↓] theorem ix_3 (x0 x1 x2 x3 : D) (l : List D) (k : D → Prop) : (∃ d', atI (x0 :: x1 :: x2 :: x3 :: l) 3 = some d' ∧ k d') = k x3 := ix_at (i := 3) rfl k
@[simp ↓] theorem ix_4 (x0 x1 x2 x3 x4 : D) (l : List D) (k : D → Prop) : (∃ d', atI (x0 :: x1 :: x2 :: x3 :: x4 :: l) 4 = some d' ∧ k d') = k x4 := ix_at (i := 4) rfl k
@[simp ↓] theorem ix_5 (x0 x1 x2 x3 x4 x5 : D) (l : List D) (k : D → Prop) : (∃ d', atI (x0 :: x1 :: x2 :: x3 :: x4 :: x5 :: l) 5 = some d' ∧ k d') = k x5 := ix_at (i := 5) rfl k
end DL

/-! DG0: promises of defs that know that no repr is under way (guards); their calls; the law's end. -/
namespace DL
open PySem L2
open PyProof.Rows hiding St

/-- a def's promise by positional values, where no repr is under way -/
def FnG (P : Program) (w : World) (K : PySem.W.Frag) (mg : Str → Option Value) (base : Heap) (k : Nat) (f : Addr) (sp : Sp) : Prop :=
  ∀ (A : Around) (frs_ : List PySem.Env) (s : Shared) (H : Hp) (us : List Value) (vs : List V) (Q : VK) (E : XK), Room k A → A.guards = some [] → Env0 P w K mg base A frs_ s H → Vals vs us → sp vs H Q E →
    codeAny (model P w) A (.call (.ref f) ⟨us, []⟩) (CR (L2.CX P w) frs_ P w H s Q E) s
/-- a def as it stands behind the top; dV: its defaults -/
structure FunG (K : PySem.W.Frag) (x qual : Str) (st : Stmt) (f : Addr) (fd : FuncData) : Prop where
  ex : ∃ (oc : Value) (od : Option Addr) (dV kV doc pm : Value) (an : Option Addr) (cdv ct : Value) (osl : Array (Option Value)),
    fd = PySem.W.fnOf x qual (defArgs st) (defBody st) (defScope st) dV kV doc pm an cdv ct ∧ K.lookup f = some ⟨oc, od, .func fd, osl⟩ ∧ PySem.W.codeIn K cdv qual = true
  kp : PySem.W.keepIn K (.ref f) = true
theorem funG_mk {K : PySem.W.Frag} {x qual : Str} {st : Stmt} {f : Addr} {oc : Value} {od an : Option Addr} {osl : Array (Option Value)} {dV kV doc pm cdv ct : Value} (l : K.lookup f = some ⟨oc, od, .func (PySem.W.fnOf x qual (defArgs st) (defBody st) (defScope st) dV kV doc pm an cdv ct), osl⟩)
    (c : PySem.W.codeIn K cdv qual = true) (k : PySem.W.keepIn K (.ref f) = true) : FunG K x qual st f (PySem.W.fnOf x qual (defArgs st) (defBody st) (defScope st) dV kV doc pm an cdv ct) := ⟨⟨oc, od, dV, kV, doc, pm, an, cdv, ct, osl, rfl, l, c⟩, k⟩
theorem binds_none {K : PySem.W.Frag} {fd : FuncData} {ps : List Str} (h : ∀ us : List Value, us.length = ps.length → bindArgs fd ⟨us, []⟩ = pure (ps.zip us)) : Binds K fd ps [] := .all h
section
variable {P : Program} {w : World} {K : PySem.W.Frag} {mg : Str → Option Value} {base : Heap} {j k : Nat} {f : Addr} {sp sp' : Sp}
theorem FnG.mono (F : FnG P w K mg base j f sp) (h : j ≤ k) : FnG P w K mg base k f sp := fun A o s H us vs Q E r => F A o s H us vs Q E (r.mono h)
theorem FnG.imp (F : FnG P w K mg base k f sp) (h : ∀ vs H Q E, sp' vs H Q E → sp vs H Q E) : FnG P w K mg base k f sp' := fun A o s H us vs Q E r g e v q => F A o s H us vs Q E r g e v (h _ _ _ _ q)
/-- a def by its body -/
theorem fnG_of {x qual : Str} {st : Stmt} {fd : FuncData} {N ps : List Str} (F : FunG K x qual st f fd) (S : FnScope N ps (defScope st)) (B : Binds K fd ps []) (len : ∀ vs H Q E, sp vs H Q E → vs.length = ps.length)
    (body : ∀ (cdv : Value) (A : Around) (o : List PySem.Env) (s : Shared) (H : Hp) (vs : List V) (Q : VK) (E : XK), Room k (A.deeper (envOfC qual (defScope st) s.heap.objs.size f cdv)) → A.guards = some [] → sp vs H Q E →
      ∃ t, PSs (cxOf (L2.CX P w) P w K mg base N qual (defScope st) f cdv A o s H E) (defBody st) t ∧ t { nx := fun _ H' => Q .non H', rt := Q } (L2.start N vs) H) : FnG P w K mg base (k + 1) f sp := by
  intro A o s H us vs Q E room hg ev rel hsp
  have nlen := len _ _ _ _ hsp
  have here : K.In s.heap := ev.mod.kin.keeps fun b u e => (ev.bs b u e).1
  have nolim : s.heap.NoLimit := ev.mod.nolimit.keeps fun b u e => (ev.bs b u e).1
  have bnd := B s us here (by rw [List.append_nil, ← rel.length]; exact nlen)
  rw [List.append_nil] at bnd
  obtain ⟨oc, od, dV, kV, doc, pm, an, cdv, ct, osl, rfl, lk, hcd⟩ := F.ex
  have kinds : ∀ y ∈ ps.zip us, (defScope st).names.lookup y.1 = some .local ∨ ((defScope st).names.lookup y.1 = some .cell ∧ ((cellsFrom (s.heap.objs.size + 1) (defScope st).names []).lookup y.1).isSome = true) := by
    rintro ⟨n, v⟩ hy
    refine (S.par n (List.of_mem_zip hy).1).imp id fun q => ⟨q, PySem.W.cellsFrom_some _ _ _ (.inl q)⟩
  refine codeAny_call_function room.depth (here _ _ lk) rfl S.co S.gen rfl (PySem.W.codeRec_of here hcd) (bnd _ _ _ _ ?_)
  refine wpAny_newFunctionEnv_cells S.kind kinds fun env same s1 laid => ?_
  subst same
  refine ⟨nolim.keeps laid.toInCall.keep, codeAny_func ?_⟩
  obtain ⟨t, pt, ht⟩ := body cdv A o s H vs Q E (room.deeper _) hg hsp
  refine wpAny_mono (pt.run [] s1 (L2.start N vs) H _ (inv_start S room.hd ev nlen rel laid) ht) (fun fl s2 q => ?_) fun _ _ q => q
  cases fl with
  | next =>
    obtain ⟨σ2, H2, J, q⟩ := q
    exact ⟨.non, H2, J.os, J.bare, J.base, J.hok, rfl, q⟩
  | ret u =>
    obtain ⟨v, σ2, H2, J, rv, q⟩ := q
    exact ⟨v, H2, J.os, J.bare, J.base, J.hok, rv, q⟩
  | brk =>
    obtain ⟨_, _, _, q⟩ := q
    exact (show False from q).elim
  | cont =>
    obtain ⟨_, _, _, q⟩ := q
    exact (show False from q).elim
end
section
variable {X : Cx} {k : Nat} {f : Addr} {sp : Sp} {E : St → XK} {x m : Str} {p pos apos : Pos} {e o : Expr} {es : List Expr} {ta : TE} {t : TA}
/-- the callee runs -/
theorem run_G {pins : List (Addr × Obj)} {σ : St} {H : Hp} {s : Shared} {Q : VK} {us : List Value} {vs : List V} (F : FnG X.prog X.w X.K X.mg X.base k f sp) (hr : Room k X.A) (hg : X.A.guards = some []) (hx : PassesAt (L2.CX X.prog X.w) X σ (E σ))
    (I : Inv X pins σ H s) (r : Vals vs us) (h : sp vs H Q (E σ)) : codeAny (model X.prog X.w) X.A (.call (.ref f) ⟨us, []⟩) (fun r s' => match r with | .ok (.ret v) => EP X pins σ Q v s' | .ok _ => False | .error e => X.xe e s') s := by
  refine codeAny_mono (F X.A X.stack s H us vs Q (E σ) hr hg I.env0 r h) fun res s2 q => ?_
  cases res with
  | error er => exact hx pins H s er s2 I q
  | ok fl =>
    cases fl with
    | ret u => exact I.after q
    | next => exact q.elim
    | brk => exact q.elim
    | cont => exact q.elim
theorem pe_callG (F : FnG X.prog X.w X.K X.mg X.base k f sp) (hr : Room k X.A) (hgu : X.A.guards = some []) (hg : Gl X x) (hm : X.mg x = some (.ref f)) (hk : PySem.W.keepIn X.K (.ref f) = true) (hx : ∀ σ, PassesAt (L2.CX X.prog X.w) X σ (E σ))
    (ha : PA X (e :: es) t) (hdb : (x == ("__debug__" : Str)) = false := by decide) (he : starEach (e :: es) X.env = (false, eval e X.env) :: starEach es X.env := by rfl) (hpl : (backTo pos (starEach es X.env)).any (·.1) = false := by rfl) :
    PE X (.Call (.Name x p) (e :: es) [] pos) (tCallS sp E t) := ⟨fun pins s σ H Q I h =>
  wpAny_Call_Name_kw (ld_glob I hg hm (PySem.W.callWith_K (h₀ := X.base) I.ok.mod.kin hk (thn (ha.run pos pins s σ H _ I h) fun us s1 ⟨vs, H1, I1, r, q⟩ => ⟨I1.kIn, wpAny_call (run_G F hr hgu (hx σ) I1 r q)⟩) he hpl) hdb)⟩
end
/-! ### properties, making -/
section
variable {X : Cx} {k : Nat} {f : Addr} {sp : Sp} {E : St → XK} {x m : Str} {p pos apos : Pos} {e o : Expr} {es : List Expr} {ta : TE} {t : TA} {C : Addr}
def tMakeG (C : Addr) (sp : Sp) (E : St → XK) (t : TA) : TE := fun σ H Q => t σ H fun vs H1 => ∀ x dx, H1 x = none → H1 dx = none → dx ≠ x → sp (.ref x :: vs) (upd (upd H1 dx (.own x)) x (.ins C dx [])) (fun v H2 => v = .non ∧ Q (.ref x) H2) (E σ)
theorem run_makeG {pins : List (Addr × Obj)} {σ : St} {H : Hp} {s : Shared} {Q : VK} {us : List Value} {vs : List V} (M : Mk X.K C f) (F : FnG X.prog X.w X.K X.mg X.base k f sp) (hr : Room (k + 1) X.A) (hgu : X.A.guards = some []) (hx : ∀ σ, PassesAt (L2.CX X.prog X.w) X σ (E σ)) (I : Inv X pins σ H s) (r : Vals vs us)
    (h : ∀ x dx, H x = none → H dx = none → dx ≠ x → sp (.ref x :: vs) (upd (upd H dx (.own x)) x (.ins C dx [])) (fun v H2 => v = .non ∧ Q (.ref x) H2) (E σ)) :
    wpAny (model X.prog X.w) X.A (call (.ref C) us) (EP X pins σ Q) X.xe s := by
  let n := s.heap.objs.size
  have I2 := Inv.made (C := C) I
  have hq := h (n + 1) n (I.hok.fresh (Nat.le_succ _)) (I.hok.fresh (Nat.le_refl _)) (Nat.ne_of_lt (Nat.lt_succ_self _))
  have r2 : Vals (.ref (n + 1) :: vs) (Value.ref (n + 1) :: us) := .cons rfl r
  refine wpAny_call (make_map (f := f) I.kIn M.makes M.init (beq_iff_eq.mp M.fn) (codeAny_mono (F _ X.stack _ _ (Value.ref (n + 1) :: us) _ _ (E σ) (hr.make C us []) ?_ (I2.env0.make C us []) r2 hq) fun res s2 q => ?_))
  · show pushGuards (Code.builtin "type.__call__" ⟨.ref C :: us, []⟩).guards X.A.guards = some []
    rw [hgu]
    rfl
  cases res with
  | error er => exact hx σ pins _ _ er s2 I2 q
  | ok fl =>
    cases fl with
    | ret u =>
      obtain ⟨v, H3, I3, rv, ev, q3⟩ := I2.after q
      subst ev
      exact ⟨rv, ⟨.ref (n + 1), H3, I3, rfl, q3⟩⟩
    | next => exact q.elim
    | brk => exact q.elim
    | cont => exact q.elim
theorem pe_makeG (M : Mk X.K C f) (F : FnG X.prog X.w X.K X.mg X.base k f sp) (hr : Room (k + 1) X.A) (hgu : X.A.guards = some []) (hg : Gl X x) (hm : X.mg x = some (.ref C)) (hx : ∀ σ, PassesAt (L2.CX X.prog X.w) X σ (E σ)) (ha : PA X (e :: es) t)
    (hdb : (x == ("__debug__" : Str)) = false := by decide) (he : starEach (e :: es) X.env = (false, eval e X.env) :: starEach es X.env := by rfl) (hpl : (backTo pos (starEach es X.env)).any (·.1) = false := by rfl) :
    PE X (.Call (.Name x p) (e :: es) [] pos) (tMakeG C sp E t) := ⟨fun pins s σ H Q I h =>
  wpAny_Call_Name_kw (ld_glob I hg hm (PySem.W.callWith_K (h₀ := X.base) I.ok.mod.kin M.kp (thn (ha.run pos pins s σ H _ I h) fun us s1 ⟨vs, H1, I1, r, q⟩ => ⟨I1.kIn, run_makeG M F hr hgu hx I1 r q⟩) he hpl) hdb)⟩
theorem pe_makeG0 (M : Mk X.K C f) (F : FnG X.prog X.w X.K X.mg X.base k f sp) (hr : Room (k + 1) X.A) (hgu : X.A.guards = some []) (hg : Gl X x) (hm : X.mg x = some (.ref C)) (hx : ∀ σ, PassesAt (L2.CX X.prog X.w) X σ (E σ))
    (hdb : (x == ("__debug__" : Str)) = false := by decide) : PE X (.Call (.Name x p) [] [] pos) (tMakeG C sp E tNil) := ⟨fun pins s σ H Q I h =>
  wpAny_Call_Name_kw (ld_glob I hg hm (PySem.W.callWith_K0 I.kIn M.kp (run_makeG M F hr hgu hx I .nil h)) hdb)⟩
end
section
variable {X : Cx} {k : Nat} {C p g a dx : Addr} {fs : List (Str × V)} {f : Str} {sp : Sp} {e : Expr} {pos : Pos} {ta : TE}
/-- e.f, f a property: nothing is raised in it -/
def tPropG (C : Addr) (sp : Sp) (ta : TE) : TE := fun σ H Q => ta σ H fun x H1 => ∃ a dx fs, x = .ref a ∧ H1 a = some (.ins C dx fs) ∧ sp [.ref a] H1 Q fun _ _ _ => False
theorem propG_ok {pins : List (Addr × Obj)} {σ : St} {H : Hp} {s : Shared} {Q : VK} {b : Bool} {E' : Value → Shared → Prop} (I : Inv X pins σ H s) (ea : H a = some (.ins C dx fs)) (c : Cls X.K C) (hp : PropOf X.K C f p g)
    (F : FnG X.prog X.w X.K X.mg X.base k g sp) (hr : Room (k + 1) X.A) (hgu : X.A.guards = some []) (h : sp [.ref a] H Q fun _ _ _ => False) : wpAny (model X.prog X.w) X.A (getAttr (.ref a) f b) (EP X pins σ Q) E' s := by
  obtain ⟨mA, O, _, _, _, _⟩ := ins_get I.hok ea
  obtain ⟨od, J, _⟩ := O.look
  obtain ⟨rest, rc⟩ := hp.rec_
  have known : (PySem.W.clsIn X.K C).isSome = true := by
    obtain ⟨cd, z, _⟩ := PySem.W.any_some c.hd
    rw [z]; rfl
  have I1 := I.tok (s.toks + 1)
  have gp := PySem.W.plainGet_of (c.get f)
  refine PySem.W.get_bind I.kIn J gp.1 (PySem.W.findObj_data known hp.at_ hp.get hp.tak) gp.2 (wpAny_call (PySem.W.prop_get (s := { s with toks := s.toks + 1 }) I.kIn rc (codeAny_mono (F X.A.in1 X.stack { s with toks := s.toks + 1 } H [.ref a] [.ref a] Q _ hr.in1 hgu I1.env0.in1 (.cons rfl .nil) h) fun res s2 q => ?_)))
  cases res with
  | error er => exact (cx_no q).elim
  | ok fl =>
    cases fl with
    | ret u =>
      obtain ⟨v, H3, I3, rv, q3⟩ := I1.after q
      show wpAny _ _ (handedOut u) _ _ _
      rw [PySem.W.handedOut_of (handed_of rv)]
      exact wpAny_pure ⟨v, H3, I3, rv, q3⟩
    | next => exact q.elim
    | brk => exact q.elim
    | cont => exact q.elim
theorem pe_propG (he : PE X e ta) (c : Cls X.K C) (hp : PropOf X.K C f p g) (F : FnG X.prog X.w X.K X.mg X.base k g sp) (hr : Room (k + 1) X.A) (hgu : X.A.guards = some [])
    (hab : attributeBase e f X.env (eval e X.env) = eval e X.env) : PE X (.Attribute e f pos) (tPropG C sp ta) := ⟨fun pins s σ H Q I h =>
  attr_of hab (thn (he.run pins s σ H _ I h) fun u s1 ⟨x, H1, I1, rx, a, dx, fs, ex, ea, q⟩ => by
    subst ex
    have er : u = Value.ref a := rx
    subst er
    exact propG_ok I1 ea c hp F hr hgu q)⟩
end

end DL

/-! DG1: defs and calls over data, with guards; repr; instances. -/
namespace DL
open PySem L2
open PyProof.Rows hiding St

section
variable {X : Cx} {Wx : WX} {P I J J1 : List Nat} {e a b c : Expr} {es : List Expr} {F : FE} {A : Env → (Env → Env → Prop) → XP → Prop} {sl : List (Option Nat)} {pos p : Pos} {k n : Nat} {f : Addr} {G : DFn} {x : Str} {io : List Nat} {tA : TA}
theorem de_callG (Fn : FnG X.prog X.w X.K X.mg X.base k f (spD X.K n io G)) (hr : Room k X.A) (hgu : X.A.guards = some []) (hm : X.mg x = some (.ref f)) (hk : PySem.W.keepIn X.K (.ref f) = true) (tk : Takes X Wx)
    (ha : DO X Wx P I (e :: es) tA A sl J) (hio : ioOf 0 sl = io := by decide) (hsl : ∀ j ∈ slots sl, j ∈ P ∨ j ∈ J := by decide) (nd : (slots sl).Nodup := by decide) (hPJ : ∀ j ∈ J, j ∉ P := by decide) (hn : sl.length = n := by decide)
    (hg : Gl X x := by rfl) (hdb : (x == ("__debug__" : Str)) = false := by decide) (he : starEach (e :: es) X.env = (false, eval e X.env) :: starEach es X.env := by rfl) (hpl : (backTo pos (starEach es X.env)).any (·.1) = false := by rfl) :
    DE X Wx P I (.Call (.Name x p) (e :: es) [] pos) (tCallS (spD X.K n io G) (WE Wx) tA) (fCall G sl A) J := by
  obtain ⟨pa, ka⟩ := ha
  exact de_of (pe_callG Fn hr hgu hg hm hk (fun σ => passAt tk σ) pa hdb he hpl) (call_core tk hio hsl nd hPJ hn ka)
theorem dn_callG (Fn : FnG X.prog X.w X.K X.mg X.base k f (spN X.K n io G)) (hr : Room k X.A) (hgu : X.A.guards = some []) (hm : X.mg x = some (.ref f)) (hk : PySem.W.keepIn X.K (.ref f) = true) (tk : Takes X Wx)
    (ha : DO X Wx P I (e :: es) tA A sl J) (hio : ioOf 0 sl = io := by decide) (hsl : ∀ j ∈ slots sl, j ∈ P ∨ j ∈ J := by decide) (nd : (slots sl).Nodup := by decide) (hPJ : ∀ j ∈ J, j ∉ P := by decide) (hn : sl.length = n := by decide)
    (hg : Gl X x := by rfl) (hdb : (x == ("__debug__" : Str)) = false := by decide) (he : starEach (e :: es) X.env = (false, eval e X.env) :: starEach es X.env := by rfl) (hpl : (backTo pos (starEach es X.env)).any (·.1) = false := by rfl) :
    DNw X Wx P I (.Call (.Name x p) (e :: es) [] pos) (tCallS (spN X.K n io G) (WE Wx) tA) (fCall G sl A) J := by
  obtain ⟨pa, ka⟩ := ha
  exact ⟨pe_callG Fn hr hgu hg hm hk (fun σ => passAt tk σ) pa hdb he hpl, calln_core tk hio hsl nd hPJ hn ka⟩
end

section
variable {P : Program} {w : World} {K : PySem.W.Frag} {mg : Str → Option Value} {base : Heap}
theorem okG_of {x qual : Str} {st : Stmt} {f : Addr} {fd : FuncData} {N ps : List Str} {k n : Nat} {io : List Nat} {J : List Nat} {G : DFn} {Fd : FS} (F : FunG K x qual st f fd) (B : Binds K fd ps []) (S : FnScope N ps (defScope st)) (hn : ps.length = n)
    (hb : ∀ (cdv : Value) (A : Around) (outer : List PySem.Env) (s : Shared) (H : Hp) (E : XK), Room k (A.deeper (envOfC qual (defScope st) s.heap.objs.size f cdv)) → A.guards = some [] →
      DSs (cxOf (L2.CX P w) P w K mg base N qual (defScope st) f cdv A outer s H E) (WofE E) io [] [] (defBody st) Fd J)
    (hg : ∀ (ρ : DL.Env) (post : Post) (xp : XP), ρ.length = n → G ρ post xp → Fd (ρ ++ List.replicate (N.length - n) none) (endS io n post xp)) : FnG P w K mg base (k + 1) f (spD K n io G) := by
  refine fnG_of F S B (fun vs H Q E h => h.1.trans hn.symm) fun cdv A outer s H vs Q E hr gu h => ?_
  obtain ⟨hl, ρ, Hb, post, xp, E0, g, q1, q2⟩ := h
  obtain ⟨t, pt, kt⟩ := (hb cdv A outer s H E hr gu).run
  refine ⟨t, pt, ?_⟩
  have hρ : ρ.length = n := by rw [← E0.len, List.length_map, hl]
  have e1 : L2.start N vs = vs.map some ++ List.replicate (N.length - n) none := by unfold L2.start; rw [hl]
  rw [e1]
  refine kt ⟨Hb, H, lentAt io vs ρ H, rootAt io vs⟩ _ _ Hb H _ _ E0.entry (hg ρ post xp hρ g) ⟨fun ρ' σ' Hb' H' a E' s' => ?_, fun d ρ' σ' v Hb' H' a E' is => ?_, fun _ _ _ _ a => a.elim, fun _ _ _ _ a => a.elim, fun c ρ' cls dx σ' Hb' H' a E' xi => ?_⟩
  · exact q1 _ _ _ _ _ a (E'.masked hl) .non
  · exact q1 _ _ _ _ _ a (E'.masked hl) is
  · exact q2 _ _ _ _ _ _ a (E'.masked hl) xi
theorem okNG_of {x qual : Str} {st : Stmt} {f : Addr} {fd : FuncData} {N ps : List Str} {k n : Nat} {e : Expr} {pos : Pos} {G : DFn} {Fd : FE} (F : FunG K x qual st f fd) (B : Binds K fd ps []) (S : FnScope N ps (defScope st)) (hn : ps.length = n)
    (hbody : defBody st = [.Return (some e) pos])
    (hb : ∀ (cdv : Value) (A : Around) (outer : List PySem.Env) (s : Shared) (H : Hp) (E : XK), Room k (A.deeper (envOfC qual (defScope st) s.heap.objs.size f cdv)) → A.guards = some [] →
      ∃ t, DNw (cxOf (L2.CX P w) P w K mg base N qual (defScope st) f cdv A outer s H E) (WofE E) [] [] e t Fd [])
    (hg : ∀ (ρ : DL.Env) (post : Post) (xp : XP), ρ.length = n → G ρ post xp → Fd (ρ ++ List.replicate (N.length - n) none) (fun d ρ' => post d (maskF [] 0 n ρ')) fun c ρ' => xp c (maskF [] 0 n ρ')) : FnG P w K mg base (k + 1) f (spN K n [] G) := by
  refine fnG_of F S B (fun vs H Q E h => h.1.trans hn.symm) fun cdv A outer s H vs Q E hr gu h => ?_
  obtain ⟨hl, ρ, Hb, post, xp, E0, g, q1, q2⟩ := h
  obtain ⟨te, ht⟩ := hb cdv A outer s H E hr gu
  rw [hbody]
  refine ⟨_, pss_one (ps_ret ht.pe), ?_⟩
  have hρ : ρ.length = n := by rw [← E0.len, List.length_map, hl]
  have e1 : L2.start N vs = vs.map some ++ List.replicate (N.length - n) none := by unfold L2.start; rw [hl]
  rw [e1]
  refine ht.ev ⟨Hb, H, lentAt [] vs ρ H, rootAt [] vs⟩ _ _ Hb H _ _ _ E0.entry (hg ρ post xp hρ g) (fun c ρ' cls dx Hb' H' a E' xi => q2 _ _ _ _ _ _ a (E'.masked hl) xi) fun d ρ' p Hb' H' a E' s' nw => ?_
  exact q1 _ _ _ _ _ a (E'.masked hl) ⟨nw.cell, nw.nbF, fun i di q a hi => by rcases hi with hi | hi <;> cases hi⟩
theorem okG_law {k : Nat} {f : Addr} {G : DFn} (F : FnG P w K mg base k f (spD K 1 [] G))
    (h : ∀ ns : List Int, ns.length ≤ 63 → G [some (.slst (ns.map D.int))] (fun d _ => d = .bl true) fun _ _ => False) : FnG P w K mg base k f (spLaw K) :=
  F.imp fun vs H Q E ⟨a, ns, e, hs, hl, ht, q⟩ => by
    subst e
    refine ⟨rfl, [some (.slst (ns.map D.int))], noTab H, _, _, ⟨noTab_sub _, Stp.refl _ _ _ _, rfl, fun i d g _ _ => ?_, fun i d hi _ => ?_, fun i j p q di dj a hi => ?_, ht.ok⟩, h ns hl, fun d ρ' v Hb' H' e _ is => ?_, fun _ _ _ _ _ _ z => z.elim⟩
    · match i, g with
      | 0, g =>
        cases g
        exact ⟨_, rfl, .slst (noTab_sqL hs) (isL_ints ns)⟩
      | i + 1, g => simp [get] at g
    · rcases hi with hi | hi <;> cases hi
    · rcases hi with hi | hi <;> cases hi
    · subst e
      rw [is_bl is]
      exact q _
end

/-! ### repr of plain data -/
section
variable {X : Cx} {K : PySem.W.Frag}
theorem call_reprD (hgu : X.A.guards = some []) (hu : X.A.units + 65 < cLine) : CallR X (.builtin "repr") (fun xs H Q => ∃ v d, xs = [v] ∧ Dp X.K H v d ∧ d.showable = true ∧ d.hasDict = false ∧ d.depth ≤ 60 ∧ d.shown.length ≤ sizeLine ∧ Q (.str d.shown) H) := by
  intro pins s σ H xs us Q I r h
  obtain ⟨v, d, rfl, hd, hs, nd, dp, hz, q⟩ := h
  obtain ⟨u, rfl, e⟩ := vals1 r
  have fin : ∀ (h' : Heap) (u : Tok) (tk : Nat), (∀ b o, s.heap.get? b = some o → h'.get? b = some o) → EP X pins σ Q (.str d.shown u) { s with heap := h', toks := tk } := fun h' u tk hk => ⟨.str d.shown, H, I.kept (t' := tk) hk, ⟨u, rfl⟩, q⟩
  obtain ⟨as, rd⟩ := Dp.reads I d v u hd e
  cases hd with
  | non =>
    cases (show u = Value.none from e)
    exact PySem.P.repr_of_none ⟨.str _, H, I.tok _, ⟨_, rfl⟩, q⟩
  | bl b =>
    cases (show u = Value.bool b from e)
    exact PySem.P.repr_of_bool ⟨.str _, H, I.tok _, ⟨_, rfl⟩, q⟩
  | int i =>
    obtain ⟨t, rfl⟩ := e
    exact PySem.P.repr_of_int (by simpa [PyData.showable] using hs) ⟨.str _, H, I.tok _, ⟨_, rfl⟩, q⟩
  | str x =>
    obtain ⟨t, rfl⟩ := e
    exact PySem.P.repr_of_str ⟨.str _, H, I.tok _, ⟨_, rfl⟩, q⟩ hz
  | lst hl l =>
    cases (show u = Value.ref _ from e)
    exact repr_of_reads' rd hs (PyData.noDict_hsm nd) hgu (by omega) (fun _ _ e => e) (fun h' u tk hk => fin h' u tk hk) hz
  | tup hl l =>
    cases (show u = Value.ref _ from e)
    exact repr_of_reads' rd hs (PyData.noDict_hsm nd) hgu (by omega) (fun _ _ e => e) (fun h' u tk hk => fin h' u tk hk) hz
def gRepr : GN
  | [d], k => ∃ z, pd d = some z ∧ z.showable = true ∧ z.hasDict = false ∧ z.depth ≤ 60 ∧ z.shown.length ≤ 1000000 ∧ k (.str z.shown)
  | _, _ => False
theorem rv_repr : RVN K (fun xs H Q => ∃ v d, xs = [v] ∧ Dp K H v d ∧ d.showable = true ∧ d.hasDict = false ∧ d.depth ≤ 60 ∧ d.shown.length ≤ sizeLine ∧ Q (.str d.shown) H) gRepr := fun Hb H xs ds k Q s l g q => by
  unfold gRepr at g
  split at g
  · obtain ⟨z, e, h1, h2, h3, h4, g⟩ := g
    obtain ⟨v, rfl, i⟩ := o_one l
    exact ⟨v, z, rfl, (i.is s).dp e, h1, h2, h3, Nat.le_trans h4 (by decide), q _ _ _ _ g .refl (.str _)⟩
  · exact g.elim
end
end DL

/-! DG2: instances over data. -/
namespace DL
open PySem L2
open PyProof.Rows hiding St

/-! ### fields -/
section
variable {K : PySem.W.Frag} {Hb H : Hp}
theorem o_obj (s : Sub Hb H) {v : V} {n : Str} {fs : List (Str × D)} (h : IsO K Hb H v (.obj n fs)) : ∃ (a C dx : Addr) (vs : List (Str × V)), v = .ref a ∧ IsCl K n C ∧ H a = some (.ins C dx vs) ∧ vs.map (·.1) = fs.map (·.1) ∧ IsL K Hb (vs.map (·.2)) (fs.map (·.2)) := by
  rcases h with h | ⟨p, rfl, C, dx, vs, c, h, e, l⟩
  · cases h with
    | obj c h e l => exact ⟨_, _, _, _, rfl, c, s.at h, e, l⟩
  · exact ⟨p, C, dx, vs, rfl, c, h, e, l⟩
theorem look_is {f : Str} {d : D} : ∀ {vs : List (Str × V)} {fs : List (Str × D)}, vs.map (·.1) = fs.map (·.1) → IsL K H (vs.map (·.2)) (fs.map (·.2)) → fs.lookup f = some d → ∃ v, vs.lookup f = some v ∧ Is K H v d
  | [], [], _, _, h => by cases h
  | v :: vs, x :: fs, e, l, h => by
    simp only [List.map_cons, List.cons.injEq] at e
    rw [List.map_cons, List.map_cons] at l
    cases l with
    | cons a l =>
      rw [show x = (x.1, x.2) from rfl, List.lookup_cons] at h
      rw [show v = (v.1, v.2) from rfl, List.lookup_cons, e.1]
      split at h
      · rename_i z
        cases h
        exact ⟨_, rfl, a⟩
      · rename_i z
        obtain ⟨w, hw, iw⟩ := look_is e.2 l h
        exact ⟨w, hw, iw⟩
  | [], _ :: _, e, _, _ => by simp at e
  | _ :: _, [], e, _, _ => by simp at e
@[simp] def putFd (f : Str) (d : D) : List (Str × D) → List (Str × D)
  | [] => [(f, d)]
  | (g, x) :: r => if g = f then (g, d) :: r else (g, x) :: putFd f d r
theorem putF_is {f : Str} {v : V} {d : D} (i : Is K H v d) : ∀ {vs : List (Str × V)} {fs : List (Str × D)}, vs.map (·.1) = fs.map (·.1) → IsL K H (vs.map (·.2)) (fs.map (·.2)) → (putF f v vs).map (·.1) = (putFd f d fs).map (·.1) ∧ IsL K H ((putF f v vs).map (·.2)) ((putFd f d fs).map (·.2))
  | [], [], _, _ => ⟨rfl, .cons i .nil⟩
  | (g, x) :: vs, (g', y) :: fs, e, l => by
    simp only [List.map_cons, List.cons.injEq] at e
    rw [List.map_cons, List.map_cons] at l
    obtain ⟨e1, e2⟩ := e
    subst e1
    cases l with
    | cons a l =>
      obtain ⟨r1, r2⟩ := putF_is i e2 l
      unfold putF putFd
      by_cases h : g = f
      · rw [if_pos h, if_pos h]
        exact ⟨by simp [e2], .cons i l⟩
      · rw [if_neg h, if_neg h]
        exact ⟨by simp [r1], .cons a r2⟩
  | [], _ :: _, e, _ => by simp at e
  | _ :: _, [], e, _ => by simp at e
end
def gFld (n f : Str) : G1
  | .obj m fs, k => m = n ∧ ∃ x, fs.lookup f = some x ∧ k x
  | _, _ => False
@[simp ↓] theorem gFld_obj (n f m : Str) (fs : List (Str × D)) (k) : gFld n f (.obj m fs) k = (m = n ∧ ∃ x, fs.lookup f = some x ∧ k x) := (rfl)
section
variable {X : Cx} {Wx : WX} {P L I J J1 J2 : List Nat} {e a b c o value : Expr} {es : List Expr} {F Fo : FE} {A : FA} {B : Env → (Env → Env → Prop) → XP → Prop} {sl : List (Option Nat)} {pos pos' p apos : Pos} {k : Nat} {f : Addr} {G : DFn} {x m : Str} {io : List Nat} {ta tv : TE} {tA : TA} {C : Addr}
theorem de_fld (n : Str) (hc : IsCl X.K n C) (cl : Cls X.K C) (na : NoAttr X.K C m) (ha : DEo X Wx P I e ta F J) (hb : attributeBase e m X.env (eval e X.env) = eval e X.env := by rfl) : DE X Wx P I (.Attribute e m pos) (tFld X.K ta m) (fUn (gFld n m) F) J := by
  obtain ⟨pa, ka⟩ := ha
  refine de_of (pe_fld pa hb) fun W ρ σ Hb H Q post xp E f x q => ka W ρ σ Hb H _ _ xp E f x fun d ρ1 v Hb1 H1 f1 E1 s1 i1 => ?_
  cases d <;> first | exact f1.elim | skip
  obtain ⟨e0, d, hd, f1⟩ := f1
  subst e0
  obtain ⟨a, C', dx, vs, rfl, hc', hh, e1, l1⟩ := o_obj E1.sub i1
  obtain rfl := hc.eq hc'
  obtain ⟨w, hw, iw⟩ := look_is e1 l1 hd
  exact ⟨a, C, dx, vs, w, rfl, hh, cl, na, hw, q _ _ _ _ _ f1 E1 s1 iw⟩
/-- self.m = value, self a slot's own instance -/
def fPutF (i : Nat) (n m : Str) (F : FE) : FS := fun ρ S => F ρ (fun d ρ1 => ∃ fs, get ρ1 i = some (.obj n fs) ∧ fs.length < 1000 ∧ S.nx (put ρ1 i (some (.obj n (putFd m d fs))))) S.ex
@[simp ↓] theorem fPutF_ap (i : Nat) (n m : Str) (F : FE) (ρ : Env) (S : SPo) : fPutF i n m F ρ S = (F ρ (fun d ρ1 => ∃ fs, get ρ1 i = some (.obj n fs) ∧ fs.length < 1000 ∧ S.nx (put ρ1 i (some (.obj n (putFd m d fs))))) S.ex) := (rfl)
theorem ds_fld (i : Nat) (n : Str) {y : Str} (hc : IsCl X.K n C) (cl : Cls X.K C) (na : NoAttr X.K C m) (hv : DE X Wx P I value tv F J) (hj : i ∈ P ∨ i ∈ J := by decide) (hN : X.N[i]? = some y := by rfl) (hvx : Vis X.env.scope y := by first | exact Or.inl rfl | exact Or.inr (Or.inl rfl) | exact Or.inr (Or.inr rfl)) (hd : (y == ("__debug__" : Str)) = false := by decide)
    (hcd : (y == ("__classdict__" : Str)) = false := by decide) (hs : swapsWith value (some (.Attribute (.Name y p) m pos')) pos.line X.env = pure false := by rfl) :
    DS X Wx P L I (.Assign [.Attribute (.Name y p) m pos'] value pos) (fPutF i n m F) J := by
  obtain ⟨p1, k1⟩ := hv
  refine ⟨_, ps_fld (pe_var hN hvx hd hcd) p1 hs, fun W ρ σ Hb H D S E f q => k1 W ρ σ Hb H _ _ _ E f (q.xok σ) fun z ρ1 v Hb1 H1 f1 E1 s1 i1 => ?_⟩
  obtain ⟨fs, g, hl, f1⟩ := f1
  obtain ⟨a, ea, nb, ⟨C', dx, vs, hc', hh, e1, l1⟩, _, _⟩ := E1.cel i _ hj g
  obtain rfl := hc.eq hc'
  obtain ⟨r1, r2⟩ := putF_is (f := m) i1 e1 l1
  have lz : vs.length = fs.length := by
    have := congrArg List.length e1
    simpa using this
  exact ⟨_, ea, a, C, dx, vs, rfl, hh, cl, na, by rw [lz]; exact hl, q.nx _ _ _ _ f1 (E1.write hj g ea ⟨C, dx, _, hc, upd_same, r1, r2⟩) s1⟩
def isObj (n : Str) (d : D) : Prop := ∃ fs, d = .obj n fs
def isObjM (n m : Str) (d : D) : Prop := ∃ fs, d = .obj n fs ∧ fs.lookup m = none
@[simp] theorem isObj_obj (n m : Str) (fs : List (Str × D)) : isObj n (.obj m fs) = (m = n) := propext ⟨fun ⟨_, e⟩ => by cases e; rfl, fun e => ⟨fs, by rw [e]⟩⟩
@[simp] theorem isObjM_obj (n m k : Str) (fs : List (Str × D)) : isObjM n m (.obj k fs) = (k = n ∧ fs.lookup m = none) := propext ⟨fun ⟨_, e, l⟩ => by cases e; exact ⟨rfl, l⟩, fun ⟨e, l⟩ => ⟨fs, by rw [e], l⟩⟩
/-- a property: nothing is raised in it -/
def fProp (n : Str) (G : DFn) (F : FE) : FE := fun ρ post xp => F ρ (fun d ρ1 => isObj n d ∧ callD G [some d] (fun z _ => post z ρ1) noX .mk) xp
@[simp ↓] theorem fProp_ap (n : Str) (G : DFn) (F : FE) (ρ : Env) (post : Post) (xp : XP) : fProp n G F ρ post xp = (F ρ (fun d ρ1 => isObj n d ∧ callD G [some d] (fun z _ => post z ρ1) noX .mk) xp) := (rfl)
theorem de_propG {n : Str} {g q : Addr} (hc : IsCl X.K n C) (cl : Cls X.K C) (hp : PropOf X.K C m q g) (Fn : FnG X.prog X.w X.K X.mg X.base k g (spD X.K 1 [] G)) (hr : Room (k + 1) X.A) (hgu : X.A.guards = some [])
    (ho : DE X Wx P I o ta Fo J) (hab : attributeBase o m X.env (eval o X.env) = eval o X.env := by rfl) : DE X Wx P I (.Attribute o m pos) (tPropG C (spD X.K 1 [] G) ta) (fProp n G Fo) J := by
  refine de_of (pe_propG ho.pe cl hp Fn hr hgu hab) fun W ρ σ Hb H Q post xp E f x q => ho.ev W ρ σ Hb H _ _ xp E f x fun d ρ1 v Hb1 H1 f1 E1 s1 i1 => ?_
  obtain ⟨⟨fs, e⟩, f1⟩ := f1
  subst e
  obtain ⟨a, C', dx, vs, rfl, hc', hh, e1, l1⟩ := o_obj E1.sub (.inl i1)
  obtain rfl := hc.eq hc'
  have ar : Args X.K Hb1 σ [none] [V.ref a] [some (.obj n fs)] := ⟨⟨_, rfl, i1⟩, trivial⟩
  have hsl : ∀ j ∈ slots [none], j ∈ P ∨ j ∈ J := fun j h => by simp [slots] at h
  have hl : ∀ j ∈ slots [none], get ρ1 j ≠ none := fun j h => by simp [slots] at h
  refine ⟨a, dx, vs, rfl, hh, rfl, [some (.obj n fs)], Hb1, _, _, E1.lend ar hsl (by simp [slots]) hl, f1, fun d ρ' v Hb' H' p1 E2 is => ?_, fun c ρ' cls dx Hb' H' p1 => p1.elim⟩
  have E3 := E1.given ar hsl (by simp [slots]) hl E2 rfl
  have eu : unfill [none] ρ' ρ1 = ρ1 := by cases ρ' <;> rfl
  rw [eu] at E3
  exact q _ _ _ _ _ p1 E3 (s1.trans E2.stp.hb) is
end
section
variable {K : PySem.W.Frag} {W : Wd} {P J : List Nat} {ρ : Env} {σ : St} {Hb H : Hp} {n : Str} {C x dx : Addr} {vs : List V} {ds : List D}
theorem get_map_some : ∀ {ds : List D} {i : Nat} {d : D}, get (ds.map some) i = some d → ds[i]? = some d
  | [], _, _, h => by simp [get] at h
  | x :: r, 0, d, h => by simpa [get] using h
  | x :: r, i + 1, d, h => by
    have := get_map_some (ds := r) (i := i) (d := d) (by simpa [get] using h)
    simpa using this
theorem made_env (E : EnvOk K W P J ρ σ Hb H) (hc : IsCl K n C) (nx : H x = none) (nd : H dx = none) (ne : dx ≠ x) (l : IsL K Hb vs ds) :
    EnvOk K ⟨Hb, upd (upd H dx (.own x)) x (.ins C dx []), lentAt [0] (.ref x :: vs) (some (.obj n []) :: ds.map some) (upd (upd H dx (.own x)) x (.ins C dx [])), rootAt [0] (.ref x :: vs)⟩ [0] [] (some (.obj n []) :: ds.map some) ((V.ref x :: vs).map some) Hb (upd (upd H dx (.own x)) x (.ins C dx [])) where
  tab := ((E.more (o := .own x) nd).more (o := .ins C dx []) (by rw [upd_ne ne.symm]; exact nx)).tab
  sub := ((E.more (o := .own x) nd).more (o := .ins C dx []) (by rw [upd_ne ne.symm]; exact nx)).sub
  stp := Stp.refl _ _ _ _
  len := by simp [l.length]
  val := fun i d g nP _ => by
    cases i with
    | zero => exact absurd (List.mem_singleton.mpr rfl) nP
    | succ i =>
      obtain ⟨v, hv, iv⟩ := l.get (get_map_some (by simpa [get] using g))
      exact ⟨v, by simp [hv], iv⟩
  celF := fun i d hi g0 => by
    have e : i = 0 := by simpa using hi
    subst e
    have g := g0
    cases g
    refine ⟨x, rfl, ⟨C, dx, [], hc, upd_same, rfl, .nil⟩, fun _ => ⟨List.mem_singleton.mpr rfl, rfl⟩, fun a ha => ?_⟩
    have := flat_foot (d := .obj n []) rfl ha
    subst this
    exact ⟨E.sub.none nx, fun _ => .inl ⟨List.mem_singleton.mpr rfl, _, a, g0, rfl, ha⟩, fun q => by cases q⟩
  sepF := fun i j p q di dj a hi hj _ _ _ _ _ _ => by
    have e : i = 0 := by simpa using hi
    have e' : j = 0 := by simpa using hj
    rw [e, e']
theorem lent_only {p : Addr} {i : Nat} {H0 : Hp} (h : lentAt [0] (V.ref x :: vs) (some (.obj n []) :: ds.map some) H0 i p) : p = x := by
  obtain ⟨hi, d, q, g, e, ft⟩ := h
  have : i = 0 := by simpa using hi
  subst this
  cases g
  have e : (some (V.ref x) : Option V) = some (.ref q) := e
  cases e
  exact flat_foot (d := .obj n []) rfl ft
theorem made_back {ρ' : Env} {Hb' H' : Hp} (E : EnvOk K W P J ρ σ Hb H) (nx : H x = none) (nd : H dx = none) (ne : dx ≠ x)
    (E4 : EnvOk K ⟨Hb, upd (upd H dx (.own x)) x (.ins C dx []), lentAt [0] (.ref x :: vs) (some (.obj n []) :: ds.map some) (upd (upd H dx (.own x)) x (.ins C dx [])), rootAt [0] (.ref x :: vs)⟩ [0] [] ρ' ((V.ref x :: vs).map some) Hb' H') : EnvOk K W P J ρ σ Hb' H' := by
  have E3 := (E.more (o := .own x) nd).more (o := .ins C dx []) (p := x) (by rw [upd_ne ne.symm]; exact nx)
  obtain ⟨k1, k2⟩ := E.cells (H' := H') (W' := W) E4.stp.hb (fun i d q a u hi g e ha hu => by
    obtain ⟨q', e', c, _, f⟩ := E.celF i d hi g
    rw [e] at e'; cases e'
    obtain ⟨o, ho, nt⟩ := c.footS ha
    rw [hu] at ho; cases ho
    have ax : a ≠ x := ne_of_none hu nx
    have hq : upd (upd H dx (.own x)) x (.ins C dx []) a = some u := by rw [upd_ne ax, upd_ne (ne_of_none hu nd)]; exact hu
    exact ⟨E4.stp.own (f a ha).1 hq (c.nts ha hu) fun k hk => ax (lent_only hk), E4.stp.nb (f a ha).1 hq nt⟩) (fun _ _ _ _ _ _ _ _ => ⟨id, id⟩) (fun _ _ _ _ _ _ _ _ => id)
  refine ⟨E4.sub, E3.stp.trans E4.stp fun i p h => .inr (by rw [lent_only h]; exact E.stp.al x nx), E.len, fun i d g nP nJ => ?_, k1, k2, E4.tab⟩
  obtain ⟨v, e, is⟩ := E.val i d g nP nJ
  exact ⟨v, e, is.mono E4.stp.hb⟩
/-- the object that was made is new -/
theorem made_new {ρ' : Env} {Hb0 H0 Hb' H' : Hp} {d : D} (E0 : EnvOk K W P J ρ σ Hb0 H0) (E : EnvOk K W P J ρ σ Hb H) (s0 : Sub Hb0 Hb) (nx0 : H0 x = none) (nx : H x = none) (nd : H dx = none) (ne : dx ≠ x)
    (E4 : EnvOk K ⟨Hb, upd (upd H dx (.own x)) x (.ins C dx []), lentAt [0] (.ref x :: vs) (some (.obj n []) :: ds.map some) (upd (upd H dx (.own x)) x (.ins C dx [])), rootAt [0] (.ref x :: vs)⟩ [0] [] ρ' ((V.ref x :: vs).map some) Hb' H') (g : get ρ' 0 = some d) : NewAt K W P J ρ σ Hb' H' x d := by
  obtain ⟨p', ep, c, _, f⟩ := E4.celF 0 _ (.inl (List.mem_singleton.mpr rfl)) g
  have ep : (some (some (V.ref x)) : Option (Option V)) = some (some (.ref p')) := ep
  cases ep
  -- what it has was not there
  have nf : ∀ a, foot H' x d a → H a = none := fun a ha => by
    rcases (f a ha).2.1 (List.mem_singleton.mpr rfl) with h | h
    · rw [lent_only h]; exact nx
    · have h : upd (upd H dx (.own x)) x (.ins C dx []) a = none := h
      have ax : a ≠ x := fun z => by subst z; rw [upd_same] at h; cases h
      rw [upd_ne ax] at h
      have ad : a ≠ dx := fun z => by subst z; rw [upd_same] at h; cases h
      rw [upd_ne ad] at h
      exact h
  have E5 := made_back E nx nd ne E4
  refine ⟨c, fun a ha => ⟨(f a ha).1, E.stp.al a (nf a ha)⟩, fun i di q a hi g1 e1 ha fa => ?_⟩
  obtain ⟨q', e', c1, _, f1⟩ := E.celF i di hi g1
  rw [e1] at e'; cases e'
  have kp : ∀ b, foot H q di b → ∃ o, H b = some o ∧ H' b = some o := fun b hb => by
    obtain ⟨o, ho, nt⟩ := c1.footS hb
    have ax : b ≠ x := ne_of_none ho nx
    have hq : upd (upd H dx (.own x)) x (.ins C dx []) b = some o := by rw [upd_ne ax, upd_ne (ne_of_none ho nd)]; exact ho
    exact ⟨o, ho, E4.stp.own (f1 b hb).1 hq (c1.nts hb ho) fun k hk => ax (lent_only hk)⟩
  obtain ⟨o, e2, e3⟩ := kp q foot.root
  have fa := foot.cong (H := H) (by rw [e2, e3]) fa
  obtain ⟨o', e4, _⟩ := kp a fa
  rw [nf a ha] at e4; cases e4
end
section
variable {X : Cx} {Wx : WX} {P I J : List Nat} {e : Expr} {es : List Expr} {A : FA} {pos p : Pos} {k : Nat} {f : Addr} {G : DFn} {y : Str} {tA : TA} {C : Addr} {n : Str} {m : Nat}
end

/-! ### def f(a, .., *rest) -/
/-- the promise by the flat values: those behind the first j are one tuple -/
def spStar (j : Nat) (sp : Sp) : Sp := fun vs H Q E => ∃ ws rest, vs = ws ++ rest ∧ ws.length = j ∧ rest.length ≤ sizeLine ∧ ∀ p, H p = none → sp (ws ++ [V.ref p]) (upd H p (.tup rest)) Q E
section
variable {P : Program} {w : World} {K : PySem.W.Frag} {mg : Str → Option Value} {base : Heap} {k : Nat} {f : Addr} {sp : Sp}
theorem fnG_star {x qual : Str} {st : Stmt} {fd : FuncData} {N ps : List Str} {pv : Str} (F : FunG K x qual st f fd) (S : FnScope N (ps ++ [pv]) (defScope st))
    (B : ∀ us rest : List Value, us.length = ps.length → bindArgs fd ⟨us ++ rest, []⟩ = (newTuple rest >>= fun t => pure (ps.zip us ++ [(pv, t)])))
    (body : ∀ (cdv : Value) (A : Around) (o : List PySem.Env) (s : Shared) (H : Hp) (vs : List V) (Q : VK) (E : XK), Room k (A.deeper (envOfC qual (defScope st) s.heap.objs.size f cdv)) → A.guards = some [] → sp vs H Q E →
      ∃ t, PSs (cxOf (L2.CX P w) P w K mg base N qual (defScope st) f cdv A o s H E) (defBody st) t ∧ t { nx := fun _ H' => Q .non H', rt := Q } (L2.start N vs) H) : FnG P w K mg base (k + 1) f (spStar ps.length sp) := by
  intro A o s H us vs Q E room hg ev rel hsp
  obtain ⟨ws, rest, rfl, lw, lr, hq⟩ := hsp
  obtain ⟨u1, u2, rfl, r1, r2⟩ := StX.vals_split rel
  obtain ⟨oc, od, dV, kV, doc, pm, an, cdv, ct, osl, rfl, lk, hcd⟩ := F.ex
  have n1 : u1.length = ps.length := by rw [← r1.length]; exact lw
  have fresh : H s.heap.objs.size = none := ev.hok.fresh (Nat.le_refl _)
  refine StX.run_bnd (CX := L2.CX P w) lk hcd S room ev (G := fun xs H2 => ∃ p, H p = none ∧ xs = ws ++ [V.ref p] ∧ H2 = upd H p (.tup rest)) (fun A' Ex Q' h => ?_) fun s2 H2 xs ⟨p, hp, ex, eH⟩ room' => ?_
  · rw [B u1 u2 n1]
    refine wpAny_bind (wpAny_newTuple (wpAny_pure ?_) (by rw [← r2.length]; exact lr))
    let ob : Obj := { cls := .type "tuple", data := .seq u2.toArray }
    have new : ObjOk P w (upd H s.heap.objs.size (.tup rest)) (s.heap.push ob) s.heap.objs.size (.tup rest) := ⟨lr, u2, r2, ⟨_, Heap.get?_push_size _ rfl, rfl, _, rfl⟩⟩
    have un := StX.un_laid (fs := frs o) (s := s) (o := ob) (u := .tup rest) fresh
    have done := h _ _ (ws ++ [V.ref s.heap.objs.size]) (u1 ++ [Value.ref s.heap.objs.size]) (StX.env0_laid ev new) un rfl (fun e s' => StX.cxUp o s H _ _ E e s' un (fun b o q => Heap.get?_push_of_some _ q) rfl) (r1.append (.cons rfl .nil))
      (by simp [lw]) ⟨_, fresh, rfl, rfl⟩
    rw [List.zip_append n1.symm] at done
    exact done
  · subst ex eH
    exact body cdv A o s2 _ _ Q E room' hg (hq p hp)
end
end DL

/-! DG3: star defs over data, in by an own __contains__, isinstance of own classes. -/
namespace DL
open PySem L2
open PyProof.Rows hiding St

/-! ### star defs -/
section
variable {P : Program} {w : World} {K : PySem.W.Frag} {mg : Str → Option Value} {base : Heap}
theorem okGS_of {x qual : Str} {st : Stmt} {f : Addr} {fd : FuncData} {N ps : List Str} {pv : Str} {k n : Nat} {io : List Nat} {J : List Nat} {G : DFn} {Fd : FS} (F : FunG K x qual st f fd)
    (B : ∀ us rest : List Value, us.length = ps.length → bindArgs fd ⟨us ++ rest, []⟩ = (newTuple rest >>= fun t => pure (ps.zip us ++ [(pv, t)]))) (S : FnScope N (ps ++ [pv]) (defScope st))
    (hb : ∀ (cdv : Value) (A : Around) (outer : List PySem.Env) (s : Shared) (H : Hp) (E : XK), Room k (A.deeper (envOfC qual (defScope st) s.heap.objs.size f cdv)) → A.guards = some [] →
      DSs (cxOf (L2.CX P w) P w K mg base N qual (defScope st) f cdv A outer s H E) (WofE E) io [] [] (defBody st) Fd J)
    (hg : ∀ (ρ : DL.Env) (post : Post) (xp : XP), ρ.length = n → G ρ post xp → Fd (ρ ++ List.replicate (N.length - n) none) (endS io n post xp)) : FnG P w K mg base (k + 1) f (spStar ps.length (spD K n io G)) := by
  refine fnG_star F S B fun cdv A outer s H vs Q E hr gu h => ?_
  obtain ⟨hl, ρ, Hb, post, xp, E0, g, q1, q2⟩ := h
  obtain ⟨t, pt, kt⟩ := (hb cdv A outer s H E hr gu).run
  refine ⟨t, pt, ?_⟩
  have hρ : ρ.length = n := by rw [← E0.len, List.length_map, hl]
  have e1 : L2.start N vs = vs.map some ++ List.replicate (N.length - n) none := by unfold L2.start; rw [hl]
  rw [e1]
  refine kt ⟨Hb, H, lentAt io vs ρ H, rootAt io vs⟩ _ _ Hb H _ _ E0.entry (hg ρ post xp hρ g) ⟨fun ρ' σ' Hb' H' a E' s' => ?_, fun d ρ' σ' v Hb' H' a E' is => ?_, fun _ _ _ _ a => a.elim, fun _ _ _ _ a => a.elim, fun c ρ' cls dx σ' Hb' H' a E' xi => ?_⟩
  · exact q1 _ _ _ _ _ a (E'.masked hl) .non
  · exact q1 _ _ _ _ _ a (E'.masked hl) is
  · exact q2 _ _ _ _ _ _ a (E'.masked hl) xi
end
def fMakeS (n : Str) (G : DFn) (A : FA) : FE := fun ρ post xp => A ρ (fun ds ρ1 => ds.length ≤ 1000 ∧ callD G [some (.obj n []), some (.tup ds)] (fun d r => d = .non ∧ ∃ fs, get r 0 = some (.obj n fs) ∧ post (.obj n fs) ρ1) (fun c _ => xp c ρ1) .mk) xp
@[simp ↓] theorem fMakeS_ap (n : Str) (G : DFn) (A : FA) (ρ : Env) (post : Post) (xp : XP) : fMakeS n G A ρ post xp = (A ρ (fun ds ρ1 => ds.length ≤ 1000 ∧ callD G [some (.obj n []), some (.tup ds)] (fun d r => d = .non ∧ ∃ fs, get r 0 = some (.obj n fs) ∧ post (.obj n fs) ρ1) (fun c _ => xp c ρ1) .mk) xp) := (rfl)
section
variable {X : Cx} {Wx : WX} {P I J J1 : List Nat} {a b e : Expr} {es : List Expr} {A : FA} {pos p : Pos} {k : Nat} {f : Addr} {G : DFn} {y : Str} {tA : TA} {ta tb : TE} {C : Addr} {n : Str} {m : Nat} {Fa Fb : FE}
theorem makeS_core {t : TA} (hc : IsCl X.K n C) (hPJ : ∀ j ∈ J, j ∉ P)
    (ka : ∀ (W : Wd) (ρ : Env) (σ : St) (Hb H : Hp) (Q : List V → Hp → Prop) (post : List D → Env → Prop) (xp : XP), EnvOk X.K W P I ρ σ Hb H → A ρ post xp → XOk X Wx W P σ xp →
    (∀ ds ρ' vs Hb' H', post ds ρ' → EnvOk X.K W P J ρ' σ Hb' H' → Sub Hb Hb' → IsL X.K Hb' vs ds → Q vs H') → t σ H Q) :
    ∀ (W : Wd) (ρ : Env) (σ : St) (Hb H : Hp) (Q : VK) (post : Post) (xp : XP), EnvOk X.K W P I ρ σ Hb H → fMakeS n G A ρ post xp → XOk X Wx W P σ xp →
    (∀ d ρ' p Hb' H', post d ρ' → EnvOk X.K W P J ρ' σ Hb' H' → Sub Hb Hb' → NewAt X.K W P J ρ' σ Hb' H' p d → Q (.ref p) H') → tMakeG C (spStar 1 (spD X.K 2 [0] G)) (WE Wx) t σ H Q := by
  intro W ρ σ Hb H Q post xp E h x q
  refine ka W ρ σ Hb H _ _ xp E h x fun ds ρ1 vs Hb1 H1 f1 E1 s1 l1 a dx nx nd ne => ?_
  obtain ⟨hm, f1⟩ := f1
  refine ⟨[.ref a], vs, rfl, rfl, by rw [l1.length]; exact Nat.le_trans hm (by decide), fun pt ft => ?_⟩
  -- the tuple first, as plain data of the caller
  have fa : pt ≠ a := fun z => by subst z; rw [upd_same] at ft; cases ft
  have fd : pt ≠ dx := fun z => by subst z; rw [upd_ne ne, upd_same] at ft; cases ft
  have f1n : H1 pt = none := by rw [upd_ne fa, upd_ne fd] at ft; exact ft
  have Et := E1.alloc (o := .tup vs) f1n
  have nbt : Hb1 pt = none := E1.sub.none f1n
  have lt : IsL X.K (upd Hb1 pt (.tup vs)) [V.ref pt] [D.tup ds] := .cons (.tup upd_same (l1.mono (Sub.new nbt))) .nil
  have nx' : upd H1 pt (.tup vs) a = none := by rw [upd_ne fa.symm]; exact nx
  have nd' : upd H1 pt (.tup vs) dx = none := by rw [upd_ne fd.symm]; exact nd
  have comm : upd (upd (upd H1 dx (.own a)) a (.ins C dx [])) pt (.tup vs) = upd (upd (upd H1 pt (.tup vs)) dx (.own a)) a (.ins C dx []) := by
    funext z
    by_cases z1 : z = pt
    · subst z1; rw [upd_same, upd_ne fa, upd_ne fd, upd_same]
    · by_cases z2 : z = a
      · subst z2; rw [upd_ne z1, upd_same, upd_same]
      · by_cases z3 : z = dx
        · subst z3; rw [upd_ne z1, upd_ne z2, upd_same, upd_ne z2, upd_same]
        · rw [upd_ne z1, upd_ne z2, upd_ne z3, upd_ne z2, upd_ne z3, upd_ne z1]
  show spD X.K 2 [0] G [V.ref a, V.ref pt] _ _ _
  rw [comm]
  refine ⟨rfl, _, _, _, _, made_env Et hc nx' nd' ne lt, f1, fun d ρ' v Hb' H' p1 E4 is => ?_, fun c ρ' cls dx' Hb' H' p1 E4 xi => ?_⟩
  · obtain ⟨e, fs, g, p1⟩ := p1
    subst e
    refine ⟨is_non is, q _ _ _ _ _ p1 (made_back Et nx' nd' ne E4) ((s1.trans (Sub.new nbt)).trans E4.stp.hb) (made_new E1 Et (Sub.new nbt) nx nx' nd' ne E4 g)⟩
  · obtain ⟨Hb3, E5, s5⟩ := (made_back Et nx' nd' ne E4).drop (J := []) (fun j q => by cases q) hPJ
    refine x c _ cls dx' Hb3 H' p1 E5 ?_
    obtain ⟨e, r | ⟨d, us, e1, e2, e3, e4⟩⟩ := xi
    · exact ⟨e, .inl r⟩
    · exact ⟨e, .inr ⟨d, us, e1, s5.at e2, e3, e4.mono s5⟩⟩
theorem dn_makeS {fi : Addr} (M : Mk X.K C fi) (hc : IsCl X.K n C) (Fn : FnG X.prog X.w X.K X.mg X.base k fi (spStar 1 (spD X.K 2 [0] G))) (hr : Room (k + 1) X.A) (hgu : X.A.guards = some []) (hm : X.mg y = some (.ref C)) (tk : Takes X Wx) (ha : DA X Wx P I (e :: es) tA A J)
    (hPJ : ∀ j ∈ J, j ∉ P := by decide) (hg : Gl X y := by rfl) (hdb : (y == ("__debug__" : Str)) = false := by decide) (he : starEach (e :: es) X.env = (false, eval e X.env) :: starEach es X.env := by rfl) (hpl : (backTo pos (starEach es X.env)).any (·.1) = false := by rfl) :
    DNw X Wx P I (.Call (.Name y p) (e :: es) [] pos) (tMakeG C (spStar 1 (spD X.K 2 [0] G)) (WE Wx) tA) (fMakeS n G A) J :=
  ⟨pe_makeG M Fn hr hgu hg hm (fun σ => passAt tk σ) ha.pe hdb he hpl, makeS_core hc hPJ ha.ev⟩
theorem dn_makeS0 {fi : Addr} (M : Mk X.K C fi) (hc : IsCl X.K n C) (Fn : FnG X.prog X.w X.K X.mg X.base k fi (spStar 1 (spD X.K 2 [0] G))) (hr : Room (k + 1) X.A) (hgu : X.A.guards = some []) (hm : X.mg y = some (.ref C)) (tk : Takes X Wx)
    (hPJ : ∀ j ∈ I, j ∉ P := by decide) (hg : Gl X y := by rfl) (hdb : (y == ("__debug__" : Str)) = false := by decide) :
    DNw X Wx P I (.Call (.Name y p) [] [] pos) (tMakeG C (spStar 1 (spD X.K 2 [0] G)) (WE Wx) tNil) (fMakeS n G fNil) I :=
  ⟨pe_makeG0 M Fn hr hgu hg hm (fun σ => passAt tk σ) hdb, makeS_core hc hPJ (da_nil (X := X) (Wx := Wx)).ev⟩

end
end DL

/-! DG4: while by a measure; numbers. -/
namespace DL
open PySem L2
end DL

/-! DG5: code that is never reached, constants of classes, C(*xs), tuple > tuple. -/
namespace DL
open PySem L2 ClX
open PyProof.Rows hiding St
section
variable {X : Cx} {Wx : WX} {P L I J J1 J2 : List Nat} {e a b : Expr} {es : List Expr} {F Fa Fb : FE} {A : FA} {pos p apos : Pos} {k : Nat} {f : Addr} {G : DFn} {x m y n : Str} {ta tb : TE} {tA : TA} {C : Addr} {st : Stmt}
end
section
variable {X : Cx} {k : Nat} {C f : Addr} {sp : Sp} {E : St → XK} {x : Str} {e : Expr} {p pos sp_ : Pos} {te : TE}
def tStar1 (K : PySem.W.Frag) (te : TE) : TA := fun σ H Q => te σ H fun y H1 => ∃ a xs, y = V.ref a ∧ (SqT K H1 a xs ∨ SqL K H1 a xs) ∧ Q xs H1
theorem pe_makeGS1 (M : Mk X.K C f) (F : FnG X.prog X.w X.K X.mg X.base k f sp) (hr : Room (k + 1) X.A) (hgu : X.A.guards = some []) (hg : Gl X x) (hm : X.mg x = some (.ref C)) (hx : ∀ σ, PassesAt (L2.CX X.prog X.w) X σ (E σ)) (he : PE X e te)
    (hdb : (x == ("__debug__" : Str)) = false := by decide) (hst : starEach [.Starred e sp_] X.env = [(true, eval e X.env)] := by rfl) :
    PE X (.Call (.Name x p) [.Starred e sp_] [] pos) (tMakeG C sp E (tStar1 X.K te)) := ⟨fun pins s σ H Q I h =>
  wpAny_Call_Name_kw (ld_glob I hg hm (PySem.W.callWith_S (h₀ := X.base) I.ok.mod.kin M.kp (thn (he.run pins s σ H _ I h) fun v s1 ⟨y, H1, I1, ry, a, xs, ey, hxs, q⟩ => by
    subst ey
    obtain rfl : v = Value.ref a := ry
    exact StX.star_any I1 hxs fun us s2 I2 rv => ⟨I2.kIn, run_makeG M F hr hgu hx I2 rv q⟩) hst) hdb)⟩
end
def fStar (F : FE) : FA := fun ρ post xp => F ρ (fun d ρ1 => ∃ es, (tupD d = some es ∨ lstD d = some es) ∧ post es ρ1) xp
section
variable {X : Cx} {Wx : WX} {P L I J J1 J2 : List Nat} {e a b : Expr} {es : List Expr} {F Fa Fb : FE} {A : FA} {pos p apos sp_ : Pos} {k : Nat} {f : Addr} {G : DFn} {x m y n : Str} {ta tb te : TE} {tA : TA} {C : Addr} {st : Stmt}
/-- C(*xs) -/
theorem dn_makeSS {fi : Addr} (M : Mk X.K C fi) (hc : IsCl X.K n C) (Fn : FnG X.prog X.w X.K X.mg X.base k fi (spStar 1 (spD X.K 2 [0] G))) (hr : Room (k + 1) X.A) (hgu : X.A.guards = some []) (hm : X.mg y = some (.ref C)) (tk : Takes X Wx) (ha : DE X Wx P I e te F J)
    (hPJ : ∀ j ∈ J, j ∉ P := by decide) (hg : Gl X y := by rfl) (hdb : (y == ("__debug__" : Str)) = false := by decide) (hst : starEach [.Starred e sp_] X.env = [(true, eval e X.env)] := by rfl) :
    DNw X Wx P I (.Call (.Name y p) [.Starred e sp_] [] pos) (tMakeG C (spStar 1 (spD X.K 2 [0] G)) (WE Wx) (tStar1 X.K te)) (fMakeS n G (fStar F)) J :=
  ⟨pe_makeGS1 M Fn hr hgu hg hm (fun σ => passAt tk σ) ha.pe hdb hst, makeS_core hc hPJ fun W ρ σ Hb H Q post xp E f x q => ha.ev W ρ σ Hb H _ _ xp E f x fun d ρ1 v Hb1 H1 f1 E1 s1 i1 => by
    obtain ⟨xs, hxs, f1⟩ := f1
    have i2 : IsO X.K Hb1 H1 v d := .inl i1
    obtain ⟨a, vs, e1, h1, l1⟩ := o_seqD E1.sub i2 hxs
    exact ⟨a, vs, e1, h1.symm, q _ _ _ _ _ f1 E1 s1 l1⟩⟩
end
/-! ### tuple > tuple -/
def rGtT (K : PySem.W.Frag) : R2 := fun x y H Q => ∃ (a b : Addr) (ns ms : List Int), x = .ref a ∧ y = .ref b ∧ SqT K H a (ns.map V.int) ∧ SqT K H b (ms.map V.int) ∧
  Q (.bl (Ob.lexAt (fun j => decide (ns.getD j 0 = ms.getD j 0)) (fun j => decide (ms.getD j 0 < ns.getD j 0)) (decide (ns.length > ms.length)) 0 (min ns.length ms.length))) H
theorem op_gtT {X : Cx} (hu : X.A.units < cLine) : OpR X (compareOp .Gt) (rGtT X.K) := by
  intro pins s σ H x y v u Q I rx ry h
  obtain ⟨a, b, ns, ms, rfl, rfl, ha, hb, q⟩ := h
  cases rx
  cases ry
  obtain ⟨its, r1, p1, _⟩ := I.tuple ha
  obtain ⟨its2, r2, p2, _⟩ := I.tuple hb
  have i1 : IntsAre its ns := Vals.ints r1
  have i2 : IntsAre its2 ms := Vals.ints r2
  have e1 : its.toArray.size = ns.length := by rw [List.size_toArray]; exact i1.length
  have e2 : its2.toArray.size = ms.length := by rw [List.size_toArray]; exact i2.length
  have at1 : ∀ j (h1 : j < its.toArray.size), ∃ t, its.toArray[j] = .int (ns.getD j 0) t := fun j h1 => PyProof.Rows.IntsAre.int_at i1 _ _ (by simp at h1; simp [h1])
  have at2 : ∀ j (h1 : j < its2.toArray.size), ∃ t, its2.toArray[j] = .int (ms.getD j 0) t := fun j h1 => PyProof.Rows.IntsAre.int_at i2 _ _ (by simp at h1; simp [h1])
  have R := Ob.RcOp.tuples_gt (A := X.A) (s := s) (e := fun j => decide (ns.getD j 0 = ms.getD j 0)) (r := fun j => decide (ms.getD j 0 < ns.getD j 0)) p1 p2 hu (fun j h1 h2 => by
    obtain ⟨t, et⟩ := at1 j h1
    obtain ⟨t', et'⟩ := at2 j h2
    rw [et, et']
    have z : (ns.getD j 0 == ms.getD j 0) = decide (ns.getD j 0 = ms.getD j 0) := by
      by_cases q : ns.getD j 0 = ms.getD j 0
      · rw [decide_eq_true q]; exact beq_iff_eq.mpr q
      · rw [decide_eq_false q]; exact beq_eq_false_iff_ne.mpr q
    rw [← z]
    exact SeqAt.EqAt.int_int _ _ _ _) (fun j h1 h2 _ => by
    obtain ⟨t, et⟩ := at1 j h1
    obtain ⟨t', et'⟩ := at2 j h2
    rw [et, et']
    exact Ob.RcOp.gt_int _ _ _ _)
  rw [e1, e2] at R
  have z : wpAny (model X.prog X.w) X.A (compareOp .Gt (.ref a) (.ref b)) (EP X pins σ Q) X.xe s := R X.prog X.w X.xe (EP X pins σ Q) ⟨.bl _, H, I, rfl, q⟩
  exact z
abbrev rGtU (K : PySem.W.Frag) : R2 := fun x y H Q => (rI0 fun i j => .bl (decide (j < i))) x y H Q ∨ rGtT K x y H Q
theorem op_gtU {X : Cx} (hu : X.A.units < cLine) : OpR X (compareOp .Gt) (rGtU X.K) := op_gt.or (op_gtT hu)
def gGtU : G2
  | .int i, .int j, k => k (.bl (decide (j < i)))
  | x, y, k => ∃ a b ns ms, tupD x = some a ∧ tupD y = some b ∧ dInts a = some ns ∧ dInts b = some ms ∧ k (.bl (Ob.lexAt (fun j => decide (ns.getD j 0 = ms.getD j 0)) (fun j => decide (ms.getD j 0 < ns.getD j 0)) (decide (ns.length > ms.length)) 0 (min ns.length ms.length)))
@[simp ↓] theorem gGtU_int (i j : Int) (k) : gGtU (.int i) (.int j) k = k (.bl (decide (j < i))) := (rfl)
theorem rv_gtU {K : PySem.W.Frag} : RV2 K (rGtU K) gGtU := fun Hb H x y dx dy k Q s ix iy g q => by
  unfold gGtU at g
  split at g
  · exact .inl ⟨_, _, o_int ix, o_int iy, q _ _ _ _ g .refl (.bl _)⟩
  · obtain ⟨a, b, ns, ms, e1, e2, e3, e4, g⟩ := g
    obtain ⟨p, h1, h2⟩ := tups_ints s ix e1 e3
    obtain ⟨p', h3, h4⟩ := tups_ints s iy e2 e4
    exact .inr ⟨p, p', ns, ms, h1, h3, h2, h4, q _ _ _ _ g .refl (.bl _)⟩
@[simp ↓] theorem gEqU_tup0 (a : List D) (k) : gEqU (.tup a) (.tup []) k = k (.bl (decide (a = []))) := by
  have e : empty2 (.tup a) (.tup []) = some (decide (a = [])) := by simp [empty2, List.length_eq_zero_iff]
  show (match empty2 (.tup a) (.tup []) with | some b => k (.bl b) | none => _) = _
  rw [e]
@[simp ↓] theorem gNeU_tup0 (a : List D) (k) : gNeU (.tup a) (.tup []) k = k (.bl (!decide (a = []))) := by
  have e : empty2 (.tup a) (.tup []) = some (decide (a = [])) := by simp [empty2, List.length_eq_zero_iff]
  show (match empty2 (.tup a) (.tup []) with | some b => k (.bl (!b)) | none => _) = _
  rw [e]
theorem gList_tup (a : List D) (k : D → Prop) (h : k (.lst a)) : gList [.tup a] k := ⟨_, _, rfl, .inl rfl, h⟩
theorem gList_lst (a : List D) (k : D → Prop) (h : k (.lst a)) : gList [.lst a] k := ⟨_, _, rfl, .inr rfl, h⟩
end DL

/-! DG6: == and != by an own __eq__, either side. -/
namespace DE6
open PySem PySem.Spec PyProof.Rows PySem.SeqAt
section
variable {prog : Program} {w : World} {A : Around} {E : Value → Shared → Prop} {s : Shared} {K : PySem.W.Frag} {x C f : Addr} {ox : Obj} {od : Option Obj} {b tb : Value}
theorem ifBound_ne {M : Model} {args : List Value} {Q : Option Value → Shared → Prop} (X : K.In s.heap) (I : PySem.W.InstAt s.heap x ox C od) (hs : PySem.W.findIn K (.ref C) "__ne__" = some (some (.builtin "object.__ne__")))
    (h : wpAny M A (call (.builtin "object.__ne__") (.ref x :: args)) (fun v => Q (some v)) E s) : wpAny M A (callSpecialIfBound? (.ref x) "__ne__" args) Q E s := by
  simp only [callSpecialIfBound?, bindSpecialIfBound?]
  refine wpAny_holding (wpAny_bind (wpAny_bind (wpAny_bind (I.type.here ((PySem.W.looks_findIn X hs).here ?_)))))
  refine wpAny_bind (wpAny_askSetting (wpAny_ite ?_))
  have fin : wpAny M A (call (.builtin "object.__ne__") ([.ref x] ++ args) >>= fun v => pure (some v)) Q E s := wpAny_bind (wpAny_mono h (fun v s' h' => wpAny_pure h') fun _ _ h' => h')
  split
  · exact wpAny_bind (wpAny_of_eq (F.cmp_object.ne.bind _) (wpAny_pure (by exact fin)))
  · exact wpAny_tryCatch (wpAny_bind (wpAny_of_eq (F.cmp_object.ne.bind _) (wpAny_pure (by exact fin))))
theorem special_eqK {M : Model} {Q : Option Value → Shared → Prop} (X : K.In s.heap) (I : PySem.W.InstAt s.heap x ox C od) (hs : PySem.W.findIn K (.ref C) "__eq__" = some (some (.ref f))) (hf : PySem.W.isFn K (.ref f) = true)
    (h : wpAny M A (call (.ref f) [.ref x, b]) (fun v => Q (some v)) E s) : wpAny M A (callSpecialIfBound? (.ref x) "__eq__" [b]) Q E s := PySem.W.ifBound_K X I hs hf h
theorem entry_ne {Q : Fin → Shared → Prop} (X : K.In s.heap) (I : PySem.W.InstAt s.heap x ox C od) (hu : A.units < cLine) (hs : PySem.W.findIn K (.ref C) "__eq__" = some (some (.ref f))) (hf : PySem.W.isFn K (.ref f) = true)
    (h : wpAny (model prog w) A (call (.ref f) [.ref x, b]) (fun v s' => ∃ c : Bool, v = .bool c ∧ Q (.done (.ret (.bool (!c)))) s') E s) : wpAny (model prog w) A (Builtin.«object.__ne__» ⟨[.ref x, b], []⟩) Q E s := by
  unfold Builtin.«object.__ne__»
  repeat (first | with_reducible refine wpAny_cRoomFor hu ?_ | with_reducible refine special_eqK X I hs hf ?_ | with_reducible refine wpAny_mono h ?_ fun _ _ e => e | wp_step)
  rintro v s' ⟨c, rfl, q⟩
  exact wpAny_bind (wpAny_truthy_bool (wpAny_pure q))
theorem call_ne {Q : Value → Shared → Prop} (X : K.In s.heap) (I : PySem.W.InstAt s.heap x ox C od) (hm : PySem.W.mroIn K C (.type "object") = some true) (hu : A.units + 1 < cLine) (hs : PySem.W.findIn K (.ref C) "__eq__" = some (some (.ref f))) (hf : PySem.W.isFn K (.ref f) = true)
    (h : wpAny (model prog w) A.in1 (call (.ref f) [.ref x, b]) (fun v s' => ∃ c : Bool, v = .bool c ∧ Q (.bool (!c)) s') E s) : wpAny (model prog w) A (call (.builtin "object.__ne__") [.ref x, b]) Q E s :=
  wpAny_call (codeAny_call_builtin F.cmp_object.ne.plain F.cmpEntry_ne (PySem.W.check_slot F.cmpKind_ne F.cmpSplit_ne (I.type.andThen (PySem.W.looks_mroIn X hm)) (F.cmpArgs_ne _ _) (entry_ne X I hu hs hf h)))
theorem cmp_ne {Q : Value → Shared → Prop} (hu : A.units + 1 < cLine) (X : K.In s.heap) (I : PySem.W.InstAt s.heap x ox C od) (hb : PySem.W.Looks (model prog w) s.heap (typeOf b) tb) (hn : PySem.W.notFirst K C tb = true)
    (hm : PySem.W.mroIn K C (.type "object") = some true) (hne : PySem.W.findIn K (.ref C) "__ne__" = some (some (.builtin "object.__ne__"))) (hs : PySem.W.findIn K (.ref C) "__eq__" = some (some (.ref f))) (hf : PySem.W.isFn K (.ref f) = true)
    (h : wpAny (model prog w) A.in1 (call (.ref f) [.ref x, b]) (fun v s' => ∃ c : Bool, v = .bool c ∧ Q (.bool (!c)) s') E s) : wpAny (model prog w) A (richCompare .NotEq (.ref x) b) Q E s := by
  have one : wpAny (model prog w) A (tryCompare (.ref x) "__ne__" b) (fun r s' => ∃ c : Bool, r = some (.bool c) ∧ Q (.bool c) s') E s := by
    unfold tryCompare
    refine wpAny_bind (ifBound_ne X I hne (call_ne X I hm hu hs hf (wpAny_mono h (fun v s' hv => ?_) fun _ _ e => e)))
    obtain ⟨c, rfl, q⟩ := hv
    exact ⟨c, rfl, wpAny_pure ⟨_, rfl, q⟩⟩
  unfold richCompare
  simp only [oneThing_ref]
  refine wpAny_holding (wpAny_bind (wpAny_cRoomFor (by omega) ?_))
  refine wpAny_bind (I.type.here (wpAny_bind (hb.here ?_)))
  split
  · rename_i q
    have e : PySem.W.subIn K tb (.ref C) = some false := by
      rcases Bool.or_eq_true_iff.mp hn with e | e
      · rw [beq_iff_eq.mp e] at q; simp at q
      · exact beq_iff_eq.mp e
    refine wpAny_bind ((PySem.W.looks_subIn X e).here ?_)
    simp only [Bool.false_eq_true, if_false]
    refine wpAny_bind (wpAny_mono one (fun r s' z => ?_) fun _ _ e => e)
    obtain ⟨v, rfl, hq⟩ := z
    exact wpAny_pure hq
  · refine wpAny_bind (wpAny_pure ?_)
    simp only [Bool.false_eq_true, if_false]
    refine wpAny_bind (wpAny_mono one (fun r s' z => ?_) fun _ _ e => e)
    obtain ⟨v, rfl, hq⟩ := z
    exact wpAny_pure hq
/-- v declines to compare with the instance x -/
def Declines (s : Shared) (x : Addr) (v : Value) (nm : Str) : Prop := ∀ (prog : Program) (w : World) (A : Around) (E : Value → Shared → Prop) (Q : Option Value → Shared → Prop), Q none s → wpAny (model prog w) A (tryCompare v nm (.ref x)) Q E s
theorem dec_none_eq : Declines s x .none "__eq__" := fun prog w A E Q q =>
  wpAny_tryCompare_declines (show s.TypeIs .none "NoneType" from rfl) F.slot_NoneType_eq (call_gives F.slot_NoneType_eq rfl F.entry_NoneType_eq (F.args_NoneType_eq_2 _ _) (NoneType___eq___none_ref_0 x) ⟨rfl, q⟩)
theorem dec_none_ne : Declines s x .none "__ne__" := fun prog w A E Q q =>
  wpAny_tryCompare_declines (show s.TypeIs .none "NoneType" from rfl) F.slot_NoneType_ne (call_gives F.slot_NoneType_ne rfl F.entry_NoneType_ne (F.args_NoneType_ne_2 _ _) (NoneType___ne___none_ref_0 x) ⟨rfl, q⟩)
theorem isInst_no {M : Model} {T : String} {Q : Bool → Shared → Prop} (X : K.In s.heap) (I : PySem.W.InstAt s.heap x ox C od) (hm : PySem.W.mroIn K C (.type T) = some false) (q : Q false s) : wpAny M A (isInstance (.ref x) (.type T)) Q E s :=
  by
  show wpAny M A (typeOf (.ref x) >>= fun t => isSubtype t (.type T)) Q E s
  exact (PySem.W.Looks.andThen (f := fun t => isSubtype t (.type T)) I.type (PySem.W.looks_mroIn X hm)).here q
theorem tup_eq_no {M : Model} {l : Value} {Q : Fin → Shared → Prop} (X : K.In s.heap) (I : PySem.W.InstAt s.heap x ox C od) (hm : PySem.W.mroIn K C (.type "tuple") = some false) (q : Q (.done (.ret .notImplemented)) s) : wpAny M A (Builtin.«tuple.__eq__» ⟨[l, .ref x], []⟩) Q E s := by
  unfold Builtin.«tuple.__eq__»
  repeat (first | with_reducible refine isInst_no X I hm ?_ | wp_step)
  exact q
theorem tup_ne_no {M : Model} {l : Value} {Q : Fin → Shared → Prop} (X : K.In s.heap) (I : PySem.W.InstAt s.heap x ox C od) (hm : PySem.W.mroIn K C (.type "tuple") = some false) (q : Q (.done (.ret .notImplemented)) s) : wpAny M A (Builtin.«tuple.__ne__» ⟨[l, .ref x], []⟩) Q E s := by
  unfold Builtin.«tuple.__ne__»
  repeat (first | with_reducible refine isInst_no X I hm ?_ | wp_step)
  exact q
theorem int_eq_no {M : Model} {i : Int} {t : Tok} {dx : Addr} {Q : Fin → Shared → Prop} (hx : s.heap.get? x = some (PySem.W.instObj C dx)) (q : Q (.done (.ret .notImplemented)) s) : wpAny M A (Builtin.«int.__eq__» ⟨[.int i t, .ref x], []⟩) Q E s := by
  unfold Builtin.«int.__eq__»
  repeat (first | with_reducible refine wpAny_load hx ?_ | wp_step)
  exact q
theorem int_ne_no {M : Model} {i : Int} {t : Tok} {dx : Addr} {Q : Fin → Shared → Prop} (hx : s.heap.get? x = some (PySem.W.instObj C dx)) (q : Q (.done (.ret .notImplemented)) s) : wpAny M A (Builtin.«int.__ne__» ⟨[.int i t, .ref x], []⟩) Q E s := by
  unfold Builtin.«int.__ne__»
  repeat (first | with_reducible refine wpAny_load hx ?_ | wp_step)
  exact q
theorem dec_tup_eq {l : Addr} (X : K.In s.heap) (I : PySem.W.InstAt s.heap x ox C od) (hm : PySem.W.mroIn K C (.type "tuple") = some false) (ht : s.TypeIs (.ref l) "tuple") : Declines s x (.ref l) "__eq__" := fun prog w A E Q q =>
  wpAny_tryCompare_declines ht F.slot_tuple_eq (GQ.call_here F.slot_tuple_eq ht F.entry_tuple_eq (F.args_tuple_eq_2 _ _) (tup_eq_no X I hm ⟨rfl, q⟩))
theorem dec_tup_ne {l : Addr} (X : K.In s.heap) (I : PySem.W.InstAt s.heap x ox C od) (hm : PySem.W.mroIn K C (.type "tuple") = some false) (ht : s.TypeIs (.ref l) "tuple") : Declines s x (.ref l) "__ne__" := fun prog w A E Q q =>
  wpAny_tryCompare_declines ht F.slot_tuple_ne (GQ.call_here F.slot_tuple_ne ht F.entry_tuple_ne (F.args_tuple_ne_2 _ _) (tup_ne_no X I hm ⟨rfl, q⟩))
theorem dec_int_eq {i : Int} {t : Tok} {dx : Addr} (hx : s.heap.get? x = some (PySem.W.instObj C dx)) : Declines s x (.int i t) "__eq__" := fun prog w A E Q q =>
  wpAny_tryCompare_declines (show s.TypeIs (.int i t) "int" from rfl) F.slot_int_eq (GQ.call_here F.slot_int_eq rfl F.entry_int_eq (F.args_int_eq_2 _ _) (int_eq_no hx ⟨rfl, q⟩))
theorem dec_int_ne {i : Int} {t : Tok} {dx : Addr} (hx : s.heap.get? x = some (PySem.W.instObj C dx)) : Declines s x (.int i t) "__ne__" := fun prog w A E Q q =>
  wpAny_tryCompare_declines (show s.TypeIs (.int i t) "int" from rfl) F.slot_int_ne (GQ.call_here F.slot_int_ne rfl F.entry_int_ne (F.args_int_ne_2 _ _) (int_ne_no hx ⟨rfl, q⟩))
/-- v == x, v declines -/
theorem cmp_reflEq {v : Value} {T : String} {Q : Value → Shared → Prop} (hu : A.units < cLine) (X : K.In s.heap) (I : PySem.W.InstAt s.heap x ox C od) (ho : oneThing? .Eq v (.ref x) = none) (hT : s.TypeIs v T) (hm : PySem.W.mroIn K C (.type T) = some false)
    (hd : Declines s x v "__eq__") (hs : PySem.W.findIn K (.ref C) "__eq__" = some (some (.ref f))) (hf : PySem.W.isFn K (.ref f) = true)
    (h : wpAny (model prog w) A (call (.ref f) [.ref x, v]) (PySem.W.CmpBack Q) E s) : wpAny (model prog w) A (richCompare .Eq v (.ref x)) Q E s := by
  have one : wpAny (model prog w) A (tryCompare (.ref x) "__eq__" v) (fun r s' => ∃ v, r = some v ∧ Q v s') E s := by
    unfold tryCompare
    refine wpAny_bind (PySem.W.ifBound_K X I hs hf (wpAny_mono h (fun v s' hv => ?_) fun _ _ e => e))
    cases v <;> first | exact hv.elim | exact wpAny_pure ⟨_, rfl, hv⟩
  unfold richCompare
  simp only [ho]
  refine wpAny_holding (wpAny_bind (wpAny_cRoomFor hu ?_))
  refine wpAny_bind (wpAny_typeOf hT (wpAny_bind (I.type.here ?_)))
  split
  · refine wpAny_bind ((PySem.W.looks_mroIn X hm).here ?_)
    simp only [Bool.false_eq_true, if_false, Bool.not_false, if_true]
    refine wpAny_bind (hd prog w A E _ ?_)
    refine wpAny_bind (wpAny_mono one (fun r s' z => ?_) fun _ _ e => e)
    obtain ⟨v, rfl, hq⟩ := z
    exact wpAny_pure hq
  · rename_i q
    exact absurd (by simp) q
theorem cmp_reflNe {v : Value} {T : String} {Q : Value → Shared → Prop} (hu : A.units + 1 < cLine) (X : K.In s.heap) (I : PySem.W.InstAt s.heap x ox C od) (ho : oneThing? .NotEq v (.ref x) = none) (hT : s.TypeIs v T) (hm : PySem.W.mroIn K C (.type T) = some false)
    (hd : Declines s x v "__ne__") (hmo : PySem.W.mroIn K C (.type "object") = some true) (hne : PySem.W.findIn K (.ref C) "__ne__" = some (some (.builtin "object.__ne__"))) (hs : PySem.W.findIn K (.ref C) "__eq__" = some (some (.ref f))) (hf : PySem.W.isFn K (.ref f) = true)
    (h : wpAny (model prog w) A.in1 (call (.ref f) [.ref x, v]) (fun v s' => ∃ c : Bool, v = .bool c ∧ Q (.bool (!c)) s') E s) : wpAny (model prog w) A (richCompare .NotEq v (.ref x)) Q E s := by
  have one : wpAny (model prog w) A (tryCompare (.ref x) "__ne__" v) (fun r s' => ∃ c : Bool, r = some (.bool c) ∧ Q (.bool c) s') E s := by
    unfold tryCompare
    refine wpAny_bind (ifBound_ne X I hne (call_ne X I hmo hu hs hf (wpAny_mono h (fun v s' hv => ?_) fun _ _ e => e)))
    obtain ⟨c, rfl, q⟩ := hv
    exact ⟨c, rfl, wpAny_pure ⟨_, rfl, q⟩⟩
  unfold richCompare
  simp only [ho]
  refine wpAny_holding (wpAny_bind (wpAny_cRoomFor (by omega) ?_))
  refine wpAny_bind (wpAny_typeOf hT (wpAny_bind (I.type.here ?_)))
  split
  · refine wpAny_bind ((PySem.W.looks_mroIn X hm).here ?_)
    simp only [Bool.false_eq_true, if_false, Bool.not_false, if_true]
    refine wpAny_bind (hd prog w A E _ ?_)
    refine wpAny_bind (wpAny_mono one (fun r s' z => ?_) fun _ _ e => e)
    obtain ⟨v, rfl, hq⟩ := z
    exact wpAny_pure hq
  · rename_i q
    exact absurd (by simp) q
end
end DE6
namespace DL
open PySem L2
open PyProof.Rows hiding St
structure EqFacts (K : PySem.W.Frag) (C f : Addr) : Prop where
  eq : PySem.W.findIn K (.ref C) "__eq__" = some (some (.ref f))
  fn : PySem.W.isFn K (.ref f) = true
  ne : PySem.W.findIn K (.ref C) "__ne__" = some (some (.builtin "object.__ne__"))
  mo : PySem.W.mroIn K C (.type "object") = some true
  mN : PySem.W.mroIn K C (.type "NoneType") = some false
  mI : PySem.W.mroIn K C (.type "int") = some false
  mT : PySem.W.mroIn K C (.type "tuple") = some false
theorem nf_none {K : PySem.W.Frag} {C : Addr} : PySem.W.notFirst K C (.type "NoneType") = true := by
  have e : PySem.W.subIn K (.type "NoneType") (.ref C) = some false := HN.sub_none
  unfold PySem.W.notFirst
  rw [e]; simp
theorem nf_int {K : PySem.W.Frag} {C : Addr} : PySem.W.notFirst K C (.type "int") = true := by
  have e0 : fastBuiltinMro "int" = some [.type "int", .type "object"] := by decide +kernel
  have e : PySem.W.subIn K (.type "int") (.ref C) = some false := by
    show (fastBuiltinMro "int").map (·.contains (.ref C)) = some false
    rw [e0]
    first | rfl | simp
  unfold PySem.W.notFirst
  rw [e]; simp
theorem nf_tup {K : PySem.W.Frag} {C : Addr} : PySem.W.notFirst K C (.type "tuple") = true := by
  have e0 : fastBuiltinMro "tuple" = some [.type "tuple", .type "object"] := by decide +kernel
  have e : PySem.W.subIn K (.type "tuple") (.ref C) = some false := by
    show (fastBuiltinMro "tuple").map (·.contains (.ref C)) = some false
    rw [e0]
    first | rfl | simp
  unfold PySem.W.notFirst
  rw [e]; simp
theorem looks_ty {M : Model} {s : Shared} {v : Value} {T : String} (h : ∀ s' : Shared, (∀ b o, s.heap.get? b = some o → s'.heap.get? b = some o) → s'.TypeIs v T) : PySem.W.Looks M s.heap (typeOf v) (.type T) := fun A Q E s' k q => wpAny_typeOf (h s' k) q
/-- beside an own ==: None, an int, a tuple -/
def Plain3 (H : Hp) (y : V) : Prop := y = .non ∨ (∃ i, y = .int i) ∨ ∃ b vs, y = .ref b ∧ H b = some (.tup vs)
def rEqOwn (C : Addr) (sp : Sp) (neg : Bool) : R2 := fun x y H Q =>
  (∃ a dx fs, x = .ref a ∧ H a = some (.ins C dx fs) ∧ (Plain3 H y ∨ ∃ b dy gs, y = .ref b ∧ H b = some (.ins C dy gs)) ∧ sp [x, y] H (fun z H2 => ∃ b, z = .bl b ∧ Q (.bl (neg != b)) H2) fun _ _ _ => False) ∨
  (∃ a dx fs, y = .ref a ∧ H a = some (.ins C dx fs) ∧ Plain3 H x ∧ sp [y, x] H (fun z H2 => ∃ b, z = .bl b ∧ Q (.bl (neg != b)) H2) fun _ _ _ => False)
section
variable {X : Cx} {k : Nat} {C f : Addr} {sp : Sp}
theorem typeis_keep {s s' : Shared} {a : Addr} {T : String} (k : ∀ b o, s.heap.get? b = some o → s'.heap.get? b = some o) (h : s.TypeIs (.ref a) T) : s'.TypeIs (.ref a) T := by
  obtain ⟨o, h1, h2⟩ := h
  exact ⟨o, k _ _ h1, h2⟩
theorem own_call (F : FnG X.prog X.w X.K X.mg X.base k f sp) (hr : Room k X.A) (hgu : X.A.guards = some []) {pins : List (Addr × Obj)} {s : Shared} {σ : St} {H : Hp} {x y : V} {u v : Value} {Q : VK} {neg : Bool} (I : Inv X pins σ H s) (rx : RelV x u) (ry : RelV y v)
    (hs : sp [x, y] H (fun z H2 => ∃ b, z = .bl b ∧ Q (.bl (neg != b)) H2) fun _ _ _ => False) :
    wpAny (model X.prog X.w) X.A (call (.ref f) [u, v]) (fun r s' => ∃ c : Bool, r = .bool c ∧ EP X pins σ Q (.bool (neg != c)) s') X.xe s := by
  refine wpAny_call (codeAny_mono (F X.A X.stack s H [u, v] [x, y] _ _ hr hgu I.env0 (.cons rx (.cons ry .nil)) hs) fun res s2 q => ?_)
  cases res with
  | error er => exact (cx_no q).elim
  | ok fl =>
    cases fl with
    | ret u =>
      obtain ⟨z, H3, I3, rz, b, ez, q3⟩ := I.after q
      subst ez
      have ez : u = Value.bool b := rz
      subst ez
      exact ⟨b, rfl, .bl _, H3, I3, rfl, q3⟩
    | next => exact q.elim
    | brk => exact q.elim
    | cont => exact q.elim
theorem own_call1 (F : FnG X.prog X.w X.K X.mg X.base k f sp) (hr : Room (k + 1) X.A) (hgu : X.A.guards = some []) {pins : List (Addr × Obj)} {s : Shared} {σ : St} {H : Hp} {x y : V} {u v : Value} {Q : VK} {neg : Bool} (I : Inv X pins σ H s) (rx : RelV x u) (ry : RelV y v)
    (hs : sp [x, y] H (fun z H2 => ∃ b, z = .bl b ∧ Q (.bl (neg != b)) H2) fun _ _ _ => False) :
    wpAny (model X.prog X.w) X.A.in1 (call (.ref f) [u, v]) (fun r s' => ∃ c : Bool, r = .bool c ∧ EP X pins σ Q (.bool (neg != c)) s') X.xe s := by
  refine wpAny_call (codeAny_mono (F X.A.in1 X.stack s H [u, v] [x, y] _ _ hr.in1 hgu I.env0.in1 (.cons rx (.cons ry .nil)) hs) fun res s2 q => ?_)
  cases res with
  | error er => exact (cx_no q).elim
  | ok fl =>
    cases fl with
    | ret u =>
      obtain ⟨z, H3, I3, rz, b, ez, q3⟩ := I.after q
      subst ez
      have ez : u = Value.bool b := rz
      subst ez
      exact ⟨b, rfl, .bl _, H3, I3, rfl, q3⟩
    | next => exact q.elim
    | brk => exact q.elim
    | cont => exact q.elim
theorem tup_ty {pins : List (Addr × Obj)} {s : Shared} {σ : St} {H : Hp} {b : Addr} {vs : List V} (I : Inv X pins σ H s) (h : H b = some (.tup vs)) : s.TypeIs (.ref b) "tuple" := by
  obtain ⟨its, r1, p1, _⟩ := I.tuple (a := b) (xs := vs) (.inl (.inl h))
  obtain ⟨o, h1, h2, _⟩ := p1
  exact ⟨o, h1, h2⟩
/-- what stands right of an own == -/
theorem right_ty {pins : List (Addr × Obj)} {s : Shared} {σ : St} {H : Hp} {y : V} {v : Value} (I : Inv X pins σ H s) (ry : RelV y v) (h : Plain3 H y ∨ ∃ b dy gs, y = .ref b ∧ H b = some (.ins C dy gs)) :
    ∃ tb, PySem.W.Looks (model X.prog X.w) s.heap (typeOf v) tb ∧ PySem.W.notFirst X.K C tb = true := by
  rcases h with (rfl | ⟨i, rfl⟩ | ⟨b, vs, rfl, hb⟩) | ⟨b, dy, gs, rfl, hb⟩
  · obtain rfl : v = Value.none := ry
    exact ⟨_, looks_ty (T := "NoneType") fun _ _ => rfl, nf_none⟩
  · obtain ⟨t, rfl⟩ : ∃ t, v = Value.int i t := ry
    exact ⟨_, looks_ty (T := "int") fun _ _ => rfl, nf_int⟩
  · obtain rfl : v = Value.ref b := ry
    exact ⟨_, looks_ty (T := "tuple") fun s' k => typeis_keep k (tup_ty I hb), nf_tup⟩
  · obtain rfl : v = Value.ref b := ry
    obtain ⟨mA, O, _⟩ := ins_get I.hok hb
    obtain ⟨od, J, _⟩ := O.look
    exact ⟨_, J.type, by simp [PySem.W.notFirst]⟩
/-- what stands left of it -/
theorem left_ty {pins : List (Addr × Obj)} {s : Shared} {σ : St} {H : Hp} {y : V} {v : Value} {x : Addr} {ox : Obj} {od : Option Obj} {dx : Addr} (I : Inv X pins σ H s) (e : EqFacts X.K C f) (J : PySem.W.InstAt s.heap x ox C od) (hx : s.heap.get? x = some (PySem.W.instObj C dx)) (ry : RelV y v) (h : Plain3 H y) :
    ∃ T : String, s.TypeIs v T ∧ PySem.W.mroIn X.K C (.type T) = some false ∧ DE6.Declines s x v "__eq__" ∧ DE6.Declines s x v "__ne__" ∧ oneThing? .Eq v (.ref x) = none ∧ oneThing? .NotEq v (.ref x) = none := by
  rcases h with rfl | ⟨i, rfl⟩ | ⟨b, vs, rfl, hb⟩
  · obtain rfl : v = Value.none := ry
    exact ⟨"NoneType", rfl, e.mN, DE6.dec_none_eq, DE6.dec_none_ne, rfl, rfl⟩
  · obtain ⟨t, rfl⟩ : ∃ t, v = Value.int i t := ry
    exact ⟨"int", rfl, e.mI, DE6.dec_int_eq hx, DE6.dec_int_ne hx, rfl, rfl⟩
  · obtain rfl : v = Value.ref b := ry
    exact ⟨"tuple", tup_ty I hb, e.mT, DE6.dec_tup_eq I.kIn J e.mT (tup_ty I hb), DE6.dec_tup_ne I.kIn J e.mT (tup_ty I hb), rfl, rfl⟩
theorem op_neOwn (e : EqFacts X.K C f) (F : FnG X.prog X.w X.K X.mg X.base k f sp) (hr : Room (k + 1) X.A) (hgu : X.A.guards = some []) : OpR X (compareOp .NotEq) (rEqOwn C sp true) := by
  intro pins s σ H x y v u Q I rx ry h
  have hu1 := hu_of hr
  rcases h with ⟨a, dx, fs, rfl, ha, hy, hs⟩ | ⟨a, dx, fs, rfl, ha, hy, hs⟩
  · obtain rfl : v = Value.ref a := rx
    obtain ⟨mA, O, _⟩ := ins_get I.hok ha
    obtain ⟨od, J, _⟩ := O.look
    obtain ⟨tb, lk, nf⟩ := right_ty I ry hy
    refine (DE6.cmp_ne (tb := tb) (by omega) I.kIn J lk nf e.mo e.ne e.eq e.fn ?_ : wpAny (model X.prog X.w) X.A (richCompare .NotEq (.ref a) u) (EP X pins σ Q) X.xe s)
    refine thn (own_call1 F hr hgu I (show RelV (V.ref a) (Value.ref a) from rfl) ry hs) fun r s' ⟨c, er, q⟩ => ⟨c, er, ?_⟩
    simpa using q
  · obtain rfl : u = Value.ref a := ry
    obtain ⟨mA, O, _⟩ := ins_get I.hok ha
    obtain ⟨od, J, _⟩ := O.look
    obtain ⟨T, t1, t2, d1, d2, o1, o2⟩ := left_ty I e J J.at_ rx hy
    refine (DE6.cmp_reflNe (by omega) I.kIn J o2 t1 t2 d2 e.mo e.ne e.eq e.fn ?_ : wpAny (model X.prog X.w) X.A (richCompare .NotEq v (.ref a)) (EP X pins σ Q) X.xe s)
    refine thn (own_call1 F hr hgu I (show RelV (V.ref a) (Value.ref a) from rfl) rx hs) fun r s' ⟨c, er, q⟩ => ⟨c, er, ?_⟩
    simpa using q
end
end DL

/-! DG7: == and != by an own __eq__ over data, isinstance of an own class, list + list as a new cell. -/
namespace DL
open PySem L2
open PyProof.Rows hiding St
def leftD : D → Prop
  | .non => True
  | .int _ => True
  | .tup _ => True
  | _ => False
section
variable {X : Cx} {Wx : WX} {P L I J J1 J2 : List Nat} {e a b : Expr} {es : List Expr} {F Fa Fb : FE} {A : FA} {pos p p1 p2 apos : Pos} {k : Nat} {f : Addr} {G : DFn} {x m y n : Str} {ta tb : TE} {tA : TA} {C : Addr} {st : Stmt}
theorem plain3 {K : PySem.W.Frag} {Hb H : Hp} (s : Sub Hb H) {v : V} {d : D} (i : Is K Hb v d) (h : leftD d) : Plain3 H v := by
  cases i with
  | non => exact .inl rfl
  | int i => exact .inr (.inl ⟨_, rfl⟩)
  | tup h1 l => exact .inr (.inr ⟨_, _, rfl, s.at h1⟩)
  | _ => exact h.elim
/-! ### isinstance(x, C) -/
structure IsiF (K : PySem.W.Frag) (C : Addr) : Prop where
  ty : ∀ (H : Hp) (a dx : Addr) (fs : List (Str × V)), H a = some (.ins C dx fs) → TyX K H (.ref a) (.ref C)
  kN : PySem.W.kitOne K (.type "NoneType") (.ref C) = some false
  kI : PySem.W.kitOne K (.type "int") (.ref C) = some false
  kT : PySem.W.kitOne K (.type "tuple") (.ref C) = some false
def isOwn (n : Str) : D → Option Bool
  | .obj m _ => if m = n then some true else none
  | .non => some false
  | .int _ => some false
  | .tup _ => some false
  | _ => none
theorem isiOwn_ok {K : PySem.W.Frag} (hc : IsCl K n C) (iF : IsiF K C) {Hb H : Hp} (s : Sub Hb H) {v : V} {d : D} {b : Bool} (i : Is K Hb v d) (h : isOwn n d = some b) : ∃ t, TyX K H v t ∧ PySem.W.kitOne K t (.ref C) = some b := by
  cases d with
  | obj m fs =>
    have h : (if m = n then some true else none) = some b := h
    by_cases e : m = n
    · subst e
      rw [if_pos rfl] at h
      cases h
      obtain ⟨a, C', dx, vs, rfl, hc', hh, e1, l1⟩ := o_obj s (.inl i)
      obtain rfl := hc.eq hc'
      exact ⟨_, iF.ty _ _ _ _ hh, by simp [PySem.W.kitOne]⟩
    · rw [if_neg e] at h; cases h
  | non => cases h; exact ⟨_, o_tyx s (.inl i) rfl, iF.kN⟩
  | int j => cases h; exact ⟨_, o_tyx s (.inl i) rfl, iF.kI⟩
  | tup j => cases h; exact ⟨_, o_tyx s (.inl i) rfl, iF.kT⟩
  | _ => cases h
end
end DL

/-! DG8: zip, a released cell as a value. -/
namespace DL
open PySem L2 RZ
open PyProof.Rows hiding St
section
variable {X : Cx} {Wx : WX} {P L I J J1 J2 : List Nat} {e e2 tg : Expr} {es elts : List Expr} {F : FE} {A : FA} {pos p tpos : Pos} {kk : Nat} {te : TE} {tA : TA} {x : Str}
end
end DL

/-! DG9: any(list of ints). -/
namespace L2
open PySem PySem.Spec PyProof.Rows
section
variable {X : Cx}
end
end L2
namespace DL
open PySem L2
end DL

/-! DG10: C(a, .., *xs) where __init__ takes some arguments and the rest; C.m(..), m a classmethod. -/
namespace DL
open PySem L2 ClX
open PyProof.Rows hiding St
section
variable {X : Cx} {Wx : WX} {P I J J1 : List Nat} {a b e : Expr} {es : List Expr} {A : FA} {pos p : Pos} {k : Nat} {f : Addr} {G : DFn} {y : Str} {tA : TA} {ta tb : TE} {C : Addr} {n : Str} {m : Nat} {Fa Fb : FE}
end
end DL

/-! DG11: starred arguments, C(a, .., *xs) by name and by a local variable, classmethods. -/
namespace DL
open PySem L2 ClX
open PyProof.Rows hiding St
section
variable {X : Cx} {k i : Nat} {C f : Addr} {sp : Sp} {E : St → XK} {x : Str} {e : Expr} {es : List Expr} {p pos : Pos} {t : TA}
end
section
variable {X : Cx} {Wx : WX} {P I J J1 : List Nat} {a b e o : Expr} {es : List Expr} {F : FE} {A : FA} {pos p apos : Pos} {k : Nat} {f : Addr} {G : DFn} {x y : Str} {tA : TA} {te : TE} {C : Addr} {n : Str} {m : Nat}
end
end DL

/-! DG12: classmethods. -/
namespace DL
open PySem L2 ClX
open PyProof.Rows hiding St
section
variable {X : Cx} {k : Nat} {C p g : Addr} {mc : Value} {sp : Sp} {E : St → XK} {o e : Expr} {es : List Expr} {m : Str} {pos apos : Pos} {t : TA} {pl : Sem Bool}
end
section
variable {X : Cx} {Wx : WX} {P I J J1 : List Nat} {e o : Expr} {es : List Expr} {B : Env → (Env → Env → Prop) → XP → Prop} {sl : List (Option Nat)} {pos p' apos : Pos} {k nn : Nat} {p g : Addr} {G : DFn} {x m : Str} {io : List Nat} {tA : TA} {C : Addr} {mc : Value}
end
end DL

/-! DG13: sorted of a list of (pair, anything) with different pairs. -/
namespace SrtI
open PySem PyProof.Rows Srt PySem.SeqAt SrtO
section
variable {prog : Program} {w : World} {A : Around} {E : Value → Shared → Prop} {s : Shared}
/-- a tuple of a pair of ints and one thing more -/
def IsItem (h : Heap) (v : Value) (x y : Int) : Prop := ∃ a o n p c, v = .ref a ∧ h.get? a = some o ∧ o.cls = .type "tuple" ∧ o.data = .seq #[.ref p, c] n ∧ Srt.IsPair h (.ref p) x y
theorem IsItem.keeps {h h' : Heap} {v : Value} {x y : Int} (i : IsItem h v x y) (k : ∀ b o, h.get? b = some o → o.cls = .type "tuple" → h'.get? b = some o) : IsItem h' v x y := by
  obtain ⟨a, o, n, p, c, e, ho, hc, hd, hp⟩ := i
  exact ⟨a, o, n, p, c, e, k _ _ ho hc, hc, hd, hp.keeps k⟩
end
end SrtI

/-! DG14: sorted of a list of (pair, anything) with different pairs, as a rule. -/
namespace L2
open PySem PySem.Spec PyProof.Rows
section
variable {X : Cx}
end
end L2
namespace DL
open PySem L2
end DL

/-! DG15: d.get(k, z), {} with tuple keys, starred items in a display. -/
namespace DL
open PySem L2
open PyProof.Rows hiding St
section
variable {X : Cx} {Wx : WX} {P L I J J1 J2 : List Nat} {o e f : Expr} {es : List Expr} {F Fk Fz : FE} {A : FA} {pos p apos cpos : Pos} {td ty tx te : TE} {tA : TA} {x : Str}
end
end DL

/-! DG16: walks over dicts: keys, items. -/
namespace L2
open PySem PySem.Spec PyProof.Rows
section
variable {X : Cx} {pins : List (Addr × Obj)} {σ : St} {H : Hp} {s : Shared} {d : Addr} {o : Obj}
end
end L2

/-! DG17: walks over dicts, over data. -/
namespace DL
open PySem L2
open PyProof.Rows hiding St
@[simp] def kD : Key → D
  | .inl i => .int i
  | .inr s => .str s
def Lkd (K : PySem.W.Frag) (Hb : Hp) (u : HO) : D → Prop
  | .dk kvs => ∃ vs : List (Key × V), u = .dK vs ∧ vs.map (·.1) = kvs.map (·.1) ∧ IsL K Hb (vs.map (·.2)) (kvs.map (·.2))
  | .dt kvs => ∃ vs : List (List Key × V), u = .dT vs ∧ vs.map (·.1) = kvs.map (·.1) ∧ IsL K Hb (vs.map (·.2)) (kvs.map (·.2))
  | .nest _ _ kvs => ∃ vs : List (Key × V), u = .dK vs ∧ vs.map (·.1) = kvs.map (·.1) ∧ IsL K Hb (vs.map (·.2)) (kvs.map (·.2))
  | .nestL _ _ _ kvs => ∃ vs : List (Key × V), u = .dK vs ∧ vs.map (·.1) = kvs.map (·.1) ∧ IsL K Hb (vs.map (·.2)) (kvs.map (·.2))
  | _ => False
theorem Lkd.mono {K : PySem.W.Frag} {Hb Hb' : Hp} {u : HO} (s : Sub Hb Hb') : ∀ {d : D}, Lkd K Hb u d → Lkd K Hb' u d
  | .dk _, ⟨vs, a, b, c⟩ => ⟨vs, a, b, c.mono s⟩
  | .dt _, ⟨vs, a, b, c⟩ => ⟨vs, a, b, c.mono s⟩
  | .nest _ _ _, ⟨vs, a, b, c⟩ => ⟨vs, a, b, c.mono s⟩
  | .nestL _ _ _ _, ⟨vs, a, b, c⟩ => ⟨vs, a, b, c.mono s⟩
theorem Lkd.do {K : PySem.W.Frag} {Hb : Hp} {u : HO} : ∀ {d : D}, Lkd K Hb u d → isDO u = true ∧ Mut (some u)
  | .dk _, ⟨vs, a, _⟩ => by subst a; exact ⟨rfl, True.intro⟩
  | .dt _, ⟨vs, a, _⟩ => by subst a; exact ⟨rfl, True.intro⟩
  | .nest _ _ _, ⟨vs, a, _⟩ => by subst a; exact ⟨rfl, True.intro⟩
  | .nestL _ _ _ _, ⟨vs, a, _⟩ => by subst a; exact ⟨rfl, True.intro⟩
section
variable {X : Cx} {Wx : WX} {P L I J : List Nat} {e tg : Expr} {F : FE} {te : TE}
end
end DL

/-! DG18: sorted(d.items()), the keys pairs of ints. -/
namespace SrtI
open PySem PyProof.Rows
theorem IsItem.uniq {h : Heap} {v : Value} {x y x' y' : Int} (i : IsItem h v x y) (j : IsItem h v x' y') : (x, y) = (x', y') := by
  obtain ⟨a, o, n, p, c, e, ho, _, hd, b, o1, t, u, n1, e1, ho1, _, hd1⟩ := i
  obtain ⟨a', o', n', p', c', e', ho', _, hd', b', o1', t', u', n1', e1', ho1', _, hd1'⟩ := j
  subst e
  cases e'
  rw [ho] at ho'; cases ho'
  rw [hd] at hd'
  cases e1
  cases e1'
  have h1 := congrArg Array.toList (Data.seq.inj hd').1
  simp at h1
  rw [← h1.1] at ho1'
  rw [ho1] at ho1'; cases ho1'
  rw [hd1] at hd1'
  have h2 := congrArg Array.toList (Data.seq.inj hd1').1
  simp at h2
  exact Prod.ext h2.1.1 h2.2.1
open Classical in
noncomputable def keyH (h : Heap) (v : Value) : Int × Int := if q : ∃ xy : Int × Int, IsItem h v xy.1 xy.2 then q.choose else (0, 0)
theorem IsItem.key {h : Heap} {v : Value} {x y : Int} (i : IsItem h v x y) : keyH h v = (x, y) := by
  have q : ∃ xy : Int × Int, IsItem h v xy.1 xy.2 := ⟨(x, y), i⟩
  unfold keyH
  rw [dif_pos q]
  exact q.choose_spec.uniq i
end SrtI
namespace L2
open PySem PySem.Spec PyProof.Rows
end L2

/-! DG19: sorted(d.items()) over data. -/
namespace DL
open PySem L2
open PyProof.Rows hiding St
section
variable {K : PySem.W.Frag} {W : Wd} {P I : List Nat} {ρ : Env} {σ : St} {Hb H : Hp}
end
section
variable {X : Cx} {Wx : WX} {P L I J : List Nat} {e : Expr} {F : FE} {te : TE} {apos cpos pos p : Pos}
end
end DL

/-! DG20: {k: v for .. in ..}, the keys tuples of ints and texts. -/
namespace L2
open PySem PySem.Spec PyProof.Rows
section
variable {X : Cx}
end
end L2

/-! DG21: dict comprehensions over data, the keys tuples. -/
namespace DL
open PySem L2
open PyProof.Rows hiding St
@[simp] def keyTD : D → Option (List Key)
  | .tup ds => keysOf ds
  | _ => none
section
variable {X : Cx} {Wx : WX} {P L I J : List Nat} {kx vx tg iter : Expr} {ifs : List Expr} {scope : Scope} {own : List (Str × Nat)} {pos spos py : Pos} {wi : TI} {g : TG} {tt : TT} {tk tv : TE} {A : FA} {gd : FG} {T : FT} {Ek Ev : FE} {ts : List Nat}
end
end DL

/-! DG22: try: .. except x as n: v = n, where the exception is kept behind the try. -/
namespace L2
open PySem PySem.Spec PyProof.Rows
open DL (XcO)
theorem xcO_ok {P : Program} {w : World} {H : Hp} {h : Heap} {a : Addr} {cls : Value} {d : Option Addr} {oe : Obj} {vs : Array Value} (e : h.get? a = some oe) (z : Zc cls d oe) (q : oe.data = .fields vs) : ObjOk P w H h a (XcO cls d a) :=
  ⟨⟨oe, vs, e, z, q⟩, ⟨oe, e⟩, fun _ _ ⟨o, v, q, r⟩ k => ⟨o, v, k o q, r⟩⟩
section
variable {X : Cx} {pins : List (Addr × Obj)} {σ : St} {H : Hp} {s : Shared}
/-- an object that is pinned and was not there at the entry is known from here on -/
theorem Inv.adopt {a : Addr} {oe : Obj} {o : HO} (I : Inv X ((a, oe) :: pins) σ H s) (n0 : X.s_0.heap.get? a = none) (np : ∀ p ∈ X.pn ++ pins, p.1 ≠ a) (new : ObjOk X.prog X.w (upd H a o) s.heap a o) : Inv X pins σ (upd H a o) s := by
  obtain ⟨ha, na, nL, nF, nc⟩ := I.pin (a, oe) (by simp)
  have sub : ∀ p ∈ X.pn ++ pins, p ∈ X.pn ++ ((a, oe) :: pins) := fun p hp => by
    rcases List.mem_append.mp hp with h | h
    · exact List.mem_append_left _ h
    · exact List.mem_append_right _ (List.mem_cons_of_mem _ h)
  refine ⟨I.ok, I.os, I.bare, ⟨I.base.keep, I.base.slot, fun b ob e n hb => ?_, I.base.there, fun b xs e => ?_, fun b o' u e => ?_, fun b ps e => ?_⟩, I.loc, I.cell, ?_, fun x c e => ?_, fun p hp => ?_, ?_, I.len⟩
  · rw [upd_ne (fun z => by rw [z, n0] at e; cases e)]
    exact I.base.free b ob e n hb
  · have q := I.base.tups b xs e
    rw [upd_ne (ne_of_none q na)]; exact q
  · have q := I.base.frzs b o' u e
    rw [upd_ne (ne_of_none q na)]; exact q
  · obtain ⟨m, q⟩ := I.base.tbls b ps e
    exact ⟨m, by rw [upd_ne (ne_of_none q na)]; exact q⟩
  · rw [upd_ne (Ne.symm nL)]; exact I.free
  · have ne : c ≠ a := fun z => by
      obtain ⟨v, oc, hoc, hd⟩ := I.cell x c e
      rw [z, ha] at hoc
      cases hoc
      exact nc v hd
    rw [upd_ne ne]; exact I.freeC x c e
  · obtain ⟨e1, e2, e3⟩ := I.pin p (sub p hp)
    exact ⟨e1, by rw [upd_ne (np p hp)]; exact e2, e3⟩
  · exact I.hok.laidN (fun _ _ q => q) na new
end
/-- what 'except x as n: v = n' wishes of an exception of the body: slot i is n's, slot j is v's -/
def wKeep (K : PySem.W.Frag) (c : Value) (i j : Nat) (Wout : WX) (D : Ends) : WX := fun cls d σ H =>
  ∃ b, PySem.W.exmOne K cls c = some b ∧ (b = true → ∀ a, H a = none → D.nx (((σ.set i (some (.ref a))).set j (some (.ref a))).set i none) (upd H a (XcO cls d a))) ∧ (b = false → Wout cls d σ H)
section
variable {X : Cx} {x n v : Str} {c : Value} {i j : Nat} {body : List Stmt} {np pos pos' p1 p2 p3 : Pos} {tb : WX → TS} {Wout : WX}
theorem ps_try_keep (hs : X.stack = X.env :: X.outer) (hf : X.env.frame = some X.env.locals) (hex : X.ex = []) (hN : X.N.Nodup) (hi : X.N[i]? = some n) (hj : X.N[j]? = some v) (hln : X.env.kindOf n = some .local) (hvn : Vis X.env.scope n) (hlv : Loc X.env.scope v) (hfv : X.fn v = true ∨ X.env.scope.names.lookup v = some .local) (hc : Names X x c) (tk : Takes X Wout)
    (hd1 : (n == ("__debug__" : Str)) = false) (hd2 : (n == ("__classdict__" : Str)) = false) (hsw : ∀ (A : Addr) (pn : List (Addr × Obj)), swapsWith (.Name n p2) (some (.Name v p1)) p3.line X.env = pure false)
    (hb : ∀ (W : WX) (pn : List (Addr × Obj)) (xe : Value → Shared → Prop), Takes (X.tr pn xe) W → PassesOwn (model X.prog X.w) X.A X.env xe → PSs (X.tr pn xe) body (tb W)) :
    PS X (.Try body [.ExceptHandler (some (.Name x np)) (some n) [.Assign [.Name v p1] (.Name n p2) p3] pos'] [] [] pos) (fun D σ H => tb (wKeep X.K c i j Wout D) D σ H) := by
  refine ⟨fun pins s σ H D I0 h0 => ?_⟩
  have ok := I0.ok
  have frames : X.A.frames = some (X.env :: X.outer) := by rw [ok.frames, hs]
  refine wpAny_Try_except (wpAny_mono ((hb (wKeep X.K c i j Wout D) (X.pn ++ pins) _ (fun u s1 air => ?_) PassesOwn.looking).run [] s σ H D (I0.toTry _) h0) (fun f s1 out => ?_) (fun e s1 q => q))
  · -- caught
    obtain ⟨a, B, sI, pins1, σ1, H1, cls, d, rfl, J0, nb, up, sky, na, os, ag, b, eb, yes, no⟩ := air
    have J : Inv X pins σ1 H1 sI := J0.ofTry ok
    have sky : Sky B (X.env :: X.outer) a (Zc cls d) X.env.locals s1.heap := by rw [← hs]; exact sky
    have stk : ∀ b, b ∉ frs X.stack → ∀ o, sI.heap.get? b = some o → B.get? b = some o := fun b hb o e => nb b o e hb
    show wpAny (model X.prog X.w) X.A (noteFrame (.ref a) X.env) _ _ _
    refine Sky.land Zc.steady frames hf sky fun h3 fl3 up3 => ?_
    have J3 : Inv X pins σ1 H1 { s1 with heap := h3 } := J.landed nb fl3.1 (up.trans up3) os ag
    obtain ⟨o3, f3, e3, z3, d3⟩ := fl3.there
    have nfr : a ∉ frs (X.env :: X.outer) := fun hm => by
      obtain ⟨_, o', e', hnf⟩ := fl3.2.2.1.mem hm
      rw [e3] at e'; cases e'
      exact hnf _ d3
    have nL : a ≠ X.env.locals := fun z => nfr (List.mem_filterMap.mpr ⟨X.env, List.mem_cons_self, by rw [hf, z]⟩)
    have nF : a ∉ X.fs := fun hm => by
      obtain ⟨e, he, q⟩ := List.mem_filterMap.mp hm
      exact nfr (List.mem_filterMap.mpr ⟨e, List.mem_cons_of_mem _ he, q⟩)
    have nB : B.get? a = none := fl3.2.1
    have stA : a ∉ frs X.stack := by rw [hs]; exact nfr
    have n0 : X.s_0.heap.get? a = none := by
      cases z : X.s_0.heap.get? a with
      | none => rfl
      | some o =>
        obtain ⟨o', q⟩ := J.base.there a o z (by rw [hex]; simp)
        have := stk a stA o' q
        rw [nB] at this; cases this
    have npin : ∀ p ∈ X.pn ++ pins, p.1 ≠ a := fun p hp z => by
      obtain ⟨q, _, _, _, _⟩ := J.pin p hp
      rw [z] at q
      have := stk a stA _ q
      rw [nB] at this; cases this
    have S3 := J3.suite e3 d3 na nL nF
    refine wpAny_handleBy_cons (codeAny_handlers_test ?_) (by intro q; cases q)
    have LT : PySem.W.Looks (model X.prog X.w) h3 (typeOf (.ref a)) cls := fun A Q E t k q => wpAny_typeOf_ref (k _ _ e3) (by rw [z3.1]; exact q)
    have LM := PySem.W.exm_one (M := model X.prog X.w) J3.kIn LT eb
    have named : ∀ {Q : Value → Shared → Prop} {E : Value → Shared → Prop}, Q c { s1 with heap := h3 } → wpAny (model X.prog X.w) (X.A.mark (some (.ref a))) (eval (.Name x np) X.env) Q E { s1 with heap := h3 } := fun {Q E} q => by
      obtain ⟨hg, hdbg, hm | ⟨hm, hv, hnn⟩⟩ := hc
      · exact ld_glob (X := X.suite a ((a, o3) :: (X.pn ++ pins))) S3 hg hm q hdbg
      · exact ld_blt (X := X.suite a ((a, o3) :: (X.pn ++ pins))) S3 hg hm hv q hnn hdbg
    refine named (LM.here ?_)
    cases b with
    | true =>
      refine codeAny_handlers_suite_as (HandSPX.lands_againZ fl3 fun h4 fl4 up4 => ?_)
      have J4 : Inv X pins σ1 H1 { s1 with heap := h4 } := J.landed nb fl4.1 ((up.trans up3).trans up4) os ag
      obtain ⟨o4, f4, e4, z4, d4⟩ := fl4.there
      have S4 := J4.suite e4 d4 na nL nF
      refine store_ok (X := X.suite a ((a, o4) :: (X.pn ++ pins))) (v := .ref a) S4 hN hi (.inl hln) rfl (fun s5 S5 => ?_) (.inr hln)
      have lt : i < σ1.length := by rw [J.len]; exact (List.getElem?_eq_some_iff.mp hi).1
      have suite : PSs (X.suite a ((a, o4) :: (X.pn ++ pins))) [.Assign [.Name v p1] (.Name n p2) p3] (tAsg (tVar i) (gName j)) :=
        pss_one (ps_set (X := X.suite a ((a, o4) :: (X.pn ++ pins))) hN hj hlv (pe_var hi hvn hd1 hd2) (hsw a []) hfv)
      refine wpAny_mono (suite.run [] s5 _ H1 ⟨fun σ2 H2 => σ2 = (σ1.set i (some (.ref a))).set j (some (.ref a)) ∧ H2 = H1, fun _ _ => False, fun _ _ => False, fun _ _ => False⟩ S5 ⟨.ref a, List.getElem?_set_self lt, rfl, rfl⟩) (fun f s6 out => ?_) (fun _ _ z => False.elim z)
      cases f with
      | next =>
        obtain ⟨σ6, H6, S6, rfl, rfl⟩ := out
        have S7 : Inv X ((a, o4) :: pins) ((σ1.set i (some (.ref a))).set j (some (.ref a))) H6 s6 :=
          ⟨ok, S6.os, S6.bare, S6.base, S6.loc, S6.cell, S6.free, S6.freeC, fun p hp => S6.pin p (List.mem_append_left _ (by
            rcases List.mem_append.mp hp with h | h
            · exact List.mem_cons_of_mem _ (List.mem_append_left _ h)
            · rcases List.mem_cons.mp h with h | h
              · rw [h]; exact List.mem_cons_self
              · exact List.mem_cons_of_mem _ (List.mem_append_right _ h))), S6.hok, S6.len⟩
        refine gone_ok S7 hN hi hln fun s8 J8 => ?_
        obtain ⟨e8, _, _, _, _⟩ := J8.pin (a, o4) (by simp)
        exact ⟨_, _, J8.adopt n0 npin (xcO_ok e8 z4 d4), yes rfl a na⟩
      | brk => obtain ⟨_, _, _, z⟩ := out; exact z.elim
      | cont => obtain ⟨_, _, _, z⟩ := out; exact z.elim
      | ret u => obtain ⟨_, _, _, _, _, z⟩ := out; exact z.elim
    | false =>
      show wpAny _ X.A (handleBy (.ref a) X.env []) _ _ _
      refine wpAny_handleBy_nil ?_
      obtain ⟨k1, k2, k3, oe, vs, T, oT, ts', he, hz, hd, h1, hr⟩ := id fl3
      unfold PySem.passOn
      refine wpAny_bind (wpAny_field he hd h1 ?_)
      rw [if_neg (show ¬ ((Value.ref T == Value.none) = true) from by simp)]
      have go : wpAny (model X.prog X.w) X.A (setFlight (.ref a) X.env.frame) (fun _ s4 => wpAny (model X.prog X.w) X.A (throw (.ref a) : Sem Flow) (SP X pins D) X.xe s4) X.xe { s1 with heap := h3 } := by
        rw [hf]
        refine HandSPX.setFlight_upZ fl3 fun h4 hh4 up4 => wpAny_throw (tk _ _ ?_)
        exact ⟨a, B, sI, pins, σ1, H1, cls, d, rfl, J, nb, (up.trans up3).trans up4, .inr (.inr (by rw [hs]; exact hh4)), na, os, ag, no rfl⟩
      first
        | exact wpAny_bind (wpAny_pure (wpAny_bind go))
        | exact wpAny_bind go
  · cases f with
    | next => obtain ⟨σ1, H1, J, q⟩ := out; exact wpAny_execs_nil ⟨σ1, H1, J.ofTry ok, q⟩
    | brk => obtain ⟨σ1, H1, J, q⟩ := out; exact ⟨σ1, H1, J.ofTry ok, q⟩
    | cont => obtain ⟨σ1, H1, J, q⟩ := out; exact ⟨σ1, H1, J.ofTry ok, q⟩
    | ret u => obtain ⟨z, σ1, H1, J, r, q⟩ := out; exact ⟨z, σ1, H1, J.ofTry ok, r, q⟩
end
end L2

/-! DG23: comprehensions that change nothing beside their own names, as map and filter. -/
namespace DL
open PySem L2
theorem hu2_of {A : Around} {k : Nat} (hr : Room k A) : A.units + 2 < cLine := by have := hr.un; omega
end DL

namespace DL
open PySem L2 StrLaws
/-! repr of plain data that is not too large -/
def shw (d : D) : Str := match pd d with
  | some x => x.shown
  | none => Str.empty
def RO (d : D) (dp n : Nat) : Prop := ∃ x, pd d = some x ∧ x.showable = true ∧ x.hasDict = false ∧ x.depth ≤ dp ∧ x.shown.length ≤ n
theorem RO.mono {d : D} {a b m n : Nat} (h : RO d a m) (h1 : a ≤ b) (h2 : m ≤ n) : RO d b n := by
  obtain ⟨x, e, s, hd, k, l⟩ := h
  exact ⟨x, e, s, hd, by omega, by omega⟩
theorem RO.non : RO .non 0 4 := ⟨.none, rfl, rfl, rfl, by decide, by decide +kernel⟩
theorem RO.bl (b : Bool) : RO (.bl b) 0 5 := ⟨.bool b, rfl, rfl, rfl, by simp [PyData.depth], by cases b <;> decide +kernel⟩
theorem RO.int {i : Int} {k : Nat} (hk : 0 < k) (hk2 : k ≤ 500) (h : i.natAbs < 10 ^ k) : RO (.int i) 0 (k + 1) := by
  refine ⟨.int i, rfl, ?_, rfl, by simp [PyData.depth], ?_⟩
  · simp only [PyData.showable, decide_eq_true_eq]
    have : i.natAbs < 2 ^ 1920 := by
      have h1 : (10 : Nat) ^ k ≤ 10 ^ 500 := Nat.pow_le_pow_right (by decide) hk2
      have h2 : (10 : Nat) ^ 500 < 2 ^ 1920 := by decide +kernel
      omega
    by_cases z : i.natAbs = 0
    · rw [z]; decide
    · exact (Nat.log2_lt z).mpr this
  · have e := int_text_length_le10 (k := k) hk h
    show (Str.ofString (toString i)).length ≤ k + 1
    rw [ofString_length]; exact e
theorem RO.str {s : Str} {n : Nat} (h : (PyData.shown (.str s)).length ≤ n) : RO (.str s) 0 n := ⟨.str s, rfl, rfl, rfl, by simp [PyData.depth], h⟩
theorem ROL {dp n : Nat} : ∀ {ds : List D}, (∀ d ∈ ds, RO d dp n) → ∃ xs, pdL ds = some xs ∧ PyData.showableAll xs = true ∧ PyData.hasDictAll xs = false ∧ PyData.depthAll xs ≤ dp ∧ xs.length = ds.length ∧ ((PyData.shownAll xs).map (·.length)).sum ≤ ds.length * n
  | [], _ => ⟨[], rfl, rfl, rfl, by simp [PyData.depthAll], rfl, by simp [PyData.shownAll]⟩
  | d :: ds, h => by
    obtain ⟨x, e, s, hd, k, l⟩ := h d List.mem_cons_self
    obtain ⟨xs, e', s', hd', k', l', t'⟩ := ROL (ds := ds) fun d hd => h d (List.mem_cons_of_mem _ hd)
    refine ⟨x :: xs, by simp [pdL, e, e'], by simp [PyData.showableAll, s, s'], by simp [PyData.hasDictAll, hd, hd'], by simp only [PyData.depthAll]; omega, by simp [l'], ?_⟩
    simp only [PyData.shownAll, List.map_cons, List.sum_cons, List.length_cons, Nat.succ_mul]
    omega
theorem shownAll_len : ∀ xs : List PyData, (PyData.shownAll xs).length = xs.length
  | [] => rfl
  | x :: xs => by simp [PyData.shownAll, shownAll_len xs]
theorem RO.tup {ds : List D} {dp n : Nat} (h : ∀ d ∈ ds, RO d dp n) : RO (.tup ds) (dp + 1) (ds.length * (n + 2) + 3) := by
  obtain ⟨xs, e, s, hd, k, l, t⟩ := ROL h
  refine ⟨.tuple xs, by simp [pd, e], by simp [PyData.showable, s], by simp [PyData.hasDict, hd], by simp only [PyData.depth]; omega, ?_⟩
  have := tupleText_len_le (PyData.shownAll xs)
  rw [shownAll_len] at this
  show (tupleText (PyData.shownAll xs)).length ≤ _
  rw [Nat.mul_add]; omega
theorem RO.lst {ds : List D} {dp n : Nat} (h : ∀ d ∈ ds, RO d dp n) : RO (.lst ds) (dp + 1) (ds.length * (n + 2) + 3) := by
  obtain ⟨xs, e, s, hd, k, l, t⟩ := ROL h
  refine ⟨.list xs, by simp [pd, e], by simp [PyData.showable, s], by simp [PyData.hasDict, hd], by simp only [PyData.depth]; omega, ?_⟩
  have := listText_len_le (PyData.shownAll xs)
  rw [shownAll_len] at this
  show (listText (PyData.shownAll xs)).length ≤ _
  rw [Nat.mul_add]; omega
theorem gRepr_ro {d : D} {dp n : Nat} (h : RO d dp n) (h1 : dp ≤ 60) (h2 : n ≤ 1000000) (k : D → Prop) : gRepr [d] k = k (.str (shw d)) := by
  obtain ⟨x, e, s, hd, kk, l⟩ := h
  have es : shw d = x.shown := by unfold shw; rw [e]
  refine propext ⟨fun z => ?_, fun q => ⟨x, e, s, hd, by omega, by omega, by rw [← es]; exact q⟩⟩
  obtain ⟨y, e', _, _, _, _, q⟩ := z
  rw [e] at e'; cases e'
  rw [es]; exact q
/-! == of plain data (no bools in it) is equality -/
mutual
def plD : Nat → D → Bool
  | _, .non => true
  | _, .int _ => true
  | _, .str s => PyData.strOk s
  | n + 1, .tup ds => plDs n ds
  | n + 1, .lst ds => plDs n ds
  | _, _ => false
def plDs : Nat → List D → Bool
  | _, [] => true
  | n, d :: ds => plD n d && plDs n ds
end
theorem plDs_all (n : Nat) : ∀ ds : List D, plDs n ds = ds.all (plD n)
  | [] => by simp [plDs]
  | d :: ds => by simp [plDs, plDs_all n ds]
@[simp] theorem plD_non (n : Nat) : plD n .non = true := by cases n <;> simp [plD]
@[simp] theorem plD_int (n : Nat) (i : Int) : plD n (.int i) = true := by cases n <;> simp [plD]
@[simp] theorem plD_str (n : Nat) (s : Str) : plD n (.str s) = PyData.strOk s := by cases n <;> simp [plD]
@[simp] theorem plD_tup (n : Nat) (ds : List D) : plD n (.tup ds) = (decide (1 ≤ n) && ds.all (plD (n - 1))) := by cases n <;> simp [plD, plDs_all]
@[simp] theorem plD_lst (n : Nat) (ds : List D) : plD n (.lst ds) = (decide (1 ≤ n) && ds.all (plD (n - 1))) := by cases n <;> simp [plD, plDs_all]
mutual
theorem plD_pd : ∀ {n : Nat} {d : D}, plD n d = true → ∃ x, pd d = some x ∧ x.canLay0 = true ∧ x.depth ≤ n ∧ ∀ {m : Nat} {d' : D} {y : PyData}, plD m d' = true → pd d' = some y → PyData.eqv x y = true → d = d'
  | n, .non, _ => ⟨.none, rfl, rfl, by simp [PyData.depth], fun {m d' y} h e q => by
    cases d' <;> simp [plD, pd] at h e <;> first | rfl | (subst e; simp [PyData.eqv] at q) | (obtain ⟨_, _, rfl⟩ := e; simp [PyData.eqv] at q)⟩
  | n, .int i, _ => ⟨.int i, rfl, rfl, by simp [PyData.depth], fun {m d' y} h e q => by
    cases d' <;> simp [plD, pd] at h e <;> first | (subst e; simp [PyData.eqv] at q; done) | (subst e; simp [PyData.eqv] at q; rw [q]) | (obtain ⟨_, _, rfl⟩ := e; simp [PyData.eqv] at q)⟩
  | n, .str s, h => ⟨.str s, rfl, by simpa [PyData.canLay0] using h, by simp [PyData.depth], fun {m d' y} h e q => by
    cases d' <;> simp [plD, pd] at h e <;> first | (subst e; simp [PyData.eqv] at q; done) | (subst e; simp [PyData.eqv] at q; rw [q]) | (obtain ⟨_, _, rfl⟩ := e; simp [PyData.eqv] at q)⟩
  | n + 1, .tup ds, h => by
    obtain ⟨xs, e, c, k, u⟩ := plDs_pd (n := n) (ds := ds) (by simpa [plD] using h)
    refine ⟨.tuple xs, by simp [pd, e], by simpa [PyData.canLay0] using c, by simp only [PyData.depth]; omega, fun {m d' y} h e q => ?_⟩
    cases d' with
    | tup es =>
      match m, h with
      | m + 1, h =>
        simp [plD, pd] at h e
        obtain ⟨ys, e, rfl⟩ := e
        rw [u h e (by simpa [PyData.eqv] using q)]
    | lst es => simp [pd] at e; obtain ⟨_, _, rfl⟩ := e; simp [PyData.eqv] at q
    | _ => simp [pd] at e <;> first | (subst e; simp [PyData.eqv] at q; done) | simp [plD] at h
  | n + 1, .lst ds, h => by
    obtain ⟨xs, e, c, k, u⟩ := plDs_pd (n := n) (ds := ds) (by simpa [plD] using h)
    refine ⟨.list xs, by simp [pd, e], by simpa [PyData.canLay0] using c, by simp only [PyData.depth]; omega, fun {m d' y} h e q => ?_⟩
    cases d' with
    | lst es =>
      match m, h with
      | m + 1, h =>
        simp [plD, pd] at h e
        obtain ⟨ys, e, rfl⟩ := e
        rw [u h e (by simpa [PyData.eqv] using q)]
    | tup es => simp [pd] at e; obtain ⟨_, _, rfl⟩ := e; simp [PyData.eqv] at q
    | _ => simp [pd] at e <;> first | (subst e; simp [PyData.eqv] at q; done) | simp [plD] at h
theorem plDs_pd : ∀ {n : Nat} {ds : List D}, plDs n ds = true → ∃ xs, pdL ds = some xs ∧ PyData.canLayAll0 xs = true ∧ PyData.depthAll xs ≤ n ∧ ∀ {m : Nat} {ds' : List D} {ys : List PyData}, plDs m ds' = true → pdL ds' = some ys → PyData.eqvAll xs ys = true → ds = ds'
  | n, [], _ => ⟨[], rfl, rfl, by simp [PyData.depthAll], fun {m ds' ys} h e q => by
    cases ds' with
    | nil => rfl
    | cons d ds =>
      simp only [pdL] at e
      cases z : pd d with
      | none => rw [z] at e; cases e
      | some x =>
        rw [z] at e
        obtain ⟨_, _, rfl⟩ := Option.map_eq_some_iff.mp e
        simp [PyData.eqvAll] at q⟩
  | n, d :: ds, h => by
    simp only [plDs, Bool.and_eq_true] at h
    obtain ⟨x, e, c, k, u⟩ := plD_pd h.1
    obtain ⟨xs, e', c', k', u'⟩ := plDs_pd h.2
    refine ⟨x :: xs, by simp [pdL, e, e'], by simp [PyData.canLayAll0, c, c'], by simp only [PyData.depthAll]; omega, fun {m ds' ys} h e q => ?_⟩
    cases ds' with
    | nil => simp only [pdL, Option.some.injEq] at e; subst e; simp [PyData.eqvAll] at q
    | cons d' ds' =>
      simp only [plDs, Bool.and_eq_true] at h
      simp only [pdL] at e
      cases z : pd d' with
      | none => rw [z] at e; cases e
      | some y =>
        rw [z] at e
        obtain ⟨ys', z', rfl⟩ := Option.map_eq_some_iff.mp e
        simp only [PyData.eqvAll, Bool.and_eq_true] at q
        rw [u h.1 z q.1, u' h.2 z' q.2]
end
mutual
theorem eqv_refl : ∀ x : PyData, x.canLay0 = true → PyData.eqv x x = true
  | .none, _ => by simp [PyData.eqv]
  | .bool b, _ => by simp [PyData.eqv]
  | .int i, _ => by simp [PyData.eqv]
  | .str s, _ => by simp [PyData.eqv]
  | .tuple xs, h => by simp only [PyData.eqv]; exact eqvAll_refl xs (by simpa [PyData.canLay0] using h)
  | .list xs, h => by simp only [PyData.eqv]; exact eqvAll_refl xs (by simpa [PyData.canLay0] using h)
  | .dict _, h => by simp [PyData.canLay0] at h
theorem eqvAll_refl : ∀ xs : List PyData, PyData.canLayAll0 xs = true → PyData.eqvAll xs xs = true
  | [], _ => by simp [PyData.eqvAll]
  | x :: xs, h => by
    simp only [PyData.canLayAll0, Bool.and_eq_true] at h
    simp only [PyData.eqvAll, Bool.and_eq_true]
    exact ⟨eqv_refl x h.1, eqvAll_refl xs h.2⟩
end
open Classical in
theorem gEq_pl {n : Nat} (hn : n ≤ 64) {x y : D} (hx : plD n x = true) (hy : plD n y = true) : ∃ a b, pd x = some a ∧ pd y = some b ∧ SeqAt.shaped a = true ∧ SeqAt.shaped b = true ∧ PyData.eqv a b = decide (x = y) := by
  obtain ⟨a, e, c, k, u⟩ := plD_pd hx
  obtain ⟨b, e', c', k', u'⟩ := plD_pd hy
  refine ⟨a, b, e, e', by simp only [SeqAt.shaped, c, Bool.true_and, decide_eq_true_eq]; omega, by simp only [SeqAt.shaped, c', Bool.true_and, decide_eq_true_eq]; omega, ?_⟩
  by_cases h : x = y
  · subst h
    rw [e] at e'; cases e'
    rw [eqv_refl a c]; simp
  · rw [decide_eq_false h]
    cases q : PyData.eqv a b with
    | false => rfl
    | true => exact absurd (u hy e' q) h
open Classical in
theorem empty2_pl {x y : D} {b : Bool} (hx : plD 40 x = true) (hy : plD 40 y = true) (h : empty2 x y = some b) : b = decide (x = y) := by
  unfold empty2 at h
  split at h
  · split at h
    · rename_i z
      cases h
      rw [decide_eq_decide]
      rcases z with rfl | rfl <;> simp [List.length_eq_zero_iff, eq_comm]
    · cases h
  · simp [plD] at hx
  · split at h
    · rename_i z
      cases h
      rw [decide_eq_decide]
      rcases z with rfl | rfl <;> simp [List.length_eq_zero_iff, eq_comm]
    · cases h
  · cases h
    rw [decide_eq_decide]; simp
  · cases h
open Classical in
theorem gEqU_pl {x y : D} (hx : plD 40 x = true) (hy : plD 40 y = true) (k) : gEqU x y k = k (.bl (decide (x = y))) := by
  unfold gEqU
  split
  · rename_i b h; rw [empty2_pl hx hy h]
  · obtain ⟨a, b, e, e', s, s', q⟩ := gEq_pl (by decide) hx hy
    rw [gEq_of e e' s s', q]
open Classical in
theorem gNeU_pl {x y : D} (hx : plD 40 x = true) (hy : plD 40 y = true) (k) : gNeU x y k = k (.bl (!decide (x = y))) := by
  unfold gNeU
  split
  · rename_i b h; rw [empty2_pl hx hy h]
  · obtain ⟨a, b, e, e', s, s', q⟩ := gEq_pl (by decide) hx hy
    rw [gNe_of e e' s s', q]
end DL

/-! DG25: raise C(), raise C(e); try: .. except C as e: v = e; e.f, isinstance of a caught exception -/
namespace L2
open PySem PySem.Spec PyProof.Rows
theorem pmk_own0 {X : Cx} {C : Addr} {bmB : List Value} {B newId initId : String} {x : Str} {p pos : Pos} (F : ExcBaseFacts B newId initId bmB) (q : PySem.W.excIn X.K C bmB newId = true) (gC : X.mg x = some (.ref C)) (kC : PySem.W.keepIn X.K (.ref C) = true) (r : Raises X (.ref C)) (hg : Gl X x)
    (hdb : (x == ("__debug__" : Str)) = false := by decide) :
    PMk X (.Call (.Name x p) [] [] pos) (fun σ H Q => Q (.ref C) none H) := by
  intro pins s σ H Q I h
  refine wpAny_Call_Name_kw (ld_glob I hg gC ?_ hdb)
  refine PySem.W.callWith_K0 I.kIn kC ?_
  obtain ⟨bm, N, nm, qn, bs, hdct, sn, sub, ab, col, dd, k0, k1, k2, k3, k5, mN, hC, hN, hni, T⟩ := exc_obj I.kIn q
  refine wpAny_call_exc_subT F T hC hN hni (fun h' e hm => ?_) (by show 0 ≤ sizeLine; exact Nat.zero_le _)
  exact mk_of I hm r h (I.hok.gone hm.new)
end L2
namespace DL
open PySem L2
/-- an own exception class over ValueError -/
structure XcC (K : PySem.W.Frag) (mg : Str → Option Value) (n : Str) (C : Addr) : Prop where
  ic : IsCl K n C
  mc : mg n = some (.ref C)
  kp : PySem.W.keepIn K (.ref C) = true
  sb : PySem.W.subIn K (.ref C) (.type "BaseException") = some true
  ty : PySem.W.typeIn K (.ref C) = some (.type "type")
/-- .. without an __init__ of its own -/
structure XcN (K : PySem.W.Frag) (mg : Str → Option Value) (n : Str) (C : Addr) : Prop where
  c : XcC K mg n C
  ex : PySem.W.excIn K C PySem.HandSPX.veTail "ValueError.__new__" = true
/-- .. with one field, that its __init__ sets -/
structure XcI (K : PySem.W.Frag) (mg : Str → Option Value) (n f : Str) (C : Addr) : Prop where
  c : XcC K mg n C
  ex : ∃ (fI : Addr) (fd : FuncData) (qual : Str) (st : Stmt) (p1 p2 p3 p4 : Pos), FunG K "__init__" qual st fI fd ∧ Binds K fd ["self", f] [] ∧ FnScope ["self", f] ["self", f] (defScope st) ∧
    defBody st = [.Assign [.Attribute (.Name "self" p1) f p2] (.Name f p3) p4] ∧ L2.OexC K C ∧ PySem.W.findIn K (.ref C) "__init__" = some (some (.ref fI)) ∧ PySem.W.typeIn K (.ref fI) = some (.type "function") ∧
    PySem.W.findIn K (.ref C) f = some none ∧ (f == ("__debug__" : Str)) = false ∧ (f == ("__classdict__" : Str)) = false
def fRaise0 (n : Str) : FS := fun ρ S => S.ex ⟨n, []⟩ ρ
@[simp ↓] theorem fRaise0_ap (n : Str) (ρ : Env) (S : SPo) : fRaise0 n ρ S = S.ex ⟨n, []⟩ ρ := (rfl)
section
variable {X : Cx} {Wx : WX} {P L I J J1 : List Nat} {e : Expr} {te : TE} {F : FE} {pos p pos' : Pos} {n f : Str} {C : Addr}
theorem ds_raise0 (hc : X.calm = true) (tk : Takes X Wx) (E : XcN X.K X.mg n C) (hg : Gl X n := by rfl) (hdb : (n == ("__debug__" : Str)) = false := by decide) (hP : ∀ j ∈ I, j ∉ P := by decide) :
    DS X Wx P L I (.Raise (some (.Call (.Name n p) [] [] pos)) none pos') (fRaise0 n) J := by
  refine ⟨_, ps_raise hc tk (pmk_own0 PySem.F.excBase_ValueError E.ex E.c.mc E.c.kp (raises_own E.c.sb E.c.ty) hg hdb), fun W ρ σ Hb H D S EE f q => ?_⟩
  obtain ⟨Hb2, E2, s2⟩ := EE.drop (J := []) (fun j q => by cases q) hP
  exact q.ex _ _ _ _ _ _ _ f E2 ⟨⟨C, E.c.ic, rfl⟩, .inl ⟨rfl, rfl⟩⟩
end
end DL

/-! DG26: try: .. except C as e: v = e over data; what is asked of a caught exception -/
namespace DL
open PySem L2
/-- what is known of the classes that a clause may meet -/
def fTryKeep (ts : List (Str × Bool)) (i j : Nat) (B : FS) : FS := fun ρ S => B ρ { S with ex := fun e ρ1 => match ts.lookup e.C with
  | some true => S.nx (put (put ρ1 j (some (.xc e.C e.fs))) i none)
  | some false => S.ex e ρ1
  | none => False }
/-- how an exception ends in the clause -/
def kept (ts : List (Str × Bool)) (n : Str) (yes no : Prop) : Prop := match ts.lookup n with
  | some true => yes
  | some false => no
  | none => False
def SPo.kp (S : SPo) (ts : List (Str × Bool)) (i j : Nat) : SPo := { S with ex := fun e ρ1 => kept ts e.C (S.nx (put (put ρ1 j (some (.xc e.C e.fs))) i none)) (S.ex e ρ1) }
@[simp ↓] theorem kp_nx (S : SPo) (ts i j) : (S.kp ts i j).nx = S.nx := (rfl)
@[simp ↓] theorem kp_rt (S : SPo) (ts i j) : (S.kp ts i j).rt = S.rt := (rfl)
@[simp ↓] theorem kp_bk (S : SPo) (ts i j) : (S.kp ts i j).bk = S.bk := (rfl)
@[simp ↓] theorem kp_ct (S : SPo) (ts i j) : (S.kp ts i j).ct = S.ct := (rfl)
@[simp ↓] theorem kp_ex (S : SPo) (ts i j n fs ρ) : (S.kp ts i j).ex ⟨n, fs⟩ ρ = kept ts n (S.nx (put (put ρ j (some (.xc n fs))) i none)) (S.ex ⟨n, fs⟩ ρ) := (rfl)
@[simp ↓] theorem fTryKeep_ap (ts i j) (B : FS) (ρ : Env) (S : SPo) : fTryKeep ts i j B ρ S = B ρ (S.kp ts i j) := (rfl)
theorem kept_yes {ts : List (Str × Bool)} {n : Str} {a b : Prop} (h : ts.lookup n = some true) : kept ts n a b = a := by unfold kept; rw [h]
theorem EnvOk.clear {K : PySem.W.Frag} {W : Wd} {P I : List Nat} {ρ : Env} {σ : St} {Hb H : Hp} {i : Nat} (E : EnvOk K W P I ρ σ Hb H) (hP : i ∉ P) (hI : i ∉ I) : EnvOk K W P I (put ρ i none) (σ.set i none) Hb H := by
  have := E.wiped (vs := [i]) (fun v hv => by rw [List.mem_singleton] at hv; subst hv; exact ⟨hP, hI⟩)
  simpa [wipe] using this
section
variable {K : PySem.W.Frag} {W : Wd} {P I I' : List Nat} {ρ ρ' : Env} {σ σ' : St} {Hb H Hb' H' : Hp}
/-- what is known now may be asked of all that comes -/
theorem EnvOk.reb (E : EnvOk K W P I ρ σ Hb H) : EnvOk K ⟨Hb, W.H, W.ps, W.rt⟩ P I ρ σ Hb H :=
  ⟨E.sub, ⟨Sub.refl _, fun a o h n nt => (E.stp.fr a o h n nt).imp id fun ⟨h1, h2, h3⟩ => ⟨fun z => by
    have z : Hb a = none := z
    cases q : W.Hb a with
    | none => exact h1 q
    | some u =>
      obtain ⟨u', e, _⟩ := E.stp.hb a u q
      rw [z] at e; (cases e), h2, h3⟩, fun a o h => .inl (fun z => by have z : Hb a = none := z; rw [h] at z; cases z), E.stp.al, E.stp.tp⟩, E.len, E.val, E.celF, E.sepF, E.tab⟩
theorem EnvOk.unreb (E : EnvOk K W P I ρ σ Hb H) (E' : EnvOk K ⟨Hb, W.H, W.ps, W.rt⟩ P I' ρ' σ' Hb' H') : EnvOk K W P I' ρ' σ' Hb' H' :=
  ⟨E'.sub, ⟨E.stp.hb.trans E'.stp.hb, fun a o h n nt => (E'.stp.fr a o h n nt).imp id fun ⟨h1, h2, h3⟩ => ⟨fun z => by
    have h1 : Hb a ≠ none := h1
    cases q : Hb a with
    | none => exact h1 q
    | some u =>
      rcases E.stp.fs a u q with r | r | ⟨vs, r⟩
      · exact r z
      · rw [h] at r; cases r
      · rw [h] at r; cases r; (cases h2), h2, h3⟩, fun a o h => by
    rcases E'.stp.fs a o h with r | r | r
    · have r : Hb a ≠ none := r
      cases q : Hb a with
      | none => exact absurd q r
      | some u => exact E.stp.fs a u q
    · exact .inr (.inl r)
    · exact .inr (.inr r), E'.stp.al, E'.stp.tp⟩, E'.len, E'.val, E'.celF, E'.sepF, E'.tab⟩
end
section
variable {X : Cx} {Wx : WX} {P L I J J1 : List Nat} {e : Expr} {te : TE} {F : FE} {pos p pos' : Pos} {n f : Str} {C : Addr}
theorem ds_tryKeep {ts : List (Str × Bool)} {x v : Str} {c : Value} {body : List Stmt} {np p1 p2 p3 : Pos} {Fb : FS} (i j : Nat) (hs : X.stack = X.env :: X.outer) (hf : X.env.frame = some X.env.locals) (hex : X.ex = []) (hN : X.N.Nodup) (tk : Takes X Wx) (hc : Names X x c)
    (hts : ∀ m b, ts.lookup m = some b → ∀ C, IsCl X.K m C → PySem.W.exmOne X.K (.ref C) c = some b)
    (hb : ∀ (W : WX) (pn : List (Addr × Obj)) (xe : Value → Shared → Prop), Takes (X.tr pn xe) W → PassesOwn (model X.prog X.w) X.A X.env xe → DSs (X.tr pn xe) W P L I body Fb [])
    (hi : X.N[i]? = some n := by rfl) (hj : X.N[j]? = some v := by rfl) (hln : X.env.kindOf n = some .local := by rfl) (hvn : Vis X.env.scope n := by first | exact Or.inl rfl | exact Or.inr (Or.inl rfl) | exact Or.inr (Or.inr rfl)) (hlv : Loc X.env.scope v := by first | exact Or.inl rfl | exact Or.inr rfl)
    (hfv : X.fn v = true ∨ X.env.scope.names.lookup v = some .local := by first | exact Or.inr rfl | exact Or.inl rfl) (hij : i ≠ j := by decide)
    (hd1 : (n == ("__debug__" : Str)) = false := by decide) (hd2 : (n == ("__classdict__" : Str)) = false := by decide) (hsw : ∀ (A : Addr) (pn : List (Addr × Obj)), swapsWith (.Name n p2) (some (.Name v p1)) p3.line X.env = pure false := by intro _ _; rfl)
    (hiP : i ∉ P := by decide) (hjP : j ∉ P := by decide) :
    DS X Wx P L I (.Try body [.ExceptHandler (some (.Name x np)) (some n) [.Assign [.Name v p1] (.Name n p2) p3] pos'] [] [] pos) (fTryKeep ts i j Fb) [] := by
  classical
  let tb : WX → TS := fun W D σ H => ∀ pn xe (h1 : Takes (X.tr pn xe) W) (h2 : PassesOwn (model X.prog X.w) X.A X.env xe), Classical.choose (hb W pn xe h1 h2).run D σ H
  have ht : ∀ (W : WX) (pn : List (Addr × Obj)) (xe : Value → Shared → Prop), Takes (X.tr pn xe) W → PassesOwn (model X.prog X.w) X.A X.env xe → PSs (X.tr pn xe) body (tb W) := fun W pn xe h1 h2 =>
    ⟨fun pins s σ H D I q => (Classical.choose_spec (hb W pn xe h1 h2).run).1.run pins s σ H D I (q pn xe h1 h2)⟩
  refine ⟨_, ps_try_keep hs hf hex hN hi hj hln hvn hlv hfv hc tk hd1 hd2 hsw ht, fun W ρ σ Hb H D S E f q => ?_⟩
  intro pn xe h1 h2
  refine (Classical.choose_spec (hb _ pn xe h1 h2).run).2 _ ρ σ Hb H D (S.kp ts i j) E.reb f ⟨fun ρ' σ' Hb' H' a E' s' => q.nx _ _ _ _ a (E.unreb E') s', fun d ρ' σ' v Hb' H' a E' is => q.rt _ _ _ _ _ _ a (E.unreb E') is,
    fun ρ' σ' Hb' H' a E' s' => q.bk _ _ _ _ a (E.unreb E') s', fun ρ' σ' Hb' H' a E' s' => q.ct _ _ _ _ a (E.unreb E') s', fun c ρ' cls dx σ' Hb' H' a E' xi => ?_⟩
  have sub : Sub Hb Hb' := E'.stp.hb
  have E' : EnvOk X.K W P [] ρ' σ' Hb' H' := E.unreb E'
  obtain ⟨⟨C, ic, rfl⟩, xf⟩ := xi
  have a : kept ts c.C (S.nx (put (put ρ' j (some (.xc c.C c.fs))) i none)) (S.ex c ρ') := a
  unfold kept at a
  split at a
  · rename_i hl
    refine ⟨true, hts _ _ hl C ic, fun _ z nz => ?_, fun h => by cases h⟩
    have nb : Hb' z = none := E'.sub.none nz
    have E2 := E'.alloc (o := XcO (.ref C) dx z) nz
    have is : Is X.K (upd Hb' z (XcO (.ref C) dx z)) (.ref z) (.xc c.C c.fs) := by
      rcases xf with ⟨e1, rfl⟩ | ⟨d, vs, rfl, h2, h3, h4⟩
      · rw [e1]; exact .xc0 ic upd_same
      · have ne : d ≠ z := fun e => by rw [e, nb] at h2; cases h2
        exact .xcd ic upd_same (by rw [upd_ne ne]; exact h2) h3 (h4.mono (Sub.new nb))
    have E3 := (E2.set (i := j) is hjP (by simp)).clear (i := i) hiP (by simp)
    have es : ((σ'.set i (some (.ref z))).set j (some (.ref z))).set i none = (σ'.set j (some (.ref z))).set i none := by
      rw [List.set_comm _ _ hij, List.set_set]
    rw [es]
    exact q.nx _ _ _ _ a E3 (sub.trans (Sub.new nb))
  · rename_i hl
    exact ⟨false, hts _ _ hl C ic, (fun h => by cases h), fun _ => q.ex _ _ _ _ _ _ _ a E' ⟨⟨C, ic, rfl⟩, xf⟩⟩
  · exact a.elim
end
end DL

/-! DG27: e.f, isinstance of a caught exception; own exception classes as the top leaves them -/
namespace DL
open PySem L2
theorem xcO_inst {P : Program} {w : World} {H : Hp} {h : Heap} {a C : Addr} {dx : Option Addr} (hok : HOk P w H h) (ea : H a = some (XcO (.ref C) dx a)) (ed : ∀ d, dx = some d → ∃ fs, H d = some (.xd fs)) :
    ∃ oe od, PySem.W.InstAt h a oe C od ∧ ∀ d fs, dx = some d → H d = some (.xd fs) → ∃ mA, h.Ns1 d mA ∧ (∀ f, RelO (fs.lookup f) (mA f)) ∧ (∀ f, PySem.W.lookIn f (od.getD default) = some (mA f)) ∧ od.isSome := by
  obtain ⟨⟨oe, vs, ha, hz, hd⟩, _, _⟩ := (show ObjOk P w H h a (XcO (.ref C) dx a) from hok a _ ea)
  cases dx with
  | none =>
    exact ⟨oe, none, ⟨ha, hz.1, by unfold PySem.W.notCls; rw [hd] <;> rfl, by rw [hz.2]; trivial⟩, fun d fs e => by cases e⟩
  | some d =>
    obtain ⟨fs, e⟩ := ed d rfl
    have hx : ObjOk P w H h d (.xd fs) := hok d _ e
    obtain ⟨mA, hns, hr⟩ := hx
    obtain ⟨od, ho, hl⟩ := lookIn_ns hns
    refine ⟨oe, some od, ⟨ha, hz.1, by unfold PySem.W.notCls; rw [hd] <;> rfl, by rw [hz.2]; exact ho⟩, fun d' fs' e1 e2 => ?_⟩
    cases e1
    rw [e] at e2; cases e2
    exact ⟨mA, hns, hr, hl, rfl⟩
/-- the class D of a caught exception, as isinstance asks -/
structure XcQ (K : PySem.W.Frag) (D : Addr) : Prop where
  x : ExcC K D
def rIsX (K : PySem.W.Frag) : List V → Hp → VK → Prop := fun xs H Q => ∃ (a D cA : Addr) (dx : Option Addr) (b : Bool), xs = [.ref a, .ref cA] ∧ H a = some (XcO (.ref D) dx a) ∧ (∀ d, dx = some d → ∃ fs, H d = some (.xd fs)) ∧ ExcC K D ∧ PySem.W.kitOne K (.ref D) (.ref cA) = some b ∧ Q (.bl b) H
theorem call_isX {X : Cx} : CallR X (.builtin "isinstance") (rIsX X.K) := by
  intro pins s σ H xs us Q I r h
  obtain ⟨a, D, cA, dx, b, rfl, ea, ed, C, e, q⟩ := h
  obtain ⟨u1, u2, rfl, r1, r2⟩ := vals2 r
  cases (show u1 = Value.ref a from r1)
  cases (show u2 = Value.ref cA from r2)
  obtain ⟨oe, od, J, _⟩ := xcO_inst I.hok ea ed
  have hcl : (PySem.W.clsIn X.K D).isSome = true := by
    obtain ⟨cd, hc, _⟩ := PySem.W.any_some C.hd
    rw [hc]; rfl
  exact PySem.W.kia_one (PySem.W.kitx_exc hcl C.hg C.hk C.hs C.ha C.hn C.ht C.hm) I.kIn J e (fun z => nomatch z) fun tk => ⟨.bl b, H, I.tok tk, rfl, q⟩
def fIsiX (ts : List (Str × Bool)) (F : FE) : FE := fun ρ post xp => F ρ (fun d ρ1 => ∃ m fs b, d = .xc m fs ∧ ts.lookup m = some b ∧ post (.bl b) ρ1) xp
@[simp ↓] theorem fIsiX_ap (ts) (F : FE) (ρ : Env) (post : Post) (xp : XP) : fIsiX ts F ρ post xp = F ρ (fun d ρ1 => ∃ m fs b, d = .xc m fs ∧ ts.lookup m = some b ∧ post (.bl b) ρ1) xp := (rfl)
section
variable {X : Cx} {Wx : WX} {P I J : List Nat} {e : Expr} {ta : TE} {F : FE} {pos p1 p2 : Pos} {n m y : Str} {C : Addr}
theorem is_xc {K : PySem.W.Frag} {Hb H : Hp} (s : Sub Hb H) {v : V} {n : Str} {fs : List (Str × D)} (i : Is K Hb v (.xc n fs)) : ∃ a C dx, v = .ref a ∧ IsCl K n C ∧ H a = some (XcO (.ref C) dx a) ∧ ((fs = [] ∧ dx = none) ∨ ∃ d vs, dx = some d ∧ H d = some (.xd vs) ∧ vs.map (·.1) = fs.map (·.1) ∧ IsL K Hb (vs.map (·.2)) (fs.map (·.2))) := by
  cases i with
  | xc0 ic h => exact ⟨_, _, none, rfl, ic, s.at h, .inl ⟨rfl, rfl⟩⟩
  | xcd ic h g e l => exact ⟨_, _, some _, rfl, ic, s.at h, .inr ⟨_, _, rfl, s.at g, e, l⟩⟩
theorem de_isiX {ts : List (Str × Bool)} (hm : X.mg y = some (.ref C)) (hmi : X.mg "isinstance" = none) (hts : ∀ m b, ts.lookup m = some b → ∀ D, IsCl X.K m D → ExcC X.K D ∧ PySem.W.kitOne X.K (.ref D) (.ref C) = some b) (ha : DE X Wx P I e ta F J) (hg : Gl X "isinstance" := by rfl) (hgc : Gl X y := by rfl) (hdc : (y == ("__debug__" : Str)) = false := by decide)
    (he : starEach [e, .Name y p2] X.env = (false, eval e X.env) :: starEach [.Name y p2] X.env := by rfl) (hpl : (backTo pos (starEach [.Name y p2] X.env)).any (·.1) = false := by rfl) :
    DE X Wx P I (.Call (.Name "isinstance" p1) [e, .Name y p2] [] pos) (tCB (rIsX X.K) (tCons ta (tCons (tC (.ref C)) tNil))) (fIsiX ts F) J := by
  refine de_of (pe_callB (id := "isinstance") call_isX hg hmi rfl (pa_cons ha.pe (hs := he) (pa_cons (pe_glob hgc hm rfl hdc) pa_nil)) (he := he) (hpl := hpl)) fun W ρ σ Hb H Q post xp E f x q => ha.ev W ρ σ Hb H _ _ xp E f x fun d ρ1 v Hb1 H1 f1 E1 s1 i1 => ?_
  obtain ⟨m, fs, b, rfl, hb, f1⟩ := f1
  obtain ⟨a, D, dx, rfl, hc', hh, r⟩ := is_xc E1.sub i1
  obtain ⟨h1, h2⟩ := hts m b hb D hc'
  exact ⟨a, D, C, dx, b, rfl, hh, fun d ed => by
    rcases r with ⟨_, e2⟩ | ⟨dd, vs, e2, h3, _, _⟩
    · rw [e2] at ed; cases ed
    · rw [e2] at ed; cases ed; exact ⟨vs, h3⟩, h1, h2, q _ _ _ _ _ f1 E1 s1 (.bl b)⟩
end
end DL

/-! DG28: xs[::-1] of a list; isinstance of a caught exception: built-in classes, tuples of classes; classes by a table -/
namespace DL
open PySem L2
open PyProof.Rows (tail_any Subscript_)
section
variable {X : Cx} {Wx : WX} {P I J J1 : List Nat} {e : Expr} {ta : TE} {F : FE} {A : FO} {pos p1 p2 : Pos} {n m y : Str} {C : Addr}
/-- isinstance(e, c), c any class -/
def rIsXU (K : PySem.W.Frag) : List V → Hp → VK → Prop := fun xs H Q => ∃ (a D : Addr) (c : V) (u : Value) (dx : Option Addr) (b : Bool), xs = [.ref a, c] ∧ ClsV c u ∧ H a = some (XcO (.ref D) dx a) ∧ (∀ d, dx = some d → ∃ fs, H d = some (.xd fs)) ∧ ExcC K D ∧ PySem.W.kitOne K (.ref D) u = some b ∧ Q (.bl b) H
theorem known_cls {K : PySem.W.Frag} {D : Addr} (C : ExcC K D) : (PySem.W.clsIn K D).isSome = true := by
  obtain ⟨cd, hc, _⟩ := PySem.W.any_some C.hd
  rw [hc]; rfl
theorem call_isXU {X : Cx} : CallR X (.builtin "isinstance") (rIsXU X.K) := by
  intro pins s σ H xs us Q I r ⟨a, D, c, u, dx, b, ex, k, ea, ed, C, e, q⟩
  subst ex
  obtain ⟨u1, u2, rfl, r1, r2⟩ := vals2 r
  cases (show u1 = Value.ref a from r1)
  cases k.eq r2
  obtain ⟨oe, od, J, _⟩ := xcO_inst I.hok ea ed
  exact PySem.W.kia_one (PySem.W.kitx_exc (known_cls C) C.hg C.hk C.hs C.ha C.hn C.ht C.hm) I.kIn J e (fun z => nomatch z) fun tk => ⟨.bl b, H, I.tok tk, rfl, q⟩
/-- isinstance(e, (c, ..)) -/
def rIsXT (K : PySem.W.Frag) : List V → Hp → VK → Prop := fun xs H Q => ∃ (a D tp : Addr) (cs : List V) (us : List Value) (dx : Option Addr) (b : Bool), xs = [.ref a, .ref tp] ∧ H tp = some (.tup cs) ∧ Paired ClsV cs us ∧ H a = some (XcO (.ref D) dx a) ∧ (∀ d, dx = some d → ∃ fs, H d = some (.xd fs)) ∧ ExcC K D ∧ PySem.W.kitAny K (.ref D) us = some b ∧ Q (.bl b) H
theorem call_isXT {X : Cx} : CallR X (.builtin "isinstance") (rIsXT X.K) := by
  intro pins s σ H xs us Q I r ⟨a, D, tp, cs, ws, dx, b, ex, hT, k, ea, ed, C, e, q⟩
  subst ex
  obtain ⟨u1, u2, rfl, r1, r2⟩ := vals2 r
  cases (show u1 = Value.ref a from r1)
  cases (show u2 = Value.ref tp from r2)
  obtain ⟨oe, od, J, _⟩ := xcO_inst I.hok ea ed
  obtain ⟨_, its, rv, o, h1, h2, n, h3⟩ := (show ObjOk X.prog X.w H s.heap tp (.tup cs) from I.hok tp _ hT)
  cases ClsV.all k rv
  obtain ⟨oc, od', dt, sl⟩ := o
  cases (show oc = _ from h2)
  cases (show dt = _ from h3)
  exact PySem.W.kia_tup (PySem.W.kitx_exc (known_cls C) C.hg C.hk C.hs C.ha C.hn C.ht C.hm) I.kIn J h1 e (fun z => nomatch z) fun tk => ⟨.bl b, H, I.tok tk, rfl, q⟩
/-- by a built-in class -/
theorem de_isiXB {ts : List (Str × Bool)} {N : String} (hm : X.mg y = none) (hv : bootBuiltins y = some (.type N)) (hmi : X.mg "isinstance" = none) (hts : ∀ m b, ts.lookup m = some b → ∀ D, IsCl X.K m D → ExcC X.K D ∧ PySem.W.kitOne X.K (.ref D) (.type N) = some b) (ha : DE X Wx P I e ta F J) (hg : Gl X "isinstance" := by rfl) (hgc : Gl X y := by rfl) (hnn : y ≠ "__name__" := by decide) (hdc : (y == ("__debug__" : Str)) = false := by decide)
    (he : starEach [e, .Name y p2] X.env = (false, eval e X.env) :: starEach [.Name y p2] X.env := by rfl) (hpl : (backTo pos (starEach [.Name y p2] X.env)).any (·.1) = false := by rfl) :
    DE X Wx P I (.Call (.Name "isinstance" p1) [e, .Name y p2] [] pos) (tCB (rIsXU X.K) (tCons ta (tCons (tC (.ty N)) tNil))) (fIsiX ts F) J := by
  refine de_of (pe_callB (id := "isinstance") call_isXU hg hmi rfl (pa_cons ha.pe (hs := he) (pa_cons (pe_bltn hgc hm hv (v := .ty N) rfl hnn hdc) pa_nil)) (he := he) (hpl := hpl)) fun W ρ σ Hb H Q post xp E f x q => ha.ev W ρ σ Hb H _ _ xp E f x fun d ρ1 v Hb1 H1 f1 E1 s1 i1 => ?_
  obtain ⟨m, fs, b, rfl, hb, f1⟩ := f1
  obtain ⟨a, D, dx, rfl, hc', hh, r⟩ := is_xc E1.sub i1
  obtain ⟨h1, h2⟩ := hts m b hb D hc'
  exact ⟨a, D, .ty N, .type N, dx, b, rfl, .ty N, hh, fun d ed => by
    rcases r with ⟨_, e2⟩ | ⟨dd, vs, e2, h3, _, _⟩
    · rw [e2] at ed; cases ed
    · rw [e2] at ed; cases ed; exact ⟨vs, h3⟩, h1, h2, q _ _ _ _ _ f1 E1 s1 (.bl b)⟩
/-- names of own classes -/
inductive ClNm (X : Cx) : List Expr → List Addr → Prop
  | nil : ClNm X [] []
  | cons {x : Str} {p : Pos} {C : Addr} {es : List Expr} {cs : List Addr} (hm : X.mg x = some (.ref C)) (hg : Gl X x) (hd : (x == ("__debug__" : Str)) = false) (r : ClNm X es cs) : ClNm X (.Name x p :: es) (C :: cs)
theorem ClNm.len {X : Cx} : ∀ {es : List Expr} {cs : List Addr}, ClNm X es cs → es.length = cs.length
  | _, _, .nil => rfl
  | _, _, .cons _ _ _ r => by simp [r.len]
def tCls2 : List Addr → TA
  | [] => tNil
  | C :: cs => tCons (tC (.ref C)) (tCls2 cs)
theorem pa_cls : ∀ {es : List Expr} {cs : List Addr}, ClNm X es cs → PA X es (tCls2 cs)
  | _, _, .nil => pa_nil
  | _, _, .cons hm hg hd r => pa_cons (pe_glob hg hm rfl hd) (pa_cls r)
theorem tCls2_ok : ∀ (cs : List Addr) (σ : St) (H : Hp) (Q : List V → Hp → Prop), Q (cs.map V.ref) H → tCls2 cs σ H Q
  | [], _, _, _, q => q
  | _ :: cs, σ, H, Q, q => tCls2_ok cs σ H _ q
theorem de_isiXT {ts : List (Str × Bool)} {es : List Expr} {cs : List Addr} {tpos : Pos} {kk : Nat} (hn : ClNm X es cs) (hmi : X.mg "isinstance" = none) (hts : ∀ m b, ts.lookup m = some b → ∀ D, IsCl X.K m D → ExcC X.K D ∧ PySem.W.kitAny X.K (.ref D) (cs.map Value.ref) = some b) (ha : DE X Wx P I e ta F J) (hl : es.length ≤ 1000 := by decide) (hg : Gl X "isinstance" := by rfl)
    (he : starEach [e, .Tuple es kk tpos] X.env = (false, eval e X.env) :: starEach [.Tuple es kk tpos] X.env := by rfl) (hpl : (backTo pos (starEach [.Tuple es kk tpos] X.env)).any (·.1) = false := by rfl)
    (hs : starEach [.Tuple es kk tpos] X.env = (false, eval (.Tuple es kk tpos) X.env) :: starEach [] X.env := by rfl) :
    DE X Wx P I (.Call (.Name "isinstance" p1) [e, .Tuple es kk tpos] [] pos) (tCB (rIsXT X.K) (tCons ta (tCons (tTup (tCls2 cs)) tNil))) (fIsiX ts F) J := by
  have pt : PE X (.Tuple es kk tpos) (tTup (tCls2 cs)) := pe_tup (pa_cls hn)
  refine de_of (pe_callB (id := "isinstance") call_isXT hg hmi rfl (pa_cons ha.pe (hs := he) (pa_cons pt pa_nil (hs := hs))) (he := he) (hpl := hpl)) fun W ρ σ Hb H Q post xp E f x q => ha.ev W ρ σ Hb H _ _ xp E f x fun d ρ1 v Hb1 H1 f1 E1 s1 i1 => ?_
  obtain ⟨m, fs, b, rfl, hb, f1⟩ := f1
  obtain ⟨a, D, dx, rfl, hc', hh, r⟩ := is_xc E1.sub i1
  obtain ⟨h1, h2⟩ := hts m b hb D hc'
  have cl : ∀ cs : List Addr, Paired ClsV (cs.map V.ref) (cs.map Value.ref) := fun cs => by
    induction cs with
    | nil => exact .nil
    | cons c cs ih => exact .cons (.own c) ih
  refine tCls2_ok cs σ H1 _ ⟨?_, fun p hp => ?_⟩
  · rw [List.length_map, ← hn.len]; exact Nat.le_trans hl (by decide)
  · have na : a ≠ p := fun z => by rw [z, hp] at hh; cases hh
    have hnb : Hb1 p = none := E1.sub.none hp
    exact ⟨a, D, p, cs.map V.ref, cs.map Value.ref, dx, b, rfl, upd_same, cl cs, by rw [upd_ne na]; exact hh, fun d ed => by
      rcases r with ⟨_, e2⟩ | ⟨dd, vs, e2, h3, _, _⟩
      · rw [e2] at ed; cases ed
      · rw [e2] at ed; cases ed
        exact ⟨vs, by rw [upd_ne (fun z => by rw [z, hp] at h3; cases h3)]; exact h3⟩, h1, h2, q _ _ _ _ _ f1 (E1.alloc hp) (s1.trans (Sub.new hnb)) (.bl b)⟩
end
/-! facts by a table of classes -/
theorem ts_nil {K : PySem.W.Frag} {Φ : Addr → Bool → Prop} : ∀ m b, ([] : List (Str × Bool)).lookup m = some b → ∀ D, IsCl K m D → Φ D b := fun m b h => by simp at h
theorem ts_cons {K : PySem.W.Frag} {Φ : Addr → Bool → Prop} {n : Str} {C : Addr} {b : Bool} {ts : List (Str × Bool)} (ic : IsCl K n C) (h : Φ C b) (r : ∀ m b, ts.lookup m = some b → ∀ D, IsCl K m D → Φ D b) : ∀ m b', ((n, b) :: ts).lookup m = some b' → ∀ D, IsCl K m D → Φ D b' := fun m b' e D ic' => by
  by_cases q : m = n
  · subst q
    simp [List.lookup] at e
    subst e
    rw [ic.eq ic'] at h; exact h
  · have : (m == n) = false := by simpa using q
    simp only [List.lookup, this] at e
    exact r m b' e D ic'
end DL

/-! DG29: o[y] by an own __getitem__; len(o) by an own __len__ -/
namespace DL
open PySem L2
open PyProof.Rows (Subscript_)
section
variable {X : Cx} {Wx : WX} {P I J J1 : List Nat} {a b e : Expr} {ta tb : TE} {Fa Fb : FE} {pos p1 p2 : Pos} {n y : Str} {C f : Addr} {k : Nat} {sp : Sp} {G : DFn}
def tIxOwn (C : Addr) (sp : Sp) (ta tb : TE) : TE := fun σ H Q => ta σ H fun x H1 => tb σ H1 fun y H2 => ∃ a dx fs, x = .ref a ∧ H2 a = some (.ins C dx fs) ∧ sp [.ref a, y] H2 Q fun _ _ _ => False
theorem pe_ixOwn (hs : PySem.W.findIn X.K (.ref C) "__getitem__" = some (some (.ref f))) (hf : PySem.W.fnIn X.K f = true) (hfn : PySem.W.isFn X.K (.ref f) = true) (F : FnG X.prog X.w X.K X.mg X.base k f sp) (hr : Room (k + 1) X.A) (hgu : X.A.guards = some [])
    (ha : PE X a ta) (hb : PE X b tb) (hsub : ∀ x i : Value, subscripted b true x i = runValue (.builtin "lifetime.subscript" ⟨[x, i], []⟩)) : PE X (.Subscript a b pos) (tIxOwn C sp ta tb) := by
  refine ⟨fun pins s σ H Q I h => Subscript_ (thn (ha.run pins s σ H _ I h) fun v s1 ⟨x, H1, I1, rx, q1⟩ => thn (hb.run pins s1 σ H1 _ I1 q1) fun i s2 ⟨y, H2, I2, ry, q2⟩ => ?_)⟩
  obtain ⟨a, dx, fs, rfl, hh, hsp⟩ := q2
  obtain rfl : v = Value.ref a := rx
  obtain ⟨mA, O, _⟩ := ins_get I2.hok hh
  obtain ⟨od, J, _⟩ := O.look
  obtain ⟨m, fr⟩ := I2.fr
  refine PySem.W.sub_K fr I2.ok.mod.kin J hs hf hfn (wpAny_call (codeAny_mono (F X.A.in1 X.stack s2 H2 [.ref a, i] [.ref a, y] Q (fun _ _ _ => False) hr.in1 hgu I2.env0.in1 (.cons rfl (.cons ry .nil)) hsp) fun res s3 q => ?_)) (hsub _ _)
  cases res with
  | error er => exact (cx_no q).elim
  | ok fl =>
    cases fl with
    | ret u => exact I2.after q
    | next => exact q.elim
    | brk => exact q.elim
    | cont => exact q.elim
def fIxOwn (n : Str) (G : DFn) (Fa Fb : FE) : FE := fun ρ post xp => Fa ρ (fun o ρ1 => Fb ρ1 (fun y ρ2 => isObj n o ∧ callD G [some o, some y] (fun z _ => post z ρ2) noX .mk) xp) xp
@[simp ↓] theorem fIxOwn_ap (n : Str) (G : DFn) (Fa Fb : FE) (ρ : Env) (post : Post) (xp : XP) : fIxOwn n G Fa Fb ρ post xp = Fa ρ (fun o ρ1 => Fb ρ1 (fun y ρ2 => isObj n o ∧ callD G [some o, some y] (fun z _ => post z ρ2) noX .mk) xp) xp := (rfl)
theorem de_ixOwn (hc : IsCl X.K n C) (hs : PySem.W.findIn X.K (.ref C) "__getitem__" = some (some (.ref f))) (hf : PySem.W.fnIn X.K f = true) (hfn : PySem.W.isFn X.K (.ref f) = true) (F : FnG X.prog X.w X.K X.mg X.base k f (spD X.K 2 [] G)) (hr : Room (k + 1) X.A) (hgu : X.A.guards = some [])
    (ha : DE X Wx P I a ta Fa J1) (hb : DE X Wx P J1 b tb Fb J) (hsub : ∀ x i : Value, subscripted b true x i = runValue (.builtin "lifetime.subscript" ⟨[x, i], []⟩) := by intro _ _; with_unfolding_all rfl) :
    DE X Wx P I (.Subscript a b pos) (tIxOwn C (spD X.K 2 [] G) ta tb) (fIxOwn n G Fa Fb) J := by
  refine de_of (pe_ixOwn hs hf hfn F hr hgu ha.pe hb.pe hsub) fun W ρ σ Hb H Q post xp E f x q => ha.ev W ρ σ Hb H _ _ xp E f x fun o ρ1 v Hb1 H1 f1 E1 s1 i1 => hb.ev W ρ1 σ Hb1 H1 _ _ xp E1 f1 x fun d ρ2 v2 Hb2 H2 f2 E2 s2 i2 => ?_
  obtain ⟨⟨fs, e⟩, f2⟩ := f2
  subst e
  have i1' := i1.mono s2
  obtain ⟨a, C', dx, vs, rfl, hc', hh, e1, l1⟩ := o_obj E2.sub (.inl i1')
  obtain rfl := hc.eq hc'
  have ar : Args X.K Hb2 σ [none, none] [V.ref a, v2] [some (.obj n fs), some d] := ⟨⟨_, rfl, i1'⟩, ⟨_, rfl, i2⟩, trivial⟩
  have hsl : ∀ j ∈ slots [none, none], j ∈ P ∨ j ∈ J := fun j h => by simp [slots] at h
  have hl : ∀ j ∈ slots [none, none], get ρ2 j ≠ none := fun j h => by simp [slots] at h
  refine ⟨a, dx, vs, rfl, hh, rfl, [some (.obj n fs), some d], Hb2, _, _, E2.lend ar hsl (by simp [slots]) hl, f2, fun z ρ' v Hb' H' p1 E4 is => ?_, fun c ρ' cls dx Hb' H' p1 => p1.elim⟩
  have E3 := E2.given ar hsl (by simp [slots]) hl E4 rfl
  have eu : unfill [none, none] ρ' ρ2 = ρ2 := by rcases ρ' with _ | ⟨_, _ | _⟩ <;> rfl
  rw [eu] at E3
  exact q _ _ _ _ _ p1 E3 ((s1.trans s2).trans E4.stp.hb) is
/-! len -/
def rLenOwn (C : Addr) (sp : Sp) : List V → Hp → VK → Prop := fun xs H Q => ∃ a dx fs, xs = [V.ref a] ∧ H a = some (.ins C dx fs) ∧ sp [.ref a] H (fun z H2 => ∃ m : Int, z = .int m ∧ (0 ≤ m ∧ m < 2 ^ 63) ∧ Q (.int m) H2) fun _ _ _ => False
theorem call_lenOwn (hs : PySem.W.findIn X.K (.ref C) "__len__" = some (some (.ref f))) (hfn : PySem.W.isFn X.K (.ref f) = true) (F : FnG X.prog X.w X.K X.mg X.base k f sp) (hr : Room (k + 1) X.A) (hgu : X.A.guards = some []) : CallR X (.builtin "len") (rLenOwn C sp) := by
  intro pins s σ H xs us Q I r ⟨a, dx, fs, ex, hh, hsp⟩
  subst ex
  obtain ⟨u, eu, ru⟩ := vals1 r
  subst eu
  cases (show u = Value.ref a from ru)
  obtain ⟨mA, O, _⟩ := ins_get I.hok hh
  obtain ⟨od, J, _⟩ := O.look
  obtain ⟨m, fr⟩ := I.fr
  refine PySem.W.len_K fr I.ok.mod.kin J hs hfn (wpAny_call (codeAny_mono (F X.A.in1 X.stack s H [.ref a] [.ref a] _ (fun _ _ _ => False) hr.in1 hgu I.env0.in1 (.cons rfl .nil) hsp) fun res s3 q => ?_))
  cases res with
  | error er => exact (cx_no q).elim
  | ok fl =>
    cases fl with
    | ret u =>
      obtain ⟨z, H3, I3, rz, m, ez, hm, q3⟩ := I.after q
      subst ez
      obtain ⟨t, rfl⟩ := (show ∃ t, u = Value.int m t from rz)
      exact ⟨hm, .int m, H3, I3.tok _, ⟨_, rfl⟩, q3⟩
    | next => exact q.elim
    | brk => exact q.elim
    | cont => exact q.elim
def fLenOwn (n : Str) (G : DFn) (Fa : FE) : FE := fun ρ post xp => Fa ρ (fun o ρ1 => isObj n o ∧ callD G [some o] (fun z _ => ∃ m : Int, z = .int m ∧ (0 ≤ m ∧ m < 2 ^ 63) ∧ post (.int m) ρ1) noX .mk) xp
@[simp ↓] theorem fLenOwn_ap (n : Str) (G : DFn) (Fa : FE) (ρ : Env) (post : Post) (xp : XP) : fLenOwn n G Fa ρ post xp = Fa ρ (fun o ρ1 => isObj n o ∧ callD G [some o] (fun z _ => ∃ m : Int, z = .int m ∧ (0 ≤ m ∧ m < 2 ^ 63) ∧ post (.int m) ρ1) noX .mk) xp := (rfl)
theorem de_lenOwn (hc : IsCl X.K n C) (hs : PySem.W.findIn X.K (.ref C) "__len__" = some (some (.ref f))) (hfn : PySem.W.isFn X.K (.ref f) = true) (F : FnG X.prog X.w X.K X.mg X.base k f (spD X.K 1 [] G)) (hr : Room (k + 1) X.A) (hgu : X.A.guards = some [])
    (hml : X.mg "len" = none) (ha : DE X Wx P I a ta Fa J) (hg : Gl X "len" := by rfl) (hs1 : starEach [a] X.env = (false, eval a X.env) :: starEach [] X.env := by rfl) :
    DE X Wx P I (.Call (.Name "len" p1) [a] [] pos) (tCB (rLenOwn C (spD X.K 1 [] G)) (tCons ta tNil)) (fLenOwn n G Fa) J := by
  refine de_of (pe_callB (id := "len") (call_lenOwn hs hfn F hr hgu) hg hml rfl (pa_cons ha.pe pa_nil (hs := hs1)) (he := hs1)) fun W ρ σ Hb H Q post xp E f x q => ha.ev W ρ σ Hb H _ _ xp E f x fun o ρ1 v Hb1 H1 f1 E1 s1 i1 => ?_
  obtain ⟨⟨fs, e⟩, f2⟩ := f1
  subst e
  obtain ⟨a, C', dx, vs, rfl, hc', hh, e1, l1⟩ := o_obj E1.sub (.inl i1)
  obtain rfl := hc.eq hc'
  have ar : Args X.K Hb1 σ [none] [V.ref a] [some (.obj n fs)] := ⟨⟨_, rfl, i1⟩, trivial⟩
  have hsl : ∀ j ∈ slots [none], j ∈ P ∨ j ∈ J := fun j h => by simp [slots] at h
  have hl : ∀ j ∈ slots [none], get ρ1 j ≠ none := fun j h => by simp [slots] at h
  refine ⟨a, dx, vs, rfl, hh, rfl, [some (.obj n fs)], Hb1, _, _, E1.lend ar hsl (by simp [slots]) hl, f2, fun z ρ' v Hb' H' p1 E4 is => ?_, fun c ρ' cls dx Hb' H' p1 => p1.elim⟩
  have E3 := E1.given ar hsl (by simp [slots]) hl E4 rfl
  have eu : unfill [none] ρ' ρ1 = ρ1 := by rcases ρ' with _ | ⟨_, _⟩ <;> rfl
  rw [eu] at E3
  obtain ⟨m, rfl, hm, p1⟩ := p1
  exact ⟨m, is_int is, hm, q _ _ _ _ _ p1 E3 (s1.trans E4.stp.hb) (.int m)⟩
end
end DL

/-! DG30: enumerate over a list or a tuple. -/
namespace DL
open PySem L2 RZ
open PyProof.Rows hiding St
section
variable {X : Cx} {Wx : WX} {P L I J : List Nat} {e : Expr} {elts : List Expr} {A : FA} {pos p tpos : Pos} {kk : Nat} {tA : TA}
end
end DL

/-! DG31: calls by keywords, all parameters named, the last first. -/
namespace DL
open PySem L2
open PyProof.Rows hiding St
/-- a def's promise where m values stand ahead and the keywords ks name the others, the last parameter first -/
def FnKw (P : Program) (w : World) (K : PySem.W.Frag) (mg : Str → Option Value) (base : Heap) (k : Nat) (f : Addr) (m : Nat) (ks : List Str) (sp : Sp) : Prop :=
  ∀ (A : Around) (frs_ : List PySem.Env) (s : Shared) (H : Hp) (us0 us : List Value) (vs0 vs : List V) (Q : VK) (E : XK), Room k A → A.guards = some [] → Env0 P w K mg base A frs_ s H → Vals vs0 us0 → Vals vs us → us0.length = m → us.length = ks.length → sp (vs0 ++ vs.reverse) H Q E →
    codeAny (model P w) A (.call (.ref f) ⟨us0, ks.zip us⟩) (CR (L2.CX P w) frs_ P w H s Q E) s
section
variable {P : Program} {w : World} {K : PySem.W.Frag} {mg : Str → Option Value} {base : Heap} {j k : Nat} {f : Addr} {sp sp' : Sp} {m : Nat} {ks : List Str}
theorem FnKw.mono (F : FnKw P w K mg base j f m ks sp) (h : j ≤ k) : FnKw P w K mg base k f m ks sp := fun A o s H us0 us vs0 vs Q E r => F A o s H us0 us vs0 vs Q E (r.mono h)
end
/-! ### the call -/
structure DK (X : Cx) (Wx : WX) (P I : List Nat) (kws : List Keyword) (t : TA) (F : Env → (Env → Env → Prop) → XP → Prop) (n : Nat) (J : List Nat) : Prop where
  pe : PK X kws t
  ev : ∀ (W : Wd) (ρ : Env) (σ : St) (Hb H : Hp) (Q : List V → Hp → Prop) (post : Env → Env → Prop) (xp : XP), EnvOk X.K W P I ρ σ Hb H → F ρ post xp → XOk X Wx W P σ xp →
    (∀ ds ρ' vs Hb' H', post ds ρ' → EnvOk X.K W P J ρ' σ Hb' H' → Sub Hb Hb' → Args X.K Hb' σ (List.replicate n none) vs ds → Q vs H') → t σ H Q
section
variable {X : Cx} {Wx : WX} {P I J J1 : List Nat} {e : Expr} {F : FE} {A : Env → (Env → Env → Prop) → XP → Prop} {pos p kpos : Pos} {k n : Nat} {f : Addr} {G : DFn} {x : Str} {tA : TA} {ta : TE} {kws : List Keyword} {ks : List Str} {nm : Option Str} {sp : Sp} {E : St → XK}
end
end DL

/-! DG32: dict(xs), xs a list of pairs whose keys are tuples of ints and texts. -/
namespace DL
open PySem L2
open PyProof.Rows hiding St
/-- the values are pairs with these keys -/
inductive PrsV (H : Hp) : List V → List (List Key × V) → Prop
  | nil : PrsV H [] []
  | cons {t b : Addr} {x : V} {k : List Key} {vs : List V} {ps : List (List Key × V)} (h : H t = some (.tup [.ref b, x])) (hb : H b = some (.tup (k.map kV))) (r : PrsV H vs ps) : PrsV H (.ref t :: vs) ((k, x) :: ps)
theorem PrsV.len {H : Hp} : ∀ {vs : List V} {ps : List (List Key × V)}, PrsV H vs ps → vs.length = ps.length
  | _, _, .nil => rfl
  | _, _, .cons _ _ r => congrArg (· + 1) r.len
section
variable {X : Cx} {pins : List (Addr × Obj)} {σ : L2.St} {H : Hp} {s : Shared}
end
/-- pairs as data -/
@[simp] def prsD : List D → Option (List (List Key × D))
  | [] => some []
  | .tup [kx, v] :: r => match keyTD kx, prsD r with
    | some k, some ps => some ((k, v) :: ps)
    | _, _ => none
  | _ => none
section
variable {K : PySem.W.Frag} {Hb H : Hp}
end
end DL

/-! DG33: list(d.values()), the dict's keys tuples. -/
namespace DL
open PySem L2
open PyProof.Rows hiding St
section
variable {X : Cx} {o : Expr} {p pos apos mpos : Pos} {td : TE}
end
section
variable {X : Cx} {Wx : WX} {P I J : List Nat} {o : Expr} {p pos apos mpos : Pos} {td : TE} {F : FE}
end
end DL

/-! DG34: max of a list of ints, or of two ints. -/
namespace DL
open PySem L2
open PyProof.Rows hiding St
end DL

/-! DG35: a list times an int. -/
namespace DL
open PySem L2
open PyProof.Rows hiding St
def gRepL : G2
  | .lst a, .int j, k => (a.length ≤ 1000 ∧ 0 ≤ j ∧ j ≤ 1000) ∧ k (.lst (List.replicate j.toNat a).flatten)
  | _, _, _ => False
@[simp ↓] theorem gRepL_lst (a : List D) (j : Int) (k) : gRepL (.lst a) (.int j) k = ((a.length ≤ 1000 ∧ 0 ≤ j ∧ j ≤ 1000) ∧ k (.lst (List.replicate j.toNat a).flatten)) := (rfl)
theorem rv_repL {K : PySem.W.Frag} : RV2 K rRep gRepL := fun Hb H x y dx dy k Q s ix iy g q => by
  cases dx <;> cases dy <;> first | exact g.elim | skip
  rename_i ds j
  obtain ⟨⟨g1, g2, g3⟩, g5⟩ := g
  obtain rfl := o_int iy
  have fin : ∀ (a : Addr) (vs : List V), H a = some (.lst vs) → IsL K Hb vs ds → rRep (.ref a) (.int j) H Q := fun a vs h l => by
    refine ⟨a, j, vs, rfl, rfl, h, by omega, by omega, ?_, fun p hp => q _ _ _ _ g5 (.one hp) (.lst upd_same ((isL_rep _ l).mono (Sub.new (s.none hp))))⟩
    rw [l.length]
    have : ds.length * j.toNat ≤ 1000 * 1000 := Nat.mul_le_mul g1 (by omega)
    exact Nat.le_trans this (by decide)
  rcases ix with ix | ⟨p, rfl, c⟩
  · cases ix with
    | lst h l => exact fin _ _ (s.at h) l
  · obtain ⟨vs, h, l⟩ := c
    exact fin _ _ h l
end DL

/-! DG36: a, b, c = x, y, z. -/
namespace DL
open PySem L2
section
variable {X : Cx} {Wx : WX} {P L I J : List Nat} {pos : Pos} {tA : TA}
end
end DL

/-! DG37: walks over the values of a dict of tuple keys; pop of such a key. -/
namespace L2
open PySem PySem.Spec PyProof.Rows
/-! ### d.pop(k), k a tuple that is there -/
section
variable {K : Type} [DecidableEq K] {prog : Program} {w : World} {knd : HeapKind prog w K} {A : Around} {E : Value → Shared → Prop} {s : Shared}
end
end L2

/-! DG38: a slot gives up its cell; defs that return a new cell; a display with a new part. -/
namespace DL
open PySem L2
open PyProof.Rows hiding St

section
variable {K : PySem.W.Frag} {W : Wd} {P I J : List Nat} {ρ : Env} {σ : St} {Hb H : Hp}
end
structure DBN (X : Cx) (Wx : WX) (P I : List Nat) (body : List Stmt) (F : FE) : Prop where
  run : ∃ t, PSs X body t ∧ ∀ (W : Wd) (ρ : Env) (σ : St) (Hb H : Hp) (D : Ends) (post : Post) (xp : XP), EnvOk X.K W P I ρ σ Hb H → F ρ post xp →
    (∀ c ρ' cls dx σ' Hb' H', xp c ρ' → EnvOk X.K W P [] ρ' σ' Hb' H' → XIs X.K Hb' cls dx c → Wx cls dx σ' H') →
    (∀ d ρ' σ' p Hb' H', post d ρ' → EnvOk X.K W P [] ρ' σ' Hb' H' → NewAt X.K W P [] ρ' σ' Hb' H' p d → D.rt (.ref p) H') → t D σ H
def SPo.nn (B : FE) (post : Post) (xp : XP) : SPo := { nx := fun ρ1 => B ρ1 post xp, rt := fun _ _ => False, bk := fun _ => False, ct := fun _ => False, ex := xp }
@[simp ↓] theorem nn_nx (B : FE) (post : Post) (xp : XP) : (SPo.nn B post xp).nx = fun ρ1 => B ρ1 post xp := (rfl)
@[simp ↓] theorem nn_rt (B : FE) (post : Post) (xp : XP) : (SPo.nn B post xp).rt = fun _ _ => False := (rfl)
@[simp ↓] theorem nn_bk (B : FE) (post : Post) (xp : XP) : (SPo.nn B post xp).bk = fun _ => False := (rfl)
@[simp ↓] theorem nn_ct (B : FE) (post : Post) (xp : XP) : (SPo.nn B post xp).ct = fun _ => False := (rfl)
@[simp ↓] theorem nn_ex (B : FE) (post : Post) (xp : XP) : (SPo.nn B post xp).ex = xp := (rfl)
section
variable {X : Cx} {Wx : WX} {P I J J1 : List Nat} {e : Expr} {te : TE} {F : FE} {Fa : FS} {st : Stmt} {rest : List Stmt} {pos : Pos}
end
section
variable {P : Program} {w : World} {K : PySem.W.Frag} {mg : Str → Option Value} {base : Heap}
end

/-! ### {k: v, .., k': a new cell} -/
abbrev FKn := Env → (List (Key × D) → Key → D → Env → Prop) → XP → Prop
structure DPN (X : Cx) (Wx : WX) (P I : List Nat) (pos : Pos) (keys : List (Option Expr)) (vals : List Expr) (trs : List (TE × TE)) (R : FKn) : Prop where
  pe : PPs X pos keys vals trs
  ev : ∀ (W : Wd) (ρ : Env) (σ : St) (Hb H : Hp) (Q : List (V × V) → Hp → Prop) (post : List (Key × D) → Key → D → Env → Prop) (xp : XP), EnvOk X.K W P I ρ σ Hb H → R ρ post xp → XOk X Wx W P σ xp →
    (∀ ds k d ρ' (vs : List (Key × V)) q Hb' H', post ds k d ρ' → EnvOk X.K W P I ρ' σ Hb' H' → Sub Hb Hb' → ds.length + 1 = keys.length → vs.map (·.1) = ds.map (·.1) → IsL X.K Hb' (vs.map (·.2)) (ds.map (·.2)) → NewAt X.K W P I ρ' σ Hb' H' q d →
      Q ((vs ++ [(k, V.ref q)]).map fun kv => (kV kv.1, kv.2)) H') → tPairs trs σ H Q
section
variable {X : Cx} {Wx : WX} {P I : List Nat} {k v : Expr} {ta tb : TE} {F G : FE} {R : FKn} {pos : Pos} {ks : List (Option Expr)} {vs : List Expr} {trs : List (TE × TE)}
end
end DL

/-! DG39: a part of a slot's cell: looked up, written, walked. -/
namespace DL
open PySem L2
open PyProof.Rows hiding St

section
variable {K : PySem.W.Frag} {W : Wd} {P I J : List Nat} {ρ : Env} {σ : St} {Hb H : Hp}
theorem mem_valD {κ : Type} [DecidableEq κ] {k : κ} {d : D} : ∀ {kvs : List (κ × D)}, valD kvs k = some d → (k, d) ∈ kvs
  | [], h => by simp [valD] at h
  | v :: kvs, h => by
    by_cases z : v.1 = k
    · have : valD (v :: kvs) k = some v.2 := by simp [valD, List.find?_cons, z]
      rw [this] at h; cases h
      rw [← z]; exact List.mem_cons_self
    · have : valD (v :: kvs) k = valD kvs k := by simp [valD, List.find?_cons, z]
      rw [this] at h
      exact List.mem_cons_of_mem _ (mem_valD h)
theorem valV_part {k : Key} {q : Addr} : ∀ {vs : List (Key × V)}, partAt k vs = some q → valV vs k = some (.ref q)
  | [], h => by cases h
  | v :: vs, h => by
    unfold partAt at h
    by_cases z : v.1 = k
    · rw [if_pos z] at h
      rw [valV_pos z]
      split at h
      · rename_i r e
        cases h; rw [e]
      · cases h
    · rw [if_neg z] at h
      rw [valV_neg z]
      exact valV_part h
theorem EnvOk.part {i : Nat} {q : Addr} {k : Key} {kvs : List (Key × D)} {d : D} (E : EnvOk K W P I ρ σ Hb H) (hi : i ∈ P ∨ i ∈ I) (g : get ρ i = some (.nest q k kvs)) (h : valD kvs k = some d) :
    ∃ p vs, σ[i]? = some (some (.ref p)) ∧ H p = some (.dK vs) ∧ valV vs k = some (.ref q) ∧ Cell0 K Hb H q d ∧ q ≠ p := by
  obtain ⟨p, e, _, ⟨vs, hp, w, r⟩, _⟩ := E.cel i _ hi g
  obtain ⟨q', w', ne, c⟩ := r.at (mem_valD h)
  rw [w] at w'; cases w'
  exact ⟨p, vs, e, hp, valV_part w, c, ne⟩
end
section
variable {X : Cx} {Wx : WX} {P L I J J1 J2 : List Nat} {o e f value tg : Expr} {x : Str} {p2 pc pos sp spos apos cpos p : Pos} {j} {kk : Str} {te tk tz tv : TE} {F Fk Fz : FE} {B : FS} {g : FG} {tg1 : TG} {body : List Stmt}
end
end DL

/-! DG40: get, store, pop at a part; a loop over a part's values. -/
namespace DL
open PySem L2
open PyProof.Rows hiding St
section
variable {X : Cx} {Wx : WX} {P L I J J1 J2 : List Nat} {o e f value tg : Expr} {x : Str} {p2 pc pos sp spos apos cpos p : Pos} {j} {kk : Str} {te tk tz tv : TE} {F Fk Fz Fv : FE} {B : FS} {g : FG} {tg1 : TG} {body : List Stmt}
end
end DL

/-! DG41: bool - bool -/
namespace DL
open PySem L2
open PyProof.Rows (b2i sub_bool)
section
variable {X : Cx} {K : PySem.W.Frag}
end
end DL

/-! DG42: zip of a list and a tuple, of a tuple and a list. -/
namespace DL
open PySem PySem.Spec L2 RZ
open PyProof.Rows hiding St
/-- a list (true) or a tuple (false) -/
def SqX (K : PySem.W.Frag) : Bool → Hp → Addr → List V → Prop
  | true => SqL K
  | false => SqT K
section
variable {X : Cx} {pins : List (Addr × Obj)} {σ : L2.St} {H : Hp} {s : Shared}
end
theorem SqX.sub {K : PySem.W.Frag} {H H' : Hp} {a : Addr} {xs : List V} (s : Sub H H') : ∀ {p : Bool}, SqX K p H a xs → SqX K p H' a xs
  | true, h => s.sqL h
  | false, h => s.sqT h
section
variable {X : Cx} {Wx : WX} {P L I J J1 J2 : List Nat} {e e2 tg : Expr} {es elts : List Expr} {F : FE} {A : FA} {pos p tpos : Pos} {kk : Nat} {te : TE} {tA : TA} {x : Str}
end
end DL

/-! DG43: x += e on ints; f(a, .., b) of a def that takes *rest. -/
namespace DL
open PySem L2
open PyProof.Rows hiding St
section
variable {X : Cx} {Wx : WX} {P L I J J1 : List Nat} {e : Expr} {es : List Expr} {F : FE} {A : FA} {pos p pos' : Pos} {k : Nat} {f : Addr} {G : DFn} {tA : TA} {te : TE}
end
end DL

/-! DG44: yield from range(a, b) -/
namespace DL
open PySem PySem.Spec L2
open PyProof.Rows hiding St
section
variable {X : Cx}
end
end DL

/-! DG45: generator methods: def m(self): yield from ..; list(o.m()). -/
namespace DL
open PySem PySem.Spec L2
open PyProof.Rows hiding St
/-- a generator's data: what it hands out -/
abbrev DGen := Env → (List D → Prop) → Prop
structure DY (X : Cx) (Wx : WX) (P I : List Nat) (e : Expr) (t : TYf) (F : FA) (J : List Nat) : Prop where
  pe : YfE X e t
  ev : ∀ (W : Wd) (ρ : Env) (σ : L2.St) (Hb H : Hp) (Q : List V → Hp → Prop) (post : List D → Env → Prop) (xp : XP), EnvOk X.K W P I ρ σ Hb H → F ρ post xp → XOk X Wx W P σ xp →
    (∀ ds ρ' vs Hb' H', post ds ρ' → EnvOk X.K W P J ρ' σ Hb' H' → Sub Hb Hb' → IsL X.K Hb' vs ds → Q vs H') → t σ H Q
section
variable {X : Cx} {Wx : WX} {P I J : List Nat} {a b : Expr} {p pos : Pos} {tA : TA} {A : FA}
end
section
variable {P : Program} {w : World} {K : PySem.W.Frag} {mg : Str → Option Value} {base : Heap}
end
section
variable {X : Cx} {Wx : WX} {P I J : List Nat} {o : Expr} {ta : TE} {Fo : FE} {k : Nat} {f C : Addr} {fd : FuncData} {ps : List Str} {n m : Str} {G : DGen} {p pos pos' apos : Pos}
end
end DL

/-! DG46: a module's whole number by its name -/
namespace DL
open PySem L2
open PyProof.Rows hiding St
section
variable {X : Cx} {Wx : WX} {P I : List Nat} {x : Str} {v : Int} {pos : Pos}
theorem de_gint (h : ∃ t, X.mg x = some (.int v t)) (hg : Gl X x := by rfl) (hd : (x == ("__debug__" : Str)) = false := by decide) : DE X Wx P I (.Name x pos) (tC (.int v)) (fC (.int v)) I := by
  obtain ⟨t, e⟩ := h
  exact ⟨pe_glob hg e ⟨t, rfl⟩ hd, fun W ρ σ Hb H Q post xp E f _ q => q _ _ _ _ _ f E (Sub.refl _) (.int v)⟩
end
end DL

/-! DG47: parts of an object: looked at, written. -/
namespace DL
open PySem L2
open PyProof.Rows hiding St
section
variable {K : PySem.W.Frag} {Hb Hb' H H' : Hp} {C C' : Addr → D → Prop} {p q : Addr} {qs : List (Str × Addr)} {f : Str} {d : D}
theorem EQ.look (l : qs.lookup f = some q) : ∀ {vs : List (Str × V)} {fs : List (Str × D)}, EQ K Hb C p qs vs fs → fs.lookup f = some d → vs.lookup f = some (.ref q) ∧ q ≠ p ∧ C q d
  | [], [], _, e => by cases e
  | v :: vs, x :: fs, h, e => by
    obtain ⟨h1, h2, h3⟩ := h
    rw [List.lookup_cons] at e ⊢
    by_cases z : f = x.1
    · subst z
      rw [show (x.1 == x.1) = true by simp] at e
      cases e
      rw [l] at h2
      rw [show (x.1 == v.1) = true by simp [h1], h2.1]
      exact ⟨rfl, h2.2⟩
    · rw [show (f == x.1) = false by simpa using z] at e
      rw [show (f == v.1) = false by rw [h1]; simpa using z]
      exact EQ.look l h3 e
end
section
variable {K : PySem.W.Frag} {W : Wd} {P I J : List Nat} {ρ : Env} {σ : St} {Hb H : Hp} {i : Nat} {q : Addr} {qs : List (Str × Addr)} {n f : Str} {fs : List (Str × D)} {d : D} {o : HO}
end
end DL

/-! DG48: x.f.append(e), x.f[k]: f an owned part of x's object. -/
namespace DL
open PySem L2
open PyProof.Rows hiding St
section
variable {X : Cx} {Wx : WX} {P L I J : List Nat} {e k : Expr} {x n f : Str} {C : Addr} {F Fk : FE} {te tk : TE} {p2 fpos apos cpos pos : Pos}
end
end DL

/-! DG49: x.f = a new cell: a part more. -/
namespace DL
open PySem L2
open PyProof.Rows hiding St
section
variable {K : PySem.W.Frag} {W : Wd} {P I J : List Nat} {ρ : Env} {σ : St} {Hb H : Hp} {p : Addr} {d : D} {o : HO}
end
section
variable {X : Cx} {Wx : WX} {P L I J : List Nat} {value : Expr} {n m : Str} {C : Addr} {F : FE} {tv : TE} {p pos pos' : Pos}
end
end DL

/-! DG50: C(..) where __init__ gives the object parts of its own; its value is plain. -/
namespace DL
open PySem L2
open PyProof.Rows hiding St
theorem Is.plain {K : PySem.W.Frag} {H : Hp} {v : V} {qs : List (Str × Addr)} {n : Str} {fs : List (Str × D)} (h : Is K H v (.nobj qs n fs)) : Is K H v (.obj n fs) := by
  cases h with
  | nobj c h e l => exact .obj c h e l
section
variable {X : Cx} {Wx : WX} {P I J : List Nat} {e : Expr} {es : List Expr} {A : FA} {pos p : Pos} {k : Nat} {f : Addr} {G : DFn} {y : Str} {tA : TA} {C : Addr} {n : Str} {m : Nat}
end
end DL

/-! DG51: divmod by a positive whole number. -/
namespace DL
open PySem L2
open PyProof.Rows hiding St
section
variable {K : PySem.W.Frag}
end
end DL

/-! DG52: x + y of two objects of one class by its own __add__. -/
namespace DL
open PySem L2
open PyProof.Rows hiding St
section
variable {X : Cx} {Wx : WX} {P I J J1 : List Nat} {a b e : Expr} {ta tb : TE} {Fa Fb : FE} {pos : Pos} {n : Str} {C f : Addr} {k : Nat} {sp : Sp} {G : DFn}
def rAddOwn (C : Addr) (sp : Sp) : R2 := fun x y H Q => ∃ a b dx fs dy gs, x = V.ref a ∧ y = V.ref b ∧ H a = some (.ins C dx fs) ∧ H b = some (.ins C dy gs) ∧ sp [.ref a, .ref b] H (fun z H2 => ∃ c, z = V.ref c ∧ Q z H2) fun _ _ _ => False
theorem op_addOwn (hsf : PySem.W.selfFirst X.K C = true) (hs : PySem.W.findIn X.K (.ref C) "__add__" = some (some (.ref f))) (hfn : PySem.W.isFn X.K (.ref f) = true) (F : FnG X.prog X.w X.K X.mg X.base k f sp) (hr : Room k X.A) (hgu : X.A.guards = some []) : OpR X (binaryOp .Add) (rAddOwn C sp) := by
  intro pins s σ H x y v u Q I rx ry h
  obtain ⟨a, b, dx, fs, dy, gs, rfl, rfl, hh, hg, hsp⟩ := h
  obtain rfl : v = Value.ref a := rx
  obtain rfl : u = Value.ref b := ry
  obtain ⟨mA, O, _⟩ := ins_get I.hok hh
  obtain ⟨od, J, _⟩ := O.look
  obtain ⟨mB, OB, _⟩ := ins_get I.hok hg
  obtain ⟨odB, JB, _⟩ := OB.look
  obtain ⟨m, fr⟩ := I.fr
  refine PySem.W.binop_K fr I.ok.mod.kin J JB.type hsf hs hfn (wpAny_call (codeAny_mono (F X.A X.stack s H [.ref a, .ref b] [.ref a, .ref b] _ (fun _ _ _ => False) hr hgu I.env0 (.cons rfl (.cons rfl .nil)) hsp) fun res s3 q => ?_))
  cases res with
  | error er => exact (cx_no q).elim
  | ok fl =>
    cases fl with
    | ret u =>
      obtain ⟨z, H3, I3, rz, c, ez, q3⟩ := I.after q
      subst ez
      obtain rfl : u = Value.ref c := rz
      exact ⟨.ref c, H3, I3, rfl, q3⟩
    | next => exact q.elim
    | brk => exact q.elim
    | cont => exact q.elim
def fAddOwn (n : Str) (G : DFn) (Fa Fb : FE) : FE := fun ρ post xp => Fa ρ (fun o ρ1 => Fb ρ1 (fun y ρ2 => isObj n o ∧ isObj n y ∧ callD G [some o, some y] (fun z _ => isObj n z ∧ post z ρ2) noX .mk) xp) xp
@[simp ↓] theorem fAddOwn_ap (n : Str) (G : DFn) (Fa Fb : FE) (ρ : Env) (post : Post) (xp : XP) : fAddOwn n G Fa Fb ρ post xp = Fa ρ (fun o ρ1 => Fb ρ1 (fun y ρ2 => isObj n o ∧ isObj n y ∧ callD G [some o, some y] (fun z _ => isObj n z ∧ post z ρ2) noX .mk) xp) xp := (rfl)
theorem de_addOwn (hc : IsCl X.K n C) (hsf : PySem.W.selfFirst X.K C = true) (hs : PySem.W.findIn X.K (.ref C) "__add__" = some (some (.ref f))) (hfn : PySem.W.isFn X.K (.ref f) = true) (F : FnG X.prog X.w X.K X.mg X.base k f (spD X.K 2 [] G)) (hr : Room k X.A) (hgu : X.A.guards = some [])
    (ha : DE X Wx P I a ta Fa J1) (hb : DE X Wx P J1 b tb Fb J) : DE X Wx P I (.BinOp a .Add b pos) (tOp (rAddOwn C (spD X.K 2 [] G)) ta tb) (fAddOwn n G Fa Fb) J := by
  refine de_of (pe_op (op_addOwn hsf hs hfn F hr hgu) ha.pe hb.pe) fun W ρ σ Hb H Q post xp E f x q => ha.ev W ρ σ Hb H _ _ xp E f x fun o ρ1 v Hb1 H1 f1 E1 s1 i1 => hb.ev W ρ1 σ Hb1 H1 _ _ xp E1 f1 x fun d ρ2 v2 Hb2 H2 f2 E2 s2 i2 => ?_
  obtain ⟨⟨fs, e⟩, ⟨gs, e'⟩, f2⟩ := f2
  subst e e'
  have i1' := i1.mono s2
  obtain ⟨p, C', dx, vs, rfl, hc', hh, e1, l1⟩ := o_obj E2.sub (.inl i1')
  obtain rfl := hc.eq hc'
  obtain ⟨p', C', dx', vs', rfl, hc', hh', e1', l1'⟩ := o_obj E2.sub (.inl i2)
  obtain rfl := hc.eq hc'
  have ar : Args X.K Hb2 σ [none, none] [V.ref p, V.ref p'] [some (.obj n fs), some (.obj n gs)] := ⟨⟨_, rfl, i1'⟩, ⟨_, rfl, i2⟩, trivial⟩
  have hsl : ∀ j ∈ slots [none, none], j ∈ P ∨ j ∈ J := fun j h => by simp [slots] at h
  have hl : ∀ j ∈ slots [none, none], get ρ2 j ≠ none := fun j h => by simp [slots] at h
  refine ⟨p, p', dx, vs, dx', vs', rfl, rfl, hh, hh', rfl, [some (.obj n fs), some (.obj n gs)], Hb2, _, _, E2.lend ar hsl (by simp [slots]) hl, f2, fun z ρ' v Hb' H' p1 E4 is => ?_, fun c ρ' cls dx Hb' H' p1 => p1.elim⟩
  have E3 := E2.given ar hsl (by simp [slots]) hl E4 rfl
  have eu : unfill [none, none] ρ' ρ2 = ρ2 := by rcases ρ' with _ | ⟨_, _ | _⟩ <;> rfl
  rw [eu] at E3
  obtain ⟨⟨hs, e⟩, p1⟩ := p1
  subst e
  obtain ⟨c, _, _, _, rfl, _⟩ := o_obj E4.sub (.inl is)
  exact ⟨c, rfl, q _ _ _ _ _ p1 E3 ((s1.trans s2).trans E4.stp.hb) is⟩
end
end DL

/-! DG53: dict(d.items()), the keys tuples of ints and texts: a new dict with the same entries. -/
namespace DL
open PySem L2
open PyProof.Rows hiding St
section
variable {X : Cx} {Wx : WX} {P I J : List Nat} {e : Expr} {te : TE} {F : FE} {apos cpos pos p : Pos}
end
end DL

/-! DG54: f(.., a new cell, ..): the callee is lent what the call alone holds. -/
namespace DL
open PySem L2
open PyProof.Rows hiding St

section
variable {K : PySem.W.Frag} {W : Wd} {P I J : List Nat} {ρ ρ' : Env} {σ : St} {Hb H Hb' H' : Hp} {p : Addr} {d : D}
/-! ### one slot more -/
theorem get_lo : ∀ {ρ : Env} {x : Option D} {i : Nat}, i < ρ.length → get (ρ ++ [x]) i = get ρ i
  | [], _, _, h => by simp at h
  | _ :: _, _, 0, _ => rfl
  | _ :: r, x, i + 1, h => get_lo (ρ := r) (i := i) (by simpa using h)
theorem get_at : ∀ {ρ : Env} {x : Option D}, get (ρ ++ [x]) ρ.length = x
  | [], _ => rfl
  | _ :: r, x => get_at (ρ := r)
end
/-! ### arguments, the m-th one a new cell -/
def ArgsN (K : PySem.W.Frag) (Hb : Hp) (σ : St) (p : Addr) (d : D) : Nat → List (Option Nat) → List V → Env → Prop
  | 0, none :: sl, v :: vs, x :: ds => (v = .ref p ∧ x = some d) ∧ Args K Hb σ sl vs ds
  | m + 1, none :: sl, v :: vs, x :: ds => (∃ y, x = some y ∧ Is K Hb v y) ∧ ArgsN K Hb σ p d m sl vs ds
  | m + 1, some j :: sl, v :: vs, _ :: ds => σ[j]? = some (some v) ∧ ArgsN K Hb σ p d m sl vs ds
  | _, _, _, _ => False
section
variable {K : PySem.W.Frag} {Hb Hb' : Hp} {σ : St} {p : Addr} {d : D}
theorem Args.ext {x : St} : ∀ {sl : List (Option Nat)} {vs : List V} {ds : Env}, Args K Hb σ sl vs ds → Args K Hb (σ ++ x) sl vs ds
  | [], [], [], h => h
  | none :: sl, v :: vs, d :: ds, ⟨h1, h⟩ => ⟨h1, Args.ext h⟩
  | some j :: sl, v :: vs, _ :: ds, ⟨e, h⟩ => ⟨by
      have hl : j < σ.length := by
        rcases Nat.lt_or_ge j σ.length with h | h
        · exact h
        · rw [List.getElem?_eq_none h] at e; cases e
      rw [List.getElem?_append_left hl]; exact e, Args.ext h⟩
theorem ArgsN.at_ : ∀ {m : Nat} {sl : List (Option Nat)} {vs : List V} {ds : Env}, ArgsN K Hb σ p d m sl vs ds → sl[m]? = some none
  | 0, none :: sl, v :: vs, x :: ds, _ => rfl
  | m + 1, none :: sl, v :: vs, x :: ds, ⟨_, h⟩ => by simpa using ArgsN.at_ h
  | m + 1, some j :: sl, v :: vs, _ :: ds, ⟨_, h⟩ => by simpa using ArgsN.at_ h
theorem ArgsN.slLen : ∀ {m : Nat} {sl : List (Option Nat)} {vs : List V} {ds : Env}, ArgsN K Hb σ p d m sl vs ds → sl.length = vs.length
  | 0, none :: sl, v :: vs, x :: ds, ⟨_, h⟩ => congrArg (· + 1) (Args.slLen h)
  | m + 1, none :: sl, v :: vs, x :: ds, ⟨_, h⟩ => congrArg (· + 1) (ArgsN.slLen h)
  | m + 1, some j :: sl, v :: vs, _ :: ds, ⟨_, h⟩ => congrArg (· + 1) (ArgsN.slLen h)
theorem ArgsN.mono (s : Sub Hb Hb') : ∀ {m : Nat} {sl : List (Option Nat)} {vs : List V} {ds : Env}, ArgsN K Hb σ p d m sl vs ds → ArgsN K Hb' σ p d m sl vs ds
  | 0, none :: sl, v :: vs, x :: ds, ⟨e, h⟩ => ⟨e, h.mono s⟩
  | m + 1, none :: sl, v :: vs, x :: ds, ⟨⟨y, e, i⟩, h⟩ => ⟨⟨y, e, i.mono s⟩, ArgsN.mono s h⟩
  | m + 1, some j :: sl, v :: vs, _ :: ds, ⟨e, h⟩ => ⟨e, ArgsN.mono s h⟩
theorem fill_ghost : ∀ {sl : List (Option Nat)} {ds ρ : Env} {x : Option D}, (∀ j ∈ slots sl, j < ρ.length) → fill sl ds (ρ ++ [x]) = fill sl ds ρ
  | [], _, _, _, _ => by simp [fill]
  | none :: sl, [], _, _, _ => by simp [fill]
  | some j :: sl, [], _, _, _ => by simp [fill]
  | none :: sl, y :: ds, ρ, x, h => congrArg (y :: ·) (fill_ghost (sl := sl) h)
  | some j :: sl, y :: ds, ρ, x, h => by
    show get (ρ ++ [x]) j :: fill sl ds (ρ ++ [x]) = get ρ j :: fill sl ds ρ
    rw [get_lo (h j List.mem_cons_self), fill_ghost fun k hk => h k (List.mem_cons_of_mem _ hk)]
theorem ArgsN.fill : ∀ {m : Nat} {sl : List (Option Nat)} {vs : List V} {ds ρ : Env}, ArgsN K Hb σ p d m sl vs ds → (∀ j ∈ slots sl, j < ρ.length) → fill (sl.set m (some ρ.length)) ds (ρ ++ [some d]) = fill sl ds ρ
  | 0, none :: sl, v :: vs, x :: ds, ρ, ⟨⟨_, e⟩, _⟩, h => by
    show get (ρ ++ [some d]) ρ.length :: DL.fill sl ds (ρ ++ [some d]) = x :: DL.fill sl ds ρ
    rw [get_at, e, fill_ghost (sl := sl) h]
  | m + 1, none :: sl, v :: vs, x :: ds, ρ, ⟨_, h⟩, hs => congrArg (x :: ·) (ArgsN.fill (sl := sl) h hs)
  | m + 1, some j :: sl, v :: vs, y :: ds, ρ, ⟨_, h⟩, hs => by
    show get (ρ ++ [some d]) j :: DL.fill (sl.set m (some ρ.length)) ds (ρ ++ [some d]) = get ρ j :: DL.fill sl ds ρ
    rw [get_lo (hs j List.mem_cons_self), ArgsN.fill h fun k hk => hs k (List.mem_cons_of_mem _ hk)]
end
structure DOn (X : Cx) (Wx : WX) (P I : List Nat) (es : List Expr) (t : TA) (F : Env → (Env → Env → Prop) → XP → Prop) (sl : List (Option Nat)) (m : Nat) (J : List Nat) : Prop where
  pe : PA X es t
  ev : ∀ (W : Wd) (ρ : Env) (σ : St) (Hb H : Hp) (Q : List V → Hp → Prop) (post : Env → Env → Prop) (xp : XP), EnvOk X.K W P I ρ σ Hb H → F ρ post xp → XOk X Wx W P σ xp →
    (∀ ds ρ' vs Hb' H' p d, post ds ρ' → EnvOk X.K W P J ρ' σ Hb' H' → Sub Hb Hb' → ArgsN X.K Hb' σ p d m sl vs ds → NewAt X.K W P J ρ' σ Hb' H' p d → Q vs H') → t σ H Q
section
variable {X : Cx} {Wx : WX} {P I J J1 : List Nat} {e a b c : Expr} {es : List Expr} {F : FE} {A : Env → (Env → Env → Prop) → XP → Prop} {sl : List (Option Nat)} {pos p : Pos} {k n m n0 : Nat} {f : Addr} {fd : FuncData} {ps : List Str} {G : DFn} {x : Str} {io : List Nat} {ta : TE} {tA : TA}
end
end DL

/-! DG55: a def that returns a tuple of a new cell and a value; x, y = f(..), x owns its cell from here on. -/
namespace DL
open PySem L2
open PyProof.Rows hiding St

structure DPr (X : Cx) (Wx : WX) (P I : List Nat) (e : Expr) (t : TE) (F : FE) (J : List Nat) : Prop where
  pe : PE X e t
  ev : ∀ (W : Wd) (ρ : Env) (σ : St) (Hb H : Hp) (Q : VK) (post : Post) (xp : XP), EnvOk X.K W P I ρ σ Hb H → F ρ post xp → XOk X Wx W P σ xp →
    (∀ d1 d2 ρ' a p v Hb' H', post (.tup [d1, d2]) ρ' → EnvOk X.K W P J ρ' σ Hb' H' → Sub Hb Hb' → Hb' a = some (.tup [.ref p, v]) → Is X.K Hb' v d2 → NewAt X.K W P J ρ' σ Hb' H' p d1 → Q (.ref a) H') → t σ H Q
structure DBT (X : Cx) (Wx : WX) (P I : List Nat) (body : List Stmt) (F : FE) : Prop where
  run : ∃ t, PSs X body t ∧ ∀ (W : Wd) (ρ : Env) (σ : St) (Hb H : Hp) (D : Ends) (post : Post) (xp : XP), EnvOk X.K W P I ρ σ Hb H → F ρ post xp →
    (∀ c ρ' cls dx σ' Hb' H', xp c ρ' → EnvOk X.K W P [] ρ' σ' Hb' H' → XIs X.K Hb' cls dx c → Wx cls dx σ' H') →
    (∀ d1 d2 ρ' σ' a p v Hb' H', post (.tup [d1, d2]) ρ' → EnvOk X.K W P [] ρ' σ' Hb' H' → Hb' a = some (.tup [.ref p, v]) → Is X.K Hb' v d2 → NewAt X.K W P [] ρ' σ' Hb' H' p d1 → D.rt (.ref a) H') → t D σ H
section
variable {X : Cx} {Wx : WX} {P L I J J1 : List Nat} {e c : Expr} {es : List Expr} {te : TE} {F : FE} {Fa : FS} {Ga Gb : FE} {st : Stmt} {rest A : List Stmt} {pos p : Pos} {tt : TT} {T : FT} {AA : Env → (Env → Env → Prop) → XP → Prop} {sl : List (Option Nat)} {k n : Nat} {f : Addr} {G : DFn} {x : Str} {io : List Nat} {tA : TA}
end
section
variable {P : Program} {w : World} {K : PySem.W.Frag} {mg : Str → Option Value} {base : Heap}
end
end DL

/-! DG56: [..] * n as a new cell; xs[i] += e; sorted(set(xs)) of whole numbers. -/
namespace DL
open PySem L2
open PyProof.Rows hiding St
section
variable {X : Cx} {Wx : WX} {P L I J J1 : List Nat} {a b e k : Expr} {F G : FE} {ta tb te tk : TE} {pos pos' spos : Pos}
end
end DL

/-! DG57: sorted(set(xs)), xs a list of whole numbers. -/
namespace L2
open PySem PySem.Spec PyProof.Rows
section
variable {P : Program} {w : World} {A : Around} {E : Value → Shared → Prop} {s : Shared}
end
end L2
namespace DL
open PySem L2
open PyProof.Rows hiding St
section
variable {X : Cx} {Wx : WX} {P I J : List Nat} {e : Expr} {te : TE} {F : FE} {pos pos2 p p2 : Pos}
end
end DL

/-! DG58: divmod by a whole number of any sign; sorted(w['laid']). -/
namespace DL
open PySem L2
open PyProof.Rows hiding St
section
variable {K : PySem.W.Frag}
end
end DL

/-! DG59: sorted(d), the keys of d pairs of ints. -/
namespace DT
open PySem PySem.W PySem.Calls PyProof.Rows PyProof.V PySem.Spec
section
variable {prog : Program} {w : World} {A : Around} {E : Value → Shared → Prop} {s : Shared} {d : Addr} {o : Obj} {es : Array DictEntry} {ep : Nat}
end
end DT
namespace SrtI
open PySem PyProof.Rows
end SrtI
namespace L2
open PySem PySem.Spec PyProof.Rows
end L2
namespace DL
open PySem L2
open PyProof.Rows hiding St
section
variable {X : Cx} {Wx : WX} {P L I J : List Nat} {e : Expr} {F : FE} {te : TE} {pos p : Pos}
end
end DL

/-! DG60: range(a, b, -1). -/
namespace DL
open PySem L2
open PyProof.Rows hiding St
section
variable {X : Cx} {Wx : WX} {P I J : List Nat} {e e2 e3 tg : Expr} {A : FA} {pos p : Pos} {tA : TA}
end
end DL

/-! DG61: sorted(a list of whole numbers). -/
namespace DL
open PySem L2
open PyProof.Rows hiding St
end DL

/-! DG62: x.extend(e), x owns its list. -/
namespace DL
open PySem L2
open PyProof.Rows hiding St
section
variable {X : Cx} {Wx : WX} {P I J : List Nat} {L : List Nat} {e : Expr} {te : TE} {F : FE} {pos pos' apos cpos : Pos}
end
end DL

/-! DG63: calls by keywords alone, in any order. -/
namespace DL
open PySem L2
open PyProof.Rows hiding St
/-- what stands at the places pi -/
def perm {α : Type} (pi : List Nat) (xs : List α) : List α := pi.filterMap (xs[·]?)
/-- a def's promise where m values stand ahead and the keywords ks name the others, pi tells where each parameter's value stands -/
def FnKp (P : Program) (w : World) (K : PySem.W.Frag) (mg : Str → Option Value) (base : Heap) (k : Nat) (f : Addr) (m : Nat) (ks : List Str) (pi : List Nat) (sp : Sp) : Prop :=
  ∀ (A : Around) (frs_ : List PySem.Env) (s : Shared) (H : Hp) (us0 us : List Value) (vs0 vs : List V) (Q : VK) (E : XK), Room k A → A.guards = some [] → Env0 P w K mg base A frs_ s H → Vals vs0 us0 → Vals vs us → us0.length = m → us.length = ks.length → sp (vs0 ++ perm pi vs) H Q E →
    codeAny (model P w) A (.call (.ref f) ⟨us0, ks.zip us⟩) (CR (L2.CX P w) frs_ P w H s Q E) s
section
variable {P : Program} {w : World} {K : PySem.W.Frag} {mg : Str → Option Value} {base : Heap} {j k : Nat} {f : Addr} {sp sp' : Sp} {m : Nat} {ks : List Str} {pi : List Nat}
theorem FnKp.mono (F : FnKp P w K mg base j f m ks pi sp) (h : j ≤ k) : FnKp P w K mg base k f m ks pi sp := fun A o s H us0 us vs0 vs Q E r => F A o s H us0 us vs0 vs Q E (r.mono h)
end
@[simp ↓] theorem perm_nil {α : Type} (xs : List α) : perm [] xs = [] := (rfl)
@[simp ↓] theorem perm_0 {α : Type} (pi : List Nat) (x : α) (xs : List α) : perm (0 :: pi) (x :: xs) = x :: perm pi (x :: xs) := (rfl)
@[simp ↓] theorem perm_1 {α : Type} (pi : List Nat) (x y : α) (xs : List α) : perm (1 :: pi) (x :: y :: xs) = y :: perm pi (x :: y :: xs) := (rfl)
@[simp ↓] theorem perm_2 {α : Type} (pi : List Nat) (x y z : α) (xs : List α) : perm (2 :: pi) (x :: y :: z :: xs) = z :: perm pi (x :: y :: z :: xs) := (rfl)
@[simp ↓] theorem perm_3 {α : Type} (pi : List Nat) (x y z u : α) (xs : List α) : perm (3 :: pi) (x :: y :: z :: u :: xs) = u :: perm pi (x :: y :: z :: u :: xs) := (rfl)
section
variable {X : Cx} {Wx : WX} {P I J J1 : List Nat} {e : Expr} {F : FE} {A : Env → (Env → Env → Prop) → XP → Prop} {pos p kpos : Pos} {k n : Nat} {f : Addr} {G : DFn} {x : Str} {tA : TA} {ta : TE} {kws : List Keyword} {ks : List Str} {pi : List Nat} {nm : Option Str} {sp : Sp} {E : St → XK}
end
end DL

/-! DG64: max(a list of whole numbers, default = e). -/
namespace DL
open PySem L2
open PyProof.Rows hiding St
section
variable {X : Cx} {Wx : WX} {P I J J1 : List Nat} {e e2 : Expr} {te te2 : TE} {F G : FE} {pos p kpos : Pos}
end
end DL

/-! DG65: x or y, x and y by truth. -/
namespace DL
open PySem L2
open PyProof.Rows hiding St
section
variable {X : Cx} {Wx : WX} {P I J : List Nat} {a b : Expr} {rest : List Expr} {ta tb : TE} {F G : FE} {pos : Pos}
end
end DL

/-! DG66: a, *b = a tuple. -/
namespace DL
open PySem L2
open PyProof.Rows hiding St
section
variable {X : Cx} {Wx : WX} {P I J L : List Nat} {e e1 e2 : Expr} {te : TE} {F : FE} {k : Nat} {tgs : TGs} {g : FGs} {ts : List Nat} {pos pos' p : Pos}
end
section
variable {X : Cx} {Wx : WX} {P I J : List Nat} {e : Expr} {es : List Expr} {k : Nat} {f : Addr} {sp : Sp} {E : St → XK} {x : Str} {t tA : TA} {A : FA} {G : DFn} {pos p : Pos}
end
end DL

/-! DG67: sorted of a list of different pairs of ints. -/
namespace SrtI
open PySem PyProof.Rows Srt PySem.SeqAt SrtO
section
variable {prog : Program} {w : World} {A : Around} {E : Value → Shared → Prop} {s : Shared}
end
end SrtI
namespace L2
open PySem PySem.Spec PyProof.Rows
section
variable {X : Cx}
end
end L2
namespace DL
open PySem L2
end DL

/-! DG68: zip(x, y, strict=True) of lists and tuples of one length. -/
namespace ZS
open PySem PySem.Spec PyProof.Rows
/-- a strict zip -/
abbrev IsZ (h : Heap) (z I O : Addr) (f0 : Value) : Prop := h.get? z = some { cls := .type "zip", dict := none, data := .fields #[f0, .bool false, .bool true, .ref I, .ref O], slots := #[] }
section
variable {prog : Program} {w : World} {A : Around} {E : Value → Shared → Prop} {s : Shared} {it z I O i1 i2 : Addr} {fp f1 f2 : List Addr} {n n1 n2 i : Nat} {P P1 P2 : Nat → Value → Prop} {St St1 St2 : Nat → Heap → Prop} {a1 a2 : Value}
theorem more {Q : Option Value → Shared → Prop} (D : Draws prog w A it fp n P St) (hlt : i < n) (st : St i s.heap) (h : ∀ x h' tk, P i x → St (i + 1) h' → Heap.SameBut it s.heap h' → Q (some x) { s with heap := h', toks := tk }) :
    wpAny (model prog w) A (Builtin.SmallTypes.nextOrEnd (.ref it)) Q E s := by
  unfold Builtin.SmallTypes.nextOrEnd
  exact wpAny_bind (wpAny_attempt (D.item i s _ _ hlt st fun x h' tk a b c => wpAny_pure (h x h' tk a b c)))
theorem gone {Q : Option Value → Shared → Prop} (D : Draws prog w A it fp n P St) (st : St n s.heap) (h : ∀ h', Heap.ExtBut it s.heap h' → Q none { s with heap := h' }) :
    wpAny (model prog w) A (Builtin.SmallTypes.nextOrEnd (.ref it)) Q E s := by
  unfold Builtin.SmallTypes.nextOrEnd
  refine wpAny_bind (wpAny_attempt (D.done s _ _ st fun h' e hx he => ?_))
  obtain ⟨o, ho, hc⟩ := he
  exact wpAny_bind (wpAny_isInstance (T := "StopIteration") (b := true) ⟨o, ho, hc⟩ isSubtype_stop (wpAny_pure (h h' hx)))
theorem item {Q : Value → Shared → Prop} (S : ZipSep2 z I O i1 i2 f1 f2) (D1 : Draws prog w A i1 f1 n1 P1 St1) (D2 : Draws prog w A i2 f2 n2 P2 St2)
    (hz : IsZ s.heap z I O .none) (hI : IsTupOf2 s.heap I (.ref i1) (.ref i2)) (hO : IsTupOf2 s.heap O a1 a2) (q1 : St1 i s.heap) (q2 : St2 i s.heap) (l1 : i < n1) (l2 : i < n2)
    (hQ : ∀ x1 x2 h' tk, P1 i x1 → P2 i x2 → IsZ h' z I O (rawInt s.heap.objs.size) → IsTupOf2 h' O x1 x2 → St1 (i + 1) h' → St2 (i + 1) h' → IsTupOf2 h' s.heap.objs.size x1 x2 → h'.objs.size = s.heap.objs.size + 1 →
      (∀ c o, c ≠ z → c ≠ O → c ≠ i1 → c ≠ i2 → s.heap.get? c = some o → h'.get? c = some o) → Q (.ref s.heap.objs.size) { s with heap := h', toks := tk }) :
    wpAny (model prog w) A (Builtin.«zip.__next__» ⟨[.ref z], []⟩) (fun fin s' => ∃ v, fin = .done (.ret v) ∧ Q v s') E s := by
  obtain ⟨hp, g, d, t0, os⟩ := s
  show wpAny _ _ (field (.ref z) 2 >>= _) _ _ _
  refine wpAny_bind (wpAny_field hz rfl (x := .bool true) rfl ?_)
  show wpAny _ _ (field (.ref z) 3 >>= _) _ _ _
  refine wpAny_bind (wpAny_field hz rfl (x := .ref I) rfl (wpAny_bind (wpAny_seqItems hI rfl ?_)))
  show wpAny _ _ (Builtin.SmallTypes.ownedTupleIsFree (.ref z) >>= _) _ _ _
  refine wpAny_bind ?_
  unfold Builtin.SmallTypes.ownedTupleIsFree
  refine wpAny_bind (wpAny_field hz rfl (x := .none) rfl (wpAny_pure ?_))
  simp only [if_true]
  refine wpAny_bind (wpAny_rule (wpAny_bind (wpAny_field hz rfl (x := .ref O) rfl (wpAny_bind (wpAny_setField_rec hz (by simp) fun b0 z0 k0 => ?_)))))
  replace z0 : IsZ b0 z I O .ellipsis := z0
  replace k0 : Heap.SameBut z hp b0 := k0
  refine wpAny_bind ?_
  simp only [List.zipIdx_cons, List.zipIdx_nil, List.forIn_cons, List.forIn_nil]
  refine wpAny_bind (wpAny_bind (wpAny_onRaise ?_))
  show wpAny _ _ (Builtin.SmallTypes.nextOrEnd (.ref i1)) _ _ ⟨b0, g, d, t0, os⟩
  refine more D1 l1 (D1.over q1 k0 S.zf1) fun x1 c1 t1 hx1 r1 k1 => ?_
  replace k1 : Heap.SameBut i1 b0 c1 := k1
  have o1 : IsTupOf2 c1 O a1 a2 := k1.extBut _ _ S.Ti1 (k0.extBut _ _ S.TOz hO)
  refine wpAny_bind (wpAny_seqItems (s := ⟨c1, g, d, t1, os⟩) o1 rfl (wpAny_bind (updateSeq_IsTupOf2 (s := ⟨c1, g, d, t1, os⟩) o1 fun b1 o2 k2 => ?_)))
  replace o2 : IsTupOf2 b1 O x1 a2 := o2
  replace k2 : Heap.SameBut O c1 b1 := k2
  refine wpAny_bind (wpAny_letGo (wpAny_pure (wpAny_bind (wpAny_bind (wpAny_onRaise ?_)))))
  show wpAny _ _ (Builtin.SmallTypes.nextOrEnd (.ref i2)) _ _ ⟨b1, g, d, t1, os⟩
  refine more D2 l2 (D2.over (D2.over (D2.over q2 k0 S.zf2) k1 S.sep1_2) k2 S.Tf2) fun x2 c2 t2 hx2 r2 k3 => ?_
  replace k3 : Heap.SameBut i2 b1 c2 := k3
  have o3 : IsTupOf2 c2 O x1 a2 := k3.extBut _ _ S.Ti2 o2
  refine wpAny_bind (wpAny_seqItems (s := ⟨c2, g, d, t2, os⟩) o3 rfl (wpAny_bind (updateSeq_IsTupOf2 (s := ⟨c2, g, d, t2, os⟩) o3 fun b2 o4 k4 => ?_)))
  replace o4 : IsTupOf2 b2 O x1 x2 := o4
  replace k4 : Heap.SameBut O c2 b2 := k4
  refine wpAny_bind (wpAny_letGo (wpAny_pure (wpAny_pure ?_)))
  refine wpAny_bind (wpAny_seqItems (s := ⟨b2, g, d, t2, os⟩) o4 rfl (wpAny_bind (wpAny_newTuple ?_)))
  have hsz : b2.objs.size = hp.objs.size := by rw [k4.1, k3.1, k2.1, k1.1, k0.1]
  have zz : IsZ b2 z I O .ellipsis := k4.extBut _ _ S.TOz.symm (k3.extBut _ _ S.zi2 (k2.extBut _ _ S.TOz.symm (k1.extBut _ _ S.zi1 z0)))
  have kk : ∀ c o, c ≠ z → c ≠ O → c ≠ i1 → c ≠ i2 → hp.get? c = some o → b2.get? c = some o := fun c o cz cO d1 d2 e => k4.extBut _ _ cO (k3.extBut _ _ d2 (k2.extBut _ _ cO (k1.extBut _ _ d1 (k0.extBut _ _ cz e))))
  have j1 : St1 (i + 1) b2 := D1.over (D1.over (D1.over r1 k2 S.Tf1) k3 S.sep2_1) k4 S.Tf1
  have j2 : St2 (i + 1) b2 := D2.over r2 k4 S.Tf2
  have zlt : z < b2.objs.size := Heap.lt_size zz
  show wpAny _ _ (Builtin.SmallTypes.ownedTupleHandOut (.ref z) (.ref b2.objs.size) >>= _) _ _ ⟨b2.push { cls := .type "tuple", data := .seq #[x1, x2] }, g, d, t2, os⟩
  refine wpAny_bind ?_
  unfold Builtin.SmallTypes.ownedTupleHandOut
  have z6 : IsZ (b2.push { cls := .type "tuple", data := .seq #[x1, x2] }) z I O .ellipsis := Heap.get?_push_of_some _ zz
  refine wpAny_bind (wpAny_setField_rec z6 (by simp) fun h7 z7 s7 => ?_)
  replace z7 : IsZ h7 z I O (rawInt b2.objs.size) := z7
  replace s7 : Heap.SameBut z (b2.push { cls := .type "tuple", data := .seq #[x1, x2] }) h7 := s7
  refine wpAny_setField_rec z7 (by simp) fun h8 z8 s8 => ?_
  replace z8 : IsZ h8 z I O (rawInt b2.objs.size) := z8
  replace s8 : Heap.SameBut z h7 h8 := s8
  have up : ∀ c o, c ≠ z → b2.get? c = some o → h8.get? c = some o := fun c o c1 e => s8.extBut _ _ c1 (s7.extBut _ _ c1 (Heap.get?_push_of_some _ e))
  have T8 : IsTupOf2 h8 b2.objs.size x1 x2 := s8.extBut _ _ (Nat.ne_of_gt zlt) (s7.extBut _ _ (Nat.ne_of_gt zlt) (Heap.get?_push_size _ rfl))
  have e8 : h8.objs.size = b2.objs.size + 1 := by rw [s8.1, s7.1, Heap.size_push]
  rw [hsz] at z8 T8 e8
  refine wpAny_pure ⟨_, rfl, ?_⟩
  show Q (.ref b2.objs.size) ⟨h8, g, d, t2, os⟩
  rw [hsz]
  exact hQ x1 x2 h8 t2 hx1 hx2 z8 (up _ _ S.TOz o4) (D1.frame _ _ _ j1 fun b hb o e => up b o (fun q => S.zf1 (q ▸ hb)) e) (D2.frame _ _ _ j2 fun b hb o e => up b o (fun q => S.zf2 (q ▸ hb)) e) T8 e8 fun c o cz cO d1 d2 e => up c o cz (kk c o cz cO d1 d2 e)
end
end ZS

/-! DG69: zip(x, y, strict=True): its making, its turns, over data. -/
namespace ZS
open PySem PySem.Spec PyProof.Rows
section
variable {prog : Program} {w : World} {A : Around} {E : Value → Shared → Prop} {s : Shared} {env : Env}
end
section
variable {prog : Program} {w : World} {A : Around} {E : Value → Shared → Prop} {s : Shared} {z I O i1 i2 : Addr} {f1 f2 : List Addr} {n n1 n2 i : Nat} {P1 P2 : Nat → Value → Prop} {St1 St2 : Nat → Heap → Prop} {a1 a2 : Value}
end
end ZS

/-! DG70: zip(x, y, strict=True) of a list or tuple and another of its length, over data. -/
namespace DL
open PySem PySem.Spec L2 RZ
open PyProof.Rows hiding St
section
variable {X : Cx} {Wx : WX} {P I J : List Nat} {e e2 : Expr} {elts : List Expr} {A : FA} {pos p tpos kp bp : Pos} {kk jj : Nat} {tA : TA}
end
end DL

/-! DG71: x *= e on ints. -/
namespace DL
open PySem L2
open PyProof.Rows hiding St
section
variable {X : Cx} {Wx : WX} {P L I J : List Nat} {e : Expr} {F : FE} {pos pos' : Pos} {te : TE}
end
end DL

/-! DG72: dict(d), d a dict whose keys are tuples of hashes apart. -/
namespace DL
open PySem L2
open PyProof.Rows hiding St
section
variable {prog : Program} {w : World} {A : Around} {E : Value → Shared → Prop} {s : Shared}
end
end DL

/-! DG73: x.m(e, ..), x a slot's own instance, lent to the method. -/
namespace DL
open PySem L2
open PyProof.Rows hiding St
section
variable {X : Cx} {Wx : WX} {P I J : List Nat} {e : Expr} {es : List Expr} {B : Env → (Env → Env → Prop) → XP → Prop} {sl : List (Option Nat)} {pos p apos : Pos} {k : Nat} {f C : Addr} {G : DFn} {y m : Str} {io : List Nat} {tA : TA}
end
end DL

/-! DG74: xs.pop(i), xs an owned list. -/
namespace DL
open PySem L2
open PyProof.Rows hiding St
section
variable {X : Cx} {Wx : WX} {P I J : List Nat} {e : Expr} {F : FE} {te : TE} {pos' apos cpos : Pos}
end
end DL

/-! DG75: x.m(k = e, ..): a method called by keywords alone. -/
namespace DL
open PySem L2
open PyProof.Rows hiding St
section
variable {X : Cx} {Wx : WX} {P I J J1 : List Nat} {o : Expr} {Fo : FE} {A : Env → (Env → Env → Prop) → XP → Prop} {pos apos : Pos} {k n : Nat} {f C : Addr} {G : DFn} {m : Str} {tA : TA} {ta : TE} {kws : List Keyword} {ks : List Str} {pi : List Nat} {sp : Sp} {E : St → XK}
end
end DL

/-! DG76: list(d), the keys of d pairs or other tuples: a new list. -/
namespace L2
open PySem PySem.Spec PyProof.Rows
end L2
namespace DL
open PySem L2
open PyProof.Rows hiding St
section
variable {X : Cx} {Wx : WX} {P I J : List Nat} {e : Expr} {F : FE} {te : TE} {pos p : Pos}
end
end DL

/-! DG77: isinstance(d, dict) where d is a dict keyed by tuples. -/
namespace L2
open PySem PySem.Spec PyProof.Rows
end L2
namespace DL
open PySem L2
open PyProof.Rows hiding St
end DL

/-! DG78: a comprehension with two fors. -/
namespace DL
open PySem L2
open PyProof.Rows hiding St
section
variable {K : PySem.W.Frag} {W : Wd} {P I : List Nat} {ρ : Env} {σ : St} {Hb H : Hp}
theorem NewAt.unwiped {vs : List Nat} {p : Addr} {d : D} {ρ' : Env} {σ' : St} {Hb' H' : Hp} (n : NewAt K W P I ρ' σ' Hb' H' p d) (o : σ'.length = σ.length ∧ ∀ i, i ∉ vs → σ'[i]? = σ[i]?) (hP : ∀ v ∈ vs, v ∉ P ∧ v ∉ I) : NewAt K W P I (unwipe ρ ρ' vs) σ Hb' H' p d := by
  refine ⟨n.cell, n.nbF, fun i di q a hi g e ha fa => ?_⟩
  rcases get_unwipe g with ⟨x, _⟩ | ⟨x, y⟩
  · exact absurd hi (fun q => q.elim (hP i x).1 (hP i x).2)
  · exact n.unF i di q a hi y (by rw [o.2 i x]; exact e) ha fa
theorem NewAt.wiped {vs : List Nat} {p : Addr} {d : D} (n : NewAt K W P I ρ σ Hb H p d) (hP : ∀ v ∈ vs, v ∉ P ∧ v ∉ I) : NewAt K W P I (wipeE ρ vs) (wipe σ vs) Hb H p d := by
  refine ⟨n.cell, n.nbF, fun i di q a hi g e ha fa => ?_⟩
  obtain ⟨g, h⟩ := get_wipe g
  exact n.unF i di q a hi g (by rw [wipe_get h] at e; exact e) ha fa
end
section
variable {X : Cx} {Wx : WX} {P L I J : List Nat} {elt tg iter tg1 iter1 : Expr} {ifs ifs1 : List Expr} {scope : Scope} {own : List (Str × Nat)} {pos spos py : Pos} {wi wi1 : TI} {g g1 : TG} {tt tt1 : TT} {te : TE} {A A1 : FA} {gd gd1 : FG} {T T1 : FT} {E : FE} {ts ts1 vs1 : List Nat}
end
section
variable {X : Cx} {Wx : WX} {P L I J : List Nat} {elt tg iter tg1 iter1 : Expr} {ifs ifs1 : List Expr} {scope : Scope} {own : List (Str × Nat)} {pos spos py : Pos} {wi wi1 : TI} {g g1 : TG} {tt tt1 : TT} {te : TE} {A A1 : FA} {gd gd1 : FG} {T T1 : FT} {E : FE} {ts ts1 vs1 : List Nat}
end
end DL

/-! DG79: d.clear() of a dict keyed by tuples; C(.., x, ..), x's cell lent to __init__. -/
namespace L2
open PySem PySem.Spec PyProof.Rows
section
variable {X : Cx} {pins : List (Addr × Obj)} {σ : St} {H : Hp} {s : Shared} {A : Around} {E : Value → Shared → Prop} {a : Addr} {kvs : List (List Key × V)}
end
end L2
namespace DL
open PySem L2
open PyProof.Rows hiding St
section
variable {X : Cx} {Wx : WX} {P I J : List Nat} {pos' apos cpos : Pos}
end
/-! ### C(.., x, ..) -/
section
variable {K : PySem.W.Frag} {W : Wd} {P J : List Nat} {ρ ρ' : Env} {σ σ' : St} {Hb H : Hp}
end
section
variable {X : Cx} {Wx : WX} {P I J : List Nat} {e : Expr} {es : List Expr} {B : Env → (Env → Env → Prop) → XP → Prop} {sl : List (Option Nat)} {pos p : Pos} {k : Nat} {f : Addr} {G : DFn} {y : Str} {io : List Nat} {tA : TA} {C : Addr} {n : Str} {m : Nat}
end
end DL

/-! DG80: texts: str(i), int(text), sep.join(..), text.split(sep), text[a:b], for over a text. -/
namespace DL
open PySem L2
open PyProof.Rows hiding St
section
variable {K : PySem.W.Frag}
end
section
variable {X : Cx} {Wx : WX} {P I J J1 J2 : List Nat} {e o a tg : Expr} {te to ta : TE} {F G : FE} {pos apos p2 : Pos} {lo hi : Option Expr} {tl th : TO} {A B : FO}
end
end DL

/-! DG81: f-strings, a module's text by its name, a, *b = a list. -/
namespace DL
open PySem L2
open PyProof.Rows hiding St
section
variable {X : Cx} {Wx : WX} {P I J L : List Nat} {e e1 e2 : Expr} {te : TE} {F : FE} {k : Nat} {tgs : TGs} {g : FGs} {ts : List Nat} {pos pos' p : Pos}
end
/-! ### f-strings -/
abbrev FJ := Env → (Str → Env → Prop) → XP → Prop
structure DJ (X : Cx) (Wx : WX) (P I : List Nat) (es : List Expr) (ts : List TE) (F : Str → FJ) (J : List Nat) : Prop where
  pe : PJ X es ts
  ev : ∀ (acc : Str) (W : Wd) (ρ : Env) (σ : St) (Hb H : Hp) (Q : Str → Hp → Prop) (post : Str → Env → Prop) (xp : XP), EnvOk X.K W P I ρ σ Hb H → F acc ρ post xp → XOk X Wx W P σ xp →
    (∀ z ρ' Hb' H', post z ρ' → EnvOk X.K W P J ρ' σ Hb' H' → Sub Hb Hb' → Q z H') → tJs ts acc σ H Q
section
variable {X : Cx} {Wx : WX} {P I J J1 : List Nat} {e v1 v2 : Expr} {es rest : List Expr} {te : TE} {ts : List TE} {F : FE} {B : Str → FJ} {pos pos' : Pos} {x : Str} {j : _}
end
end DL

/-! DG82: {x:>w} for a whole number, text * number. -/
namespace DL
open PySem L2
open PyProof.Rows hiding St
open Builtin Builtin.Float
/-- the spec ">w" -/
structure SpecR (sp : Str) (w : Nat) : Prop where
  hp : ∀ name, parseFormatSpec sp.cps.toList name 62 = .ok { align := 62, width := some w }
  hne : (sp.length == 0) = false
  hasc : ((sp.cps.toList.drop 1).any (· ≥ 128) || (sp.cps.getD 0 0 ≥ 128 && !([60, 62, 61, 94] : List Nat).contains (sp.cps.getD 1 0))) = false
  back : (sp.cps.back? == some 0) = false
  hw : w ≤ 1000
  hz : sp.length ≤ 1000
section
variable {X : Cx}
end
section
variable {X : Cx} {Wx : WX} {P I J J1 : List Nat} {e : Expr} {es : List Expr} {te : TE} {ts : List TE} {F : FE} {B : Str → FJ} {pos pos' p2 p3 : Pos} {sp : Str} {w : Nat} {j : _}
end
end DL

/-! DG83: a def whose last parameter is left to its default, a tuple of whole numbers. -/
namespace DL
open PySem L2
open PyProof.Rows hiding St
/-- a tuple of whole numbers of the module -/
def KT (K : PySem.W.Frag) (l : List Int) (v : Value) : Prop := ∃ (a : Addr) (o : Obj) (its : Array Value) (n : Nat), v = .ref a ∧ K.lookup a = some o ∧ o.cls = .type "tuple" ∧ o.dict = none ∧ o.data = .seq its n ∧ its.size ≤ 100 ∧ Vals (l.map V.int) its.toList
theorem isL_intsK {K : PySem.W.Frag} {H : Hp} : ∀ l : List Int, IsL K H (l.map V.int) (l.map D.int)
  | [] => .nil
  | i :: l => .cons (.int i) (isL_intsK l)
theorem KT.is {K : PySem.W.Frag} {l : List Int} {v : Value} (h : KT K l v) : ∃ x, RelV x v ∧ ∀ H, Is K H x (.ktp (l.map .int)) := by
  obtain ⟨a, o, its, n, rfl, h1, h2, hd, h3, h4, h5⟩ := h
  exact ⟨.ref a, rfl, fun H => .ktp (.inr ⟨o, its, n, h1, h2, hd, h3, Nat.le_trans h4 (by decide), h5⟩) (isL_intsK l)⟩
section
variable {P : Program} {w : World} {K : PySem.W.Frag} {mg : Str → Option Value} {base : Heap} {k : Nat} {f : Addr} {sp : Sp}
end
end DL

/-! DG84: a, l = value, a new list; l[i], l[j] = a pair. -/
namespace DL
open PySem L2
open PyProof.Rows hiding St
section
variable {X : Cx} {Wx : WX} {P L I J J1 J2 : List Nat} {a b value k1 k2 : Expr} {ta tb tc : TE} {F G G2 : FE} {pos px py pt p1 p2 s1 s2 : Pos} {kt : Nat}
end
end DL

/-! DG85: promises about exceptions whose context is None; try: .. except C: raise C2(e) from None. -/
namespace DL
open PySem L2
open PyProof.Rows hiding St
/-- a def's promise as FnG has it; what it raises has None for its context -/
def FnGN (P : Program) (w : World) (K : PySem.W.Frag) (mg : Str → Option Value) (base : Heap) (k : Nat) (f : Addr) (sp : Sp) : Prop :=
  ∀ (A : Around) (frs_ : List PySem.Env) (s : Shared) (H : Hp) (us : List Value) (vs : List V) (Q : VK) (E : XK), Room k A → A.guards = some [] → Env0 P w K mg base A frs_ s H → Vals vs us → sp vs H Q E →
    codeAny (model P w) A (.call (.ref f) ⟨us, []⟩) (CR (L2N.CX P w) frs_ P w H s Q E) s
section
variable {P : Program} {w : World} {K : PySem.W.Frag} {mg : Str → Option Value} {base : Heap} {k : Nat} {f : Addr} {sp : Sp}
theorem FnGN.mono {j : Nat} (F : FnGN P w K mg base j f sp) (h : j ≤ k) : FnGN P w K mg base k f sp := fun A o s H us vs Q E r => F A o s H us vs Q E (r.mono h)
end
section
variable {X : Cx} {Wx : WX} {P L I J J1 : List Nat} {e : Expr} {es : List Expr} {te : TE} {tA : TA} {F : FE} {A : FA} {pos p pos' : Pos} {n f x : Str} {C : Addr} {k i m : Nat} {sp : Sp} {E : St → XK} {t : TA} {G : DFn}
end
section
variable {X : Cx} {Wx : WX} {P I J : List Nat} {e : Expr} {te : TE} {F : FE} {pos p sp_ : Pos} {n x : Str} {C : Addr} {k : Nat} {G : DFn}
end
/-- an exception of a class that the clause names becomes another -/
def SPo.fr (S : SPo) (ts : List (Str × Bool)) (n f : Str) (F : FE) : SPo := { S with ex := fun e ρ1 => kept ts e.C (F ρ1 (fun d ρ2 => S.ex ⟨n, [(f, d)]⟩ ρ2) S.ex) (S.ex e ρ1) }
@[simp ↓] theorem fr_nx (S : SPo) (ts n f F) : (S.fr ts n f F).nx = S.nx := (rfl)
@[simp ↓] theorem fr_rt (S : SPo) (ts n f F) : (S.fr ts n f F).rt = S.rt := (rfl)
@[simp ↓] theorem fr_bk (S : SPo) (ts n f F) : (S.fr ts n f F).bk = S.bk := (rfl)
@[simp ↓] theorem fr_ct (S : SPo) (ts n f F) : (S.fr ts n f F).ct = S.ct := (rfl)
@[simp ↓] theorem fr_ex (S : SPo) (ts n f F m fs ρ) : (S.fr ts n f F).ex ⟨m, fs⟩ ρ = kept ts m (F ρ (fun d ρ2 => S.ex ⟨n, [(f, d)]⟩ ρ2) S.ex) (S.ex ⟨m, fs⟩ ρ) := (rfl)
section
variable {X : Cx} {Wx : WX} {P L I J J1 : List Nat} {e : Expr} {te : TE} {F : FE} {pos p pos' : Pos} {n f x : Str} {C : Addr}
end
end DL

/-! DG86: for k, v in x.items(), x a slot's own dict keyed by tuples; isinstance(x, dict) of such a slot. -/
namespace DL
open PySem L2
open PyProof.Rows hiding St
section
variable {K : PySem.W.Frag} {W : Wd} {P I : List Nat} {ρ : Env} {σ : St} {Hb H : Hp} {i : Nat} {p : Addr} {kvs : List (List Key × D)} {od : Obj} {us : List (List Key × V)}
variable {P' I' : List Nat} {ρ' : Env} {σ' : St} {Hb' H' : Hp} {o : HO}
end
section
variable {X : Cx} {Wx : WX} {P L I P' I' : List Nat} {x : Str} {p2 tpos apos cpos pos : Pos} {kk : Nat} {elts : List Expr} {B : FS} {g : FG} {tg1 : TG} {body : List Stmt}
end
end DL

/-! DG87: sleeping generators stay as they are through code that was walked without knowing them. -/
namespace GenT
open PySem
open Sem (wp)
open PyProof.Rows (AllBare)
/-- a sleeping generator made such that nothing is known of its waking -/
def kill : GenState → GenState
  | .suspended _ l c p fs cl => .suspended (fun _ => .unsupported "") l c p fs cl
  | x => x
def Asleep : GenState → Prop
  | .suspended .. => True
  | _ => False
instance (x : GenState) : Decidable (Asleep x) := by cases x <;> unfold Asleep <;> infer_instance
/-- the frames of a generator that was put to sleep hold no other generator's -/
def Ng : GenState → Prop
  | .suspended _ _ _ _ fs _ => splitAtGen fs = none
  | _ => True
/-- the sleepers D, killed; all others' frames are their own -/
structure GI (D : Nat → Option GenState) (s : Shared) : Prop where
  dead : ∀ i st, D i = some st → Asleep st ∧ s.gens[i]? = some (kill st)
  own : ∀ i x, s.gens[i]? = some x → D i = none → Ng x
/-- the sleepers, alive again -/
def back (D : Nat → Option GenState) (s : Shared) : Shared := { s with gens := s.gens.mapIdx fun i x => (D i).getD x }
theorem GI.push {D : Nat → Option GenState} {s : Shared} (g : GI D s) (c : Code) : GI D { s with gens := s.gens.push (.fresh c) } where
  dead := fun i st h => ⟨(g.dead i st h).1, by
    have k := (g.dead i st h).2
    have hi := (Array.getElem?_eq_some_iff.mp k).1
    show (s.gens.push _)[i]? = _
    rw [Array.getElem?_push, if_neg (by omega)]
    exact k⟩
  own := fun i x h n => by
    have h : (s.gens.push (.fresh c))[i]? = some x := h
    rw [Array.getElem?_push] at h
    split at h
    · cases h; trivial
    · exact g.own i x h n
theorem GI.set {D : Nat → Option GenState} {s : Shared} (g : GI D s) {i : Nat} {x : GenState} (n : D i = none) (hx : Ng x) : GI D (s.setGen i x) where
  dead := fun j st h => ⟨(g.dead j st h).1, by
    have ne : i ≠ j := fun z => by rw [z, h] at n; cases n
    show (s.gens.setIfInBounds i x)[j]? = _
    rw [Array.getElem?_setIfInBounds_ne ne]
    exact (g.dead j st h).2⟩
  own := fun j y h nj => by
    by_cases e : i = j
    · subst e
      have h : (s.gens.setIfInBounds i x)[i]? = some y := h
      rw [Array.getElem?_setIfInBounds] at h
      simp only [if_true] at h
      split at h
      · cases h; exact hx
      · cases h
    · have h : (s.gens.setIfInBounds i x)[j]? = some y := h
      rw [Array.getElem?_setIfInBounds_ne e] at h
      exact g.own j y h nj
theorem GI.heap {D : Nat → Option GenState} {s s' : Shared} (g : GI D s) (e : s'.gens = s.gens) : GI D s' := ⟨fun i st h => by rw [e]; exact g.dead i st h, fun i x h => by rw [e] at h; exact g.own i x h⟩
section
variable {M : Model} {D : Nat → Option GenState}
end
end GenT

/-! freed addresses stay freed -/
namespace GenT
open PySem
open Sem (wp)
def Dead (h h' : Heap) : Prop := h.objs.size ≤ h'.objs.size ∧ ∀ b, b < h.objs.size → h.get? b = none → h'.get? b = none
theorem Dead.refl (h : Heap) : Dead h h := ⟨Nat.le_refl _, fun _ _ e => e⟩
theorem Dead.trans {h h1 h2 : Heap} (a : Dead h h1) (b : Dead h1 h2) : Dead h h2 := ⟨Nat.le_trans a.1 b.1, fun c l e => b.2 c (Nat.lt_of_lt_of_le l a.1) (a.2 c l e)⟩
theorem Dead.push (h : Heap) (o : Obj) : Dead h (h.push o) := by
  refine ⟨by rw [Heap.size_push]; exact Nat.le_succ _, fun b l e => ?_⟩
  obtain ⟨objs, lf⟩ := h
  have l : b < objs.size := l
  unfold Heap.get? at e ⊢
  show (match (objs.push o)[b]? with | some ⟨_, _, .freed, _⟩ => none | o => o) = none
  rw [Array.getElem?_push, if_neg (by omega)]
  exact e
end GenT

/-! DG88: a generator's first segment, its later ones where its body ends in «yield from». -/
namespace GenT
open PySem PySem.Spec L2
open PyProof.Rows hiding St
open Sem (wp)
/-! ### one segment, whatever it ends in -/
def Go (M : Model) (A : Around) (Φ : End → Shared → Prop) (c : Code) (t : Sem PySem.Fin) (fs : List Frame) (s : Shared) : Prop :=
  ∀ Γ p, Γ.code = c → Γ.Woken A → ∃ e s', Runs M Γ p t fs s e s' ∧ Φ e s'
section
variable {M : Model} {A : Around} {Φ : End → Shared → Prop} {c : Code} {fs : List Frame} {s : Shared}
/-- what wakes a generator -/
def Woke (M : Model) (A : Around) (Φ : End → Shared → Prop) (gs : GenState) (s : Shared) : Prop := match gs with
  | .fresh c => Go M A Φ c (M.den c) [] s
  | .suspended k _ c _ fs _ => Go M A Φ c (k (.send .none)) fs s
  | _ => False
end
/-! ### yield from an iterator -/
/-- an iterator at it that hands out xs -/
structure QG (P : Program) (w : World) (it : Addr) (dat : Hp → Prop) (xs : List V) (St : Nat → Heap → Prop) : Prop where
  ty : ∃ T, (∀ j h, St j h → ∃ o, h.get? it = some o ∧ o.cls = .type T) ∧ typeLookup (.type T) "close" = pure none ∧ (Value.type T != Value.type "generator") = true
  nc : ∀ j h, St j h → ∃ o, h.get? it = some o ∧ ∀ v, o.data ≠ .cell v
  frame : ∀ j h h' H', St j h → (∀ o, h.get? it = some o → h'.get? it = some o) → HOk P w H' h' → dat H' → St j h'
  item : ∀ (A : Around) (j : Nat) (x : V) (s : Shared) (Q : Option Value → Shared → Prop) (E : Value → Shared → Prop), A.handled = none → xs[j]? = some x → St j s.heap →
    (∀ v h' tk, RelV x v → St (j + 1) h' → (∀ b o, b ≠ it → s.heap.get? b = some o → h'.get? b = some o) → Q (some v) { s with heap := h', toks := tk }) → wpAny (model P w) A (callSpecial? (.ref it) "__next__") Q E s
  done : ∀ (A : Around) (s : Shared) (Q : Option Value → Shared → Prop) (E : Value → Shared → Prop), A.handled = none → St xs.length s.heap →
    (∀ e h' tk, StopX e h' → (∀ b o, b ≠ it → s.heap.get? b = some o → h'.get? b = some o) → E e { s with heap := h', toks := tk }) → wpAny (model P w) A (callSpecial? (.ref it) "__next__") Q E s
/-- nothing but the iterator was touched -/
def KeepBut (it : Addr) (s s' : Shared) : Prop := ∃ h' tk, s' = { s with heap := h', toks := tk } ∧ ∀ b o, b ≠ it → s.heap.get? b = some o → h'.get? b = some o
theorem KeepBut.refl (it : Addr) (s : Shared) : KeepBut it s s := ⟨s.heap, s.toks, rfl, fun _ _ _ e => e⟩
theorem KeepBut.go {it : Addr} {s s' : Shared} {h' : Heap} {tk : Nat} (k : KeepBut it s s') (h : ∀ b o, b ≠ it → s'.heap.get? b = some o → h'.get? b = some o) : KeepBut it s { s' with heap := h', toks := tk } := by
  obtain ⟨h1, t1, rfl, k1⟩ := k
  exact ⟨h', tk, rfl, fun b o n e => h b o n (k1 b o n e)⟩
def YT (it : Addr) (xs : List V) (St : Nat → Heap → Prop) : Protocol := fun n s₀ v s1 kap =>
  ∃ j x, j + n + 1 = xs.length ∧ xs[j]? = some x ∧ RelV x v ∧ KeepBut it s₀ s1 ∧ St (j + 1) s1.heap ∧ ∀ s', St (j + 1) s'.heap → kap (.send .none) s'
def RT (it : Addr) : GenEnd := fun n s₀ r s1 => n = 0 ∧ r = .ok (.ret .none) ∧ KeepBut it s₀ s1
section
variable {P : Program} {w : World} {A : Around} {fs : List Frame} {it : Addr} {dat : Hp → Prop} {xs : List V} {St : Nat → Heap → Prop}
variable {Φ : End → Shared → Prop}
end
end GenT

/-! DG89: a generator def whose body ends in «yield from», by its body; its call, its first item. -/
namespace GenT
open PySem PySem.Spec L2
open PyProof.Rows hiding St
open Sem (wp)
/-! ### bodies -/
abbrev WantY := List V → (Hp → Prop) → Hp → Prop
abbrev TYg := L2.St → Hp → WantY → Prop
structure YfG (X : Cx) (e : Expr) (t : TYg) : Prop where
  run : ∀ (pins : List (Addr × Obj)) (s : Shared) (σ : L2.St) (H : Hp) (Q : WantY), Inv X pins σ H s → t σ H Q → wpAny (model X.prog X.w) X.A (eval e X.env) (fun v s1 => ∃ T, s1.TypeIs v T ∧ (Value.type T == Value.type "coroutine") = false ∧
    wpAny (model X.prog X.w) X.A (pyIter v) (fun u s2 => ∃ (it : Addr) (H' : Hp) (dat : Hp → Prop) (xs : List V) (St : Nat → Heap → Prop), u = .ref it ∧ Inv X pins σ H' s2 ∧ X.s_0.heap.objs.size ≤ it ∧ it ≠ X.env.locals ∧ (∀ x c, X.env.cells.lookup x = some c → c ≠ it) ∧
      H' it = none ∧ it ∉ X.fs ∧ (∀ p ∈ X.pn ++ pins, p.1 ≠ it) ∧ St 0 s2.heap ∧ QG X.prog X.w it dat xs St ∧ dat H' ∧ Q xs dat H') X.xe s1) X.xe s
/-- where the first item is handed out -/
def FirstOk (X : Cx) (A : Around) (ip : List (Addr × Obj)) (Q : WantY) (v : Value) (k : Resume → Sem PySem.Fin) (c' : Code) (fs' : List Frame) (s' : Shared) : Prop :=
  fs'.any Frame.guarded = false ∧ ∃ (it : Addr) (dat : Hp → Prop) (xs : List V) (St : Nat → Heap → Prop) (x : V) (σ' : L2.St) (H' : Hp), RelV x v ∧ xs[0]? = some x ∧ Inv X ip σ' H' s' ∧ X.s_0.heap.objs.size ≤ it ∧ H' it = none ∧ it ∉ X.fs ∧ (∀ p ∈ X.pn ++ ip, p.1 ≠ it) ∧
    QG X.prog X.w it dat xs St ∧ St 1 s'.heap ∧ dat H' ∧ Q xs dat H' ∧ ∀ s'', St 1 s''.heap → Seg (model X.prog X.w) A (RT it) (YT it xs St) (xs.length - 1) s'' c' (k (.send .none)) fs' s''
/-- what follows the body -/
structure After (X : Cx) (A : Around) (c : Code) (fs : List Frame) (K : Flow → Sem PySem.Fin) (J : Value → Sem PySem.Fin) (Φ : End → Shared → Prop) (ip : List (Addr × Obj)) (Q : WantY) : Prop where
  nx : ∀ s' f, f = .next ∨ f = .ret .none → (∃ σ' H' dat, Inv X ip σ' H' s' ∧ Q [] dat H') → Go (model X.prog X.w) A Φ c (K f) fs s'
  sg : ∀ (R : GenEnd) (Y : Protocol) (n : Nat) (s₀ s : Shared), R n s₀ (.ok (.ret .none)) s → Seg (model X.prog X.w) A R Y n s₀ c (K .next) fs s
  ex : ∀ e s', X.xe e s' → Go (model X.prog X.w) A Φ c (J e) fs s'
  one : ∀ (v : Value) (l : List Value) (k : Resume → Sem PySem.Fin) (c' : Code) (p' : Pos) (fs' : List Frame) (s' : Shared), FirstOk X A ip Q v k c' fs' s' → Φ (.susp v false l k c' p' fs') s'
structure Here (X : Cx) (A : Around) (c : Code) (fs : List Frame) (gd : Bool → Bool) : Prop where
  over : A.over c fs = X.A
  split : splitAtGen fs = none
  guard : fs.any Frame.guarded = false
  gd : gd false = false
  hd : X.A.handled = none
structure GT (X : Cx) (sts : List Stmt) (t : WantY → L2.St → Hp → Prop) : Prop where
  run : ∀ (A : Around) (c : Code) (fs : List Frame) (K : Flow → Sem PySem.Fin) (J : Value → Sem PySem.Fin) (gd : Bool → Bool) (lv : List Value → List Value) (Φ : End → Shared → Prop) (ip : List (Addr × Obj)) (s : Shared) (σ : L2.St) (H : Hp) (Q : WantY),
    Here X A c fs gd → After X A c fs K J Φ ip Q → Inv X ip σ H s → t Q σ H → Go (model X.prog X.w) A Φ c ((execs sts X.env).wrap K J gd lv) fs s
section
variable {X : Cx} {e test : Expr} {yp pos : Pos} {st : Stmt} {rest B C : List Stmt}
/-- the last statement -/
theorem After.last {A : Around} {c : Code} {fs : List Frame} {K : Flow → Sem PySem.Fin} {J : Value → Sem PySem.Fin} {Φ : End → Shared → Prop} {ip : List (Addr × Obj)} {Q : WantY} (a : After X A c fs K J Φ ip Q) (gd : Bool → Bool) (lv : List Value → List Value) :
    After X A c fs (fun f => match f with | .next => (execs [] X.env).wrap K J gd lv | f => K f) J Φ ip Q where
  nx := fun s' f hf h => by
    rcases hf with rfl | rfl
    · exact a.nx s' .next (.inl rfl) h
    · exact a.nx s' (.ret .none) (.inr rfl) h
  sg := fun R Y n s₀ s h => seg_execs_nil (a.sg R Y n s₀ s h)
  ex := a.ex
  one := a.one
end
/-! ### the def -/
/-- how its first segment ends -/
def GPhi (P : Program) (w : World) (A : Around) (outer : List PySem.Env) (H : Hp) (s : Shared) (a : Addr) (g : Nat) (pn : List (Addr × Obj)) (Q : WantY) (e : End) (s1 : Shared) : Prop :=
  s1.os = s.os ∧ AllBare s1.gens ∧ s1.heap.NoLimit ∧ s1.heap.IsGen a g ∧ match e with
  | .ret r => r = .ok (.ret .none) ∧ ∃ H' dat, Un (frs outer) [] H H' s.heap s1.heap ∧ HOk P w H' s1.heap ∧ H' a = none ∧ (∀ p ∈ pn, s1.heap.get? p.1 = some p.2 ∧ H' p.1 = none) ∧ Q [] dat H'
  | .susp v gd l k c' p fs' => (End.susp v gd l k c' p fs').quiet = true ∧ ∃ (it : Addr) (dat : Hp → Prop) (xs : List V) (St : Nat → Heap → Prop) (x : V) (H' : Hp), RelV x v ∧ xs[0]? = some x ∧ Un (frs outer) [] H H' s.heap s1.heap ∧ HOk P w H' s1.heap ∧ H' a = none ∧ (∀ p ∈ pn, s1.heap.get? p.1 = some p.2 ∧ H' p.1 = none ∧ p.1 ≠ it) ∧
      s.heap.objs.size ≤ it ∧ it < s1.heap.objs.size ∧ H' it = none ∧ it ∉ frs outer ∧ a ≠ it ∧ QG P w it dat xs St ∧ St 1 s1.heap ∧ dat H' ∧ Q xs dat H' ∧ ∀ s'', St 1 s''.heap → Seg (model P w) A (RT it) (YT it xs St) (xs.length - 1) s'' c' (k (.send .none)) fs' s''
/-- what a call gives: a generator that has not begun -/
def GNew (P : Program) (w : World) (k : Nat) (outer : List PySem.Env) (H : Hp) (s : Shared) (Q : WantY) (u : Value) (s' : Shared) : Prop :=
  ∃ (a : Addr) (g : Nat) (c : Code), u = .ref a ∧ s.heap.objs.size ≤ a ∧ a < s'.heap.objs.size ∧ s'.heap.IsGen a g ∧ s'.gens[g]? = some (.fresh c) ∧ s'.os = s.os ∧ AllBare s'.gens ∧ s'.heap.NoLimit ∧ (∀ b o, s.heap.get? b = some o → s'.heap.get? b = some o) ∧ Dead s.heap s'.heap ∧
    ∀ (A : Around) (s2 : Shared) (pn : List (Addr × Obj)), Room k A → A.guards = some [] → A.frames = some outer → (∀ b o, s'.heap.get? b = some o → s2.heap.get? b = some o) → s2.os = s.os → AllBare s2.gens →
      (∀ p ∈ pn, s2.heap.get? p.1 = some p.2 ∧ s'.heap.objs.size ≤ p.1 ∧ ∀ v, p.2.data ≠ .cell v) → Go (model P w) A (GPhi P w A outer H s a g pn Q) c ((model P w).den c) [] s2
abbrev SpY := List V → Hp → WantY → Prop
def FnY (P : Program) (w : World) (K : PySem.W.Frag) (mg : Str → Option Value) (base : Heap) (k : Nat) (f : Addr) (sp : SpY) : Prop :=
  ∀ (A : Around) (outer : List PySem.Env) (s : Shared) (H : Hp) (us : List Value) (vs : List V) (Q : WantY), Room k A → Env0 P w K mg base A outer s H → Vals vs us → sp vs H Q →
    codeAny (model P w) A (.call (.ref f) ⟨us, []⟩) (fun r s' => match r with | .ok (.ret u) => GNew P w k outer H s Q u s' | _ => False) s
end GenT

/-! DG90: for loops over generators. -/
namespace GenT
open PySem PySem.Spec L2 GenW
open PyProof.Rows hiding St
open Sem (wp)
section
variable {X : Cx}
end
/-! ### next -/
section
variable {P : Program} {w : World} {A : Around} {E : Value → Shared → Prop} {s : Shared}
/-- it sleeps, j items were handed out -/
structure Slp (P : Program) (w : World) (A : Around) (a it : Addr) (g : Nat) (xs : List V) (St : Nat → Heap → Prop) (j : Nat) (s : Shared) : Prop where
  gen : s.heap.IsGen a g
  st : St j s.heap
  le : j ≤ xs.length
  there : ∃ gs, s.gens[g]? = some gs ∧ Asleep gs ∧ ∀ s'', St j s''.heap → Woke (model P w) A (fun e s1 => SegEnd (RT it) (YT it xs St) (xs.length - j) (Seg.next (model P w) A (RT it) (YT it xs St) (xs.length - j)) s'' e s1) gs s''
end
/-- an expression whose value is a generator that has not begun -/
abbrev TGY := L2.St → Hp → WantY → Prop
structure PGY (X : Cx) (k : Nat) (e : Expr) (tg : TGY) : Prop where
  run : ∀ (pins : List (Addr × Obj)) (s : Shared) (σ : L2.St) (H : Hp) (Q : WantY), Inv X pins σ H s → tg σ H Q → wpAny (model X.prog X.w) X.A (eval e X.env) (fun u s' => ∃ H1 sc, Inv X pins σ H1 sc ∧ GNew X.prog X.w k X.stack H1 sc Q u s') X.xe s
end GenT

/-! DG91: list comprehensions over generators. -/
namespace GenT
open PySem PySem.Spec L2 GenW
open PyProof.Rows hiding St
open Sem (wp)
section
variable {X : Cx}
end
end GenT

/-! DG92: generators over data: for, comprehensions. -/
namespace GenT
open PySem PySem.Spec L2 GenW
open PyProof.Rows hiding St
section
variable {X : Cx}
/-! ### calls that give a generator -/
variable {k : Nat} {f C : Addr} {fd : FuncData} {ps : List Str} {sp : SpY} {x m : Str} {p pos pos' apos : Pos} {o : Expr} {ta : TE}
end
theorem GNew.mono {P : Program} {w : World} {k k' : Nat} {outer : List PySem.Env} {H : Hp} {s s' : Shared} {Q : WantY} {u : Value} (h : GNew P w k outer H s Q u s') (hk : k ≤ k') : GNew P w k' outer H s Q u s' := by
  obtain ⟨a, gi, c, e, ha1, ha2, hgen, hgs, hos, hbare, hlim, hkp, hdd, go⟩ := h
  exact ⟨a, gi, c, e, ha1, ha2, hgen, hgs, hos, hbare, hlim, hkp, hdd, fun A s2 pn hr => go A s2 pn (hr.mono hk)⟩
theorem FnY.mono {P : Program} {w : World} {K : PySem.W.Frag} {mg : Str → Option Value} {base : Heap} {k k' : Nat} {f : Addr} {sp : SpY} (F : FnY P w K mg base k f sp) (hk : k ≤ k') : FnY P w K mg base k' f sp := fun A outer s H us vs Q hr e r hs =>
  codeAny_mono (F A outer s H us vs Q (hr.mono hk) e r hs) fun r s' q => by
    cases r with
    | error e => exact q
    | ok fl =>
      cases fl with
      | ret u => exact GNew.mono q hk
      | next => exact q
      | brk => exact q
      | cont => exact q
end GenT
namespace DL
open PySem PySem.Spec L2 GenT
open PyProof.Rows hiding St
/-- what a generator's data stands for, as long as what was known is known -/
abbrev DatOk (Hb : Hp) (dat : Hp → Prop) : Prop := ∀ Hb' H', Sub Hb Hb' → Sub Hb' H' → dat H'
/-- what «yield from» walks -/
structure DYG (X : Cx) (Wx : WX) (P I : List Nat) (e : Expr) (t : TYg) (F : FA) (J : List Nat) : Prop where
  pe : YfG X e t
  ev : ∀ (W : Wd) (ρ : Env) (σ : St) (Hb H : Hp) (Q : WantY) (post : List D → Env → Prop) (xp : XP), EnvOk X.K W P I ρ σ Hb H → F ρ post xp → XOk X Wx W P σ xp →
    (∀ ds ρ' vs dat Hb' H', post ds ρ' → EnvOk X.K W P J ρ' σ Hb' H' → Sub Hb Hb' → IsL X.K Hb' vs ds → DatOk Hb' dat → Q vs dat H') → t σ H Q
/-- a generator's body -/
structure DGT (X : Cx) (P I : List Nat) (sts : List Stmt) (F : FA) : Prop where
  run : ∃ t, GT X sts t ∧ ∀ (W : Wd) (ρ : Env) (σ : St) (Hb H : Hp) (Q : WantY) (post : List D → Env → Prop), EnvOk X.K W P I ρ σ Hb H → F ρ post noX →
    (∀ ds ρ' σ' vs dat Hb' H', post ds ρ' → EnvOk X.K W P [] ρ' σ' Hb' H' → IsL X.K Hb' vs ds → DatOk Hb' dat → Q vs dat H') → t Q σ H
/-- an expression that gives a generator -/
structure DPY (X : Cx) (Wx : WX) (P I : List Nat) (k : Nat) (e : Expr) (t : TGY) (F : FA) (J : List Nat) : Prop where
  pe : PGY X k e t
  ev : ∀ (W : Wd) (ρ : Env) (σ : St) (Hb H : Hp) (Q : WantY) (post : List D → Env → Prop) (xp : XP), EnvOk X.K W P I ρ σ Hb H → F ρ post xp → XOk X Wx W P σ xp →
    (∀ ds ρ' vs dat Hb' H', post ds ρ' → EnvOk X.K W P J ρ' σ Hb' H' → Sub Hb Hb' → IsL X.K Hb' vs ds → DatOk Hb' dat → Q vs dat H') → t σ H Q
section
variable {X : Cx} {Wx : WX} {P I J J1 : List Nat} {a b e : Expr} {p pos yp : Pos} {tA : TA} {A : FA} {t : TYg} {F : FA}
end
section
variable {P : Program} {w : World} {K : PySem.W.Frag} {mg : Str → Option Value} {base : Heap}
end
section
variable {X : Cx} {Wx : WX} {P L I J : List Nat} {o tgt iter : Expr} {ta : TE} {Fo : FE} {k : Nat} {f C : Addr} {n m : Str} {G : DGen} {p pos pos' apos : Pos} {A : FA} {tg : TGY} {body : List Stmt} {B : FS} {g : FG} {ts : List Nat}
end
section
variable {X : Cx} {Wx : WX} {P L I J : List Nat} {k : Nat} {elt tgt iter : Expr} {ifs : List Expr} {scope : Scope} {own : List (Str × Nat)} {pos spos py : Pos} {tg : TGY} {g : TG} {tt : TT} {te : TE} {A : FA} {gd : FG} {T : FT} {E : FE} {ts : List Nat}
end
end DL

/-! DG93: repr of plain data with empty dicts in it. -/
namespace DL
open PySem L2
open PyProof.Rows hiding St
section
variable {X : Cx} {pins : List (Addr × Obj)} {σ : St} {H : Hp} {s : Shared}
end
section
variable {X : Cx} {K : PySem.W.Frag}
end
end DL

/-! DG94: yield from a list; list of a generator. -/
namespace GenT
open PySem PySem.Spec L2 GenW
open PyProof.Rows hiding St
open Sem (wp)
/-! ### the list's iterator -/
section
variable {prog : Program} {w : World} {A : Around} {E : Value → Shared → Prop} {s : Shared}
end
/-- what stands while a list is filled: j items are in it -/
structure Dr (P : Program) (w : World) (A : Around) (outer : List PySem.Env) (H H' : Hp) (sc : Shared) (S a it : Addr) (g : Nat) (dat : Hp → Prop) (xs : List V) (St : Nat → Heap → Prop) (j : Nat) (s : Shared) : Prop where
  slp : Slp P w A.in1.in1 a it g xs St j s
  nl : s.heap.NoLimit
  bare : AllBare s.gens
  os : s.os = sc.os
  un : Un (frs outer) [] H H' sc.heap s.heap
  hok : HOk P w H' s.heap
  lst : ∃ acc c, s.heap.get? S = some (lstObj acc c) ∧ Vals (xs.take j) acc.toList
end GenT

/-! DG95: lists of generators over data; calls of generator defs; statements that are not reached. -/
namespace DL
open PySem PySem.Spec L2 GenT
open PyProof.Rows hiding St
section
variable {X : Cx} {Wx : WX} {P I J : List Nat} {e : Expr} {es sts : List Expr} {body : List Stmt} {te : TE} {F : FE} {A : FA} {k n : Nat} {f : Addr} {x nm : Str} {p pos : Pos} {G : DGen} {tg : TGY} {sl : List (Option Nat)} {tA : TA} {Ao : Env → (Env → Env → Prop) → XP → Prop}
end
end DL

/-! DG96: x(lambda: e): the lambda is made, its maker's table told; the callee asks it. -/
namespace DL
open PySem PySem.Spec L2 LamX
open PyProof.Rows hiding St

/-- what a lambda gives, by what is wanted of its value, of its exception -/
abbrev Hole := (D → Prop) → (Exc → Prop) → Prop
/-- what the making of a lambda asks of the part: cd the maker's code, P its table, q the lambda's name -/
structure TabX (K : PySem.W.Frag) (mg : Str → Option Value) (cd : Value) (c P : Addr) (q : Str) : Prop where
  code : cd = .ref c
  hd : PySem.W.codeHdIn K c P = true
  mem : (P, q) ∈ TK K
  uq : ∀ p ∈ TK K, p.1 = P → p.2 = q
  bm : ∃ (bm : Addr) (ob : Obj), mg "__builtins__" = some (.ref bm) ∧ bm ≠ builtinsNs ∧ bm ≠ mainGlobals ∧ bm ≠ P ∧ K.lookup bm = some ob ∧ ob.cls = .type "module" ∧ ob.dict = some builtinsNs ∧ ob.data = .plain
  gP : mainGlobals ≠ P
theorem TabX.tb {K : PySem.W.Frag} {mg : Str → Option Value} {cd : Value} {c P : Addr} {q : Str} {base : Heap} (T : TabX K mg cd c P q) (k : K.In base) : TabB base mg c P := by
  obtain ⟨bm, ob, b1, b2, b3, b4, b5, b6, b7, b8⟩ := T.bm
  exact ⟨PySem.W.codeHd_of_K k T.hd, ⟨bm, ob, b1, b2, b3, b4, k _ _ b5, b6, b7, b8⟩, T.gP⟩

/-! ### the environment when a table grows -/
section
variable {K : PySem.W.Frag} {W : Wd} {P I : List Nat} {ρ : Env} {σ : St} {Hb H : Hp} {p : Addr} {ps qs : Array Value}
theorem EnvOk.tabW (E : EnvOk K W P I ρ σ Hb H) (hP : H p = some (.tbl ps)) (hb : Hb p = none) (t : TabOk K Hb (upd H p (.tbl qs))) : EnvOk K W P I ρ σ Hb (upd H p (.tbl qs)) := by
  obtain ⟨k1, k2⟩ := E.cells (H' := upd H p (.tbl qs)) (W' := W) (Sub.refl Hb) (fun i d q a u hi g e ha hu => by
    obtain ⟨q', e', c, _, f⟩ := E.celF i d hi g
    rw [e] at e'; cases e'
    exact ⟨by rw [upd_ne (fun z => by subst z; exact c.nts ha hP ps rfl)]; exact hu, (f a ha).1⟩) (fun _ _ _ _ _ _ _ _ => ⟨id, id⟩) (fun _ _ _ _ _ _ _ _ => id)
  refine ⟨fun a u e => ?_, ⟨E.stp.hb, fun a u e n nt => ?_, E.stp.fs, fun a e => ?_, fun a vs e => ?_⟩, E.len, E.val, k1, k2, t⟩
  · rw [upd_ne (fun z => by subst z; rw [hb] at e; cases e)]; exact E.sub a u e
  · have ha : a ≠ p := fun z => by
      subst z
      rcases E.stp.fr a u e n nt with h | ⟨_, _, od, h⟩
      · rw [hP] at h; exact nt _ (Option.some.inj h).symm
      · rw [hP] at h; cases h
    rw [upd_ne ha]; exact E.stp.fr a u e n nt
  · by_cases ha : a = p
    · subst ha; rw [upd_same] at e; cases e
    · rw [upd_ne ha] at e; exact E.stp.al a e
  · by_cases ha : a = p
    · subst ha; rw [upd_same] at e; cases e
    · rw [upd_ne ha] at e; exact E.stp.tp a vs e
end
section
variable {X : Cx} {pins : List (Addr × Obj)} {σ : St} {H Hb : Hp} {s : Shared} {W : Wd} {J I0 : List Nat} {ρ : Env}
/-- the lambda is made: its code object is new, or found in the table -/
theorem lam_makeE {c P : Addr} {params : Arguments} {body : Expr} {scope : Scope} {pos : Pos} {E : Value → Shared → Prop} {Q : Value → Shared → Prop} (I : Inv X pins σ H s) (T : TabX X.K X.mg X.env.code c P (X.env.qual ++ "<lambda>")) (E0 : EnvOk X.K W I0 J ρ σ Hb H)
    (hdef : defaultsOf params X.env = ([], [])) (hfree : ∀ y ∈ scope.names, y.2 = .free → ∃ c, X.env.cells.lookup y.1 = some c)
    (h : ∀ (f c' : Addr) (pm ctv : Value) (H1 Hb1 : Hp) (s' : Shared), Inv X pins σ H1 s' → EnvOk X.K W I0 J ρ σ Hb1 H1 → Sub Hb Hb1 →
      s'.heap.get? f = some (PySem.W.kla_obj "<lambda>" (X.env.qual ++ "<lambda>") params body scope (cloFrom X.env.cells scope.names []) pm c' ctv) → H1 f = none → f ∉ frs X.stack → Hb1 c' = some (CodeO c' (X.env.qual ++ "<lambda>")) → Q (.ref f) s') :
    wpAny (model X.prog X.w) X.A (eval (.Lambda params body scope pos) X.env) Q E s := by
  have hcode := T.code
  have TB := T.tb I.ok.mod.kin
  obtain ⟨ps, hP, hbP, ht, ha⟩ := E0.tab _ T.mem
  refine PySem.W.kla_eval hdef ?_
  have bP : s.heap.BuiltinsAt X.mg P := TB.bm.keeps I.bk
  have hP' : s.heap.get? P = some { cls := .none, data := .fields ps } := I.hok P _ hP
  have nofr : ∀ f, s.heap.objs.size ≤ f → f ∉ frs X.stack := fun f hf z => by
    rcases List.mem_cons.mp (I.stkSub _ z) with e | e
    · have h1 := I.lt
      rw [← e] at h1
      exact Nat.lt_irrefl _ (Nat.lt_of_lt_of_le h1 hf)
    · exact I.nofs hf e
  cases hc : codeAmong pos ps.toList with
  | none =>
    refine PySem.W.kla_makeFunction (mg := X.mg) (c := c) (P := P) (ps := ps) (closure_ok hfree) I.ok.glob (I.mod.glob.keeps I.bk) hcode (TB.code.keeps I.bk) hP' ht hc TB.gP bP fun c' ctv h' tk hx hge hlt hrec htb => ?_
    obtain ⟨c2, oc, vs, t, e2, hoc, hd, hv⟩ := hrec
    cases e2
    have hsz : s.heap.objs.size ≤ h'.objs.size := Nat.le_trans hge (Nat.le_of_lt hlt)
    have nC : H c' = none := I.hok.fresh hge
    have nPc : P ≠ c' := ne_of_none hP nC
    have I1 := inv_table (t' := tk) (more := #[rawInt pos.line, rawInt pos.col, .ref c']) (h' := h'.push (PySem.W.kla_obj "<lambda>" (X.env.qual ++ "<lambda>") params body scope (cloFrom X.env.cells scope.names []) ((X.mg "__name__").getD .none) c' ctv)) I hP
      (fun b o hb e => Heap.get?_push_of_some _ (hx b o hb e)) (Heap.get?_push_of_some _ htb) hge ⟨oc, vs, t, Heap.get?_push_of_some _ hoc, hd, hv⟩
    have comm : upd (upd H P (.tbl (ps ++ #[rawInt pos.line, rawInt pos.col, .ref c']))) c' (CodeO c' (X.env.qual ++ "<lambda>")) = upd (upd H c' (CodeO c' (X.env.qual ++ "<lambda>"))) P (.tbl (ps ++ #[rawInt pos.line, rawInt pos.col, .ref c'])) := by
      funext b
      unfold upd
      by_cases z : b = c'
      · rw [if_pos z, if_neg (fun w => nPc (w.symm.trans z)), if_pos z]
      · rw [if_neg z, if_neg z]
    have E1 := E0.alloc (p := c') (o := CodeO c' (X.env.qual ++ "<lambda>")) nC
    have hP1 : upd H c' (CodeO c' (X.env.qual ++ "<lambda>")) P = some (.tbl ps) := by rw [upd_ne nPc]; exact hP
    have hb1 : upd Hb c' (CodeO c' (X.env.qual ++ "<lambda>")) P = none := by rw [upd_ne nPc]; exact hbP
    have sb : Sub Hb (upd Hb c' (CodeO c' (X.env.qual ++ "<lambda>"))) := Sub.new (E0.sub.none nC)
    have eL : (ps ++ #[rawInt pos.line, rawInt pos.col, .ref c']).toList = ps.toList ++ [rawInt pos.line, rawInt pos.col, .ref c'] := by simp
    have T1 : TabOk X.K (upd Hb c' (CodeO c' (X.env.qual ++ "<lambda>"))) (upd (upd H c' (CodeO c' (X.env.qual ++ "<lambda>"))) P (.tbl (ps ++ #[rawInt pos.line, rawInt pos.col, .ref c']))) := fun p hp => by
      by_cases hb : p.1 = P
      · rw [T.uq p hp hb, hb]
        refine ⟨_, upd_same, hb1, by rw [eL]; exact PySem.TriplesOk_snoc _ _ _ _ ht, fun p' cv hcv => ?_⟩
        rw [eL] at hcv
        rcases among_app _ ht hcv with z | z
        · obtain ⟨c0, e1, e2⟩ := ha p' cv z
          exact ⟨c0, e1, sb.at e2⟩
        · exact ⟨c', z, upd_same⟩
      · obtain ⟨ps', a1, a0, a2, a3⟩ := E1.tab p hp
        exact ⟨ps', by rw [upd_ne hb]; exact a1, a0, a2, a3⟩
    have E2 := E1.tabW hP1 hb1 T1
    rw [← comm] at E2
    refine h h'.objs.size c' ((X.mg "__name__").getD .none) ctv _ _ _ I1 E2 sb (Heap.get?_push_size _ rfl) ?_ (nofr _ hsz) upd_same
    have n1 : h'.objs.size ≠ c' := Nat.ne_of_gt hlt
    have n2 : h'.objs.size ≠ P := Nat.ne_of_gt (Nat.lt_of_lt_of_le (Heap.lt_size hP') hsz)
    rw [upd_ne n1, upd_ne n2]
    exact I.hok.fresh hsz
  | some cv =>
    obtain ⟨c', e, hco⟩ := ha pos cv hc
    subst e
    obtain ⟨⟨oc, vs, t, hoc, hdc, hvc⟩, _, _⟩ := I.hok c' _ (E0.sub.at hco)
    refine PySem.W.kla_makeFunctionHit (mg := X.mg) (c := c) (P := P) (ps := ps) (closure_ok hfree) I.ok.glob (I.mod.glob.keeps I.bk) hcode (TB.code.keeps I.bk) hP' ht hc bP fun ctv h' tk hx hsz => ?_
    have I1 : Inv X pins σ H { s with heap := h'.push (PySem.W.kla_obj "<lambda>" (X.env.qual ++ "<lambda>") params body scope (cloFrom X.env.cells scope.names []) ((X.mg "__name__").getD .none) c' ctv), toks := tk } := I.kept fun b o e => Heap.get?_push_of_some _ (hx b o e)
    exact h h'.objs.size c' ((X.mg "__name__").getD .none) ctv H Hb _ I1 E0 (Sub.refl Hb) (Heap.get?_push_size _ rfl) (I.hok.fresh hsz) (nofr _ hsz) hco
end
end DL

/-! DG97: the callee asks the lambda; the call that hands it over. -/
namespace DL
open PySem PySem.Spec L2 LamX
open PyProof.Rows hiding St

/-- a world in which nothing is lent -/
abbrev bareW (Hb H : Hp) : Wd := ⟨Hb, H, lentAt (ioOf 0 []) [] (fill [] [] []) H, rootAt (ioOf 0 []) []⟩
/-- asking: i the slot that holds the lambda -/
def tAct (K : PySem.W.Frag) (Wx : WX) (i : Nat) (f c' : Addr) (q : Str) (σ : L2.St) (Fb : FE) : TE := fun σZ HZ Q => σZ[i]? = some (some (.ref f)) ∧ HZ c' = some (CodeO c' q) ∧
  ∃ (ρ0 : DL.Env) (Hb : Hp) (post : Post) (xp : XP), EnvOk K (bareW Hb HZ) [] [] ρ0 σ Hb HZ ∧ Fb ρ0 post xp ∧
    (∀ d ρ' v Hb' H', post d ρ' → EnvOk K (bareW Hb HZ) [] [] ρ' σ Hb' H' → Sub Hb Hb' → Is K Hb' v d → Q v H') ∧
    (∀ c ρ' cls dx Hb' H', xp c ρ' → EnvOk K (bareW Hb HZ) [] [] ρ' σ Hb' H' → XIs K Hb' cls dx c → Wx cls dx σZ H')
section
variable {X : Cx} {pins : List (Addr × Obj)} {σ : L2.St} {H : Hp} {s : Shared}
theorem pe_actS {CXg : CXT} {Eg : XK} {Ng : List Str} {qg : Str} {sg : Scope} {g f c' : Addr} {cdg pm ctv : Value} {params : Arguments} {body : Expr} {scope : Scope} {k i : Nat} {a : Str} {pn : List (Addr × Obj)} {xe : Value → Shared → Prop} {W : WX} {Fb : FE} {p1 p2 : Pos}
    (I : Inv X pins σ H s) (L : LamS X.env.scope scope) (hf : s.heap.get? f = some (PySem.W.kla_obj "<lambda>" (X.env.qual ++ "<lambda>") params body scope (cloFrom X.env.cells scope.names []) pm c' ctv)) (hfn : H f = none) (hfr : f ∉ frs X.stack)
    (hbind : bindArgs (PySem.W.kla_fn "<lambda>" (X.env.qual ++ "<lambda>") params body scope (cloFrom X.env.cells scope.names []) pm (.ref c') ctv) ⟨[], []⟩ = pure [])
    (tk : Takes ((cxOf CXg X.prog X.w X.K X.mg X.base Ng qg sg g cdg X.A X.stack s H Eg).tr pn xe) W) (hr : Room (k + 1) (X.A.deeper (envOfC qg sg s.heap.objs.size g cdg)))
    (hbody : ∀ (A : Around) (outer : List PySem.Env) (s : Shared) (H : Hp) (E : XK), Room k (A.deeper (lamEnv X scope s.heap.objs.size f c')) → A.guards = X.A.guards → ∃ t, DE (lamCx X A outer s H E scope f c') (WofE E) [] [] body t Fb [])
    (hN : Ng[i]? = some a) (hv : Vis sg a) (hd : (a == ("__debug__" : Str)) = false := by decide) (hcd : (a == ("__classdict__" : Str)) = false := by decide) :
    PE ((cxOf CXg X.prog X.w X.K X.mg X.base Ng qg sg g cdg X.A X.stack s H Eg).tr pn xe) (.Call (.Name a p1) [] [] p2) (tAct X.K W i f c' (X.env.qual ++ "<lambda>") σ Fb) := by
  refine ⟨fun pinsZ sZ σZ HZ Q IZ h => ?_⟩
  obtain ⟨hs, hc, ρ0, Hb0, post, xp, E0, f0, q0, x0⟩ := h
  refine wpAny_Call_Name_kw (thn ((pe_var (pos := p1) (i := i) hN hv hd hcd).run pinsZ sZ σZ HZ (fun v H1 => v = .ref f ∧ H1 = HZ) IZ ⟨.ref f, hs, rfl, rfl⟩) fun u s1 ⟨v, H1, I1, r1, q1⟩ => ?_)
  obtain ⟨ev, eH⟩ := q1
  subst ev
  rw [eH] at I1
  obtain rfl : u = Value.ref f := r1
  have of1 : s1.heap.get? f = some (PySem.W.kla_obj "<lambda>" (X.env.qual ++ "<lambda>") params body scope (cloFrom X.env.cells scope.names []) pm c' ctv) := I1.base.keep f _ hf hfn hfr (fun z => nomatch (show f ∈ ([] : List Addr) from z))
  refine PySem.W.callWith_F0 ⟨_, _, _, _, of1⟩ ?_
  have un : Un (frs X.stack) [] H HZ s.heap s1.heap := I1.base
  obtain ⟨⟨oc, vs, t, hoc, hdc, hvc⟩, _, _⟩ := I1.hok c' _ hc
  have rc : codeAny (model X.prog X.w) (X.A.deeper (envOfC qg sg s.heap.objs.size g cdg)) (.call (.ref f) ⟨[], []⟩) (CR (L2.CX X.prog X.w) (envOfC qg sg s.heap.objs.size g cdg :: X.stack) X.prog X.w HZ s1 Q (fun cls d H' => W cls d σZ H')) s1 := by
    refine PySem.W.kla_callFunE hr.depth of1 rfl L.co L.gen rfl ⟨c', oc, vs, t, rfl, hoc, hdc, hvc⟩ ?_
    rw [hbind]
    refine wpAny_pure (wpAny_newFunctionEnv (fun y hy => (L.own y hy).2) (fun y hy => absurd hy (by simp)) (fun h₁ hns hsb => ⟨I1.nolimit.fresh _ hsb, ?_⟩) L.kind)
    show codeAny _ _ (.expr body (lamEnv X scope s1.heap.objs.size f c')) _ _
    have kp : ∀ b o, s1.heap.get? b = some o → h₁.get? b = some o := fun b o e => hsb.extBut b o (Nat.ne_of_lt (Heap.lt_size e)) (Heap.get?_push_of_some _ e)
    have J : Inv (lamCx X (X.A.deeper (envOfC qg sg s.heap.objs.size g cdg)) (envOfC qg sg s.heap.objs.size g cdg :: X.stack) s1 HZ (fun cls d H' => W cls d σZ H') scope f c') [] σ HZ { s1 with heap := h₁, toks := s1.toks + ([] : List (Str × Value)).length } :=
      lam_start2 I L I1.env0 hr.hd un hns kp
    obtain ⟨tb, hb⟩ := hbody (X.A.deeper (envOfC qg sg s.heap.objs.size g cdg)) (envOfC qg sg s.heap.objs.size g cdg :: X.stack) s1 HZ (fun cls d H' => W cls d σZ H') (hr.deeper _) rfl
    have ht : tb σ HZ Q := hb.ev (bareW Hb0 HZ) ρ0 σ Hb0 HZ Q post xp E0 f0 x0 q0
    refine PySem.W.kla_codeExpr (wpAny_mono (hb.pe.run [] _ _ HZ Q J ht) (fun v s' hq => ?_) fun e s' hq => hq)
    obtain ⟨w', H', J', rv, q⟩ := hq
    exact ⟨w', H', J'.os, J'.bare, J'.base, J'.hok, rv, q⟩
  have hx : PassesAt (L2.CX X.prog X.w) ((cxOf CXg X.prog X.w X.K X.mg X.base Ng qg sg g cdg X.A X.stack s H Eg).tr pn xe) σZ (fun cls d H' => W cls d σZ H') := passAt tk σZ
  refine wpAny_call (codeAny_mono rc fun r s' hq => ?_)
  cases r with
  | error e => exact hx pinsZ HZ s1 e s' I1 hq
  | ok fl =>
    cases fl with
    | ret u => exact I1.after hq
    | next => exact False.elim hq
    | brk => exact False.elim hq
    | cont => exact False.elim hq
end
/-- asking, over data -/
def fAct (i : Nat) (f : Addr) (φ : Hp → Prop) (h : Hole) : FE := fun ρ post xp => get ρ i = some (.lam f φ) ∧ h (fun d => post d ρ) (fun e => xp e ρ)
@[simp ↓] theorem fAct_ap (i f φ h) (ρ : DL.Env) (post : Post) (xp : XP) : fAct i f φ h ρ post xp = (get ρ i = some (.lam f φ) ∧ h (fun d => post d ρ) (fun e => xp e ρ)) := (rfl)
/-- what the callee may rely on -/
def ActOk (Z : Cx) (i : Nat) (a : Str) (f : Addr) (φ : Hp → Prop) (h : Hole) : Prop := ∀ (W : WX) (pn : List (Addr × Obj)) (xe : Value → Shared → Prop), Takes (Z.tr pn xe) W → ∀ (P I : List Nat) (p1 p2 : Pos), i ∉ P → i ∉ I → (∀ j ∈ I, j ∉ P) →
  ∃ t, DE (Z.tr pn xe) W P I (.Call (.Name a p1) [] [] p2) t (fAct i f φ h) I
/-- the lambda's reading, as the maker's slots stood -/
def holeOf (own : List Nat) (ρ : DL.Env) (Fb : FE) : Hole := fun k x => Fb (wipeE ρ own) (fun d _ => k d) (fun e _ => x e)
@[simp ↓] theorem holeOf_ap (own : List Nat) (ρ : DL.Env) (Fb : FE) (k x) : holeOf own ρ Fb k x = Fb (wipeE ρ own) (fun d _ => k d) (fun e _ => x e) := (rfl)
/-- what is known of a lambda -/
def LamF (c' : Addr) (q : Str) (Hb0 : Hp) : Hp → Prop := fun Hx => Hx c' = some (CodeO c' q) ∧ Sub Hb0 Hx
theorem LamF.mono {c' : Addr} {q : Str} {Hb0 Hx : Hp} (h : LamF c' q Hb0 Hx) : ∀ H', Sub Hx H' → LamF c' q Hb0 H' := fun H' s => ⟨s.at h.1, h.2.trans s⟩
section
variable {X : Cx} {pins : List (Addr × Obj)} {σ : L2.St} {H Hb : Hp} {s : Shared} {W0 : Wd} {P0 I0 : List Nat} {ρ : DL.Env}
theorem actOk_of {CXg : CXT} {Eg : XK} {Ng : List Str} {qg : Str} {sg : Scope} {g f c' : Addr} {cdg pm ctv : Value} {params : Arguments} {body : Expr} {scope : Scope} {k i : Nat} {a : Str} {own : List Nat} {Fb : FE}
    (I : Inv X pins σ H s) (E1 : EnvOk X.K W0 P0 I0 ρ σ Hb H) (hown : ∀ j, (j ∈ P0 ∨ j ∈ I0) → j ∈ own) (L : LamS X.env.scope scope) (hf : s.heap.get? f = some (PySem.W.kla_obj "<lambda>" (X.env.qual ++ "<lambda>") params body scope (cloFrom X.env.cells scope.names []) pm c' ctv)) (hfn : H f = none) (hfr : f ∉ frs X.stack)
    (hbind : bindArgs (PySem.W.kla_fn "<lambda>" (X.env.qual ++ "<lambda>") params body scope (cloFrom X.env.cells scope.names []) pm (.ref c') ctv) ⟨[], []⟩ = pure [])
    (hr : Room (k + 1) (X.A.deeper (envOfC qg sg s.heap.objs.size g cdg)))
    (hbody : ∀ (A : Around) (outer : List PySem.Env) (s : Shared) (H : Hp) (E : XK), Room k (A.deeper (lamEnv X scope s.heap.objs.size f c')) → A.guards = X.A.guards → ∃ t, DE (lamCx X A outer s H E scope f c') (WofE E) [] [] body t Fb [])
    (hN : Ng[i]? = some a) (hv : Vis sg a) (hd : (a == ("__debug__" : Str)) = false) (hcd : (a == ("__classdict__" : Str)) = false) :
    ActOk (cxOf CXg X.prog X.w X.K X.mg X.base Ng qg sg g cdg X.A X.stack s H Eg) i a f (LamF c' (X.env.qual ++ "<lambda>") Hb) (holeOf own ρ Fb) := by
  intro W pn xe tk P J p1 p2 iP iJ hPJ
  refine ⟨_, pe_actS (i := i) I L hf hfn hfr hbind tk hr hbody hN hv hd hcd, fun W' ρZ σZ HbZ HZ Q post xp E h x q => ?_⟩
  obtain ⟨h1, h2⟩ := h
  obtain ⟨v, ev, is⟩ := E.val i _ h1 iP iJ
  cases is with
  | lam p m =>
    obtain ⟨pc, sb⟩ := p
    have trv : EnvOk X.K (bareW HbZ HZ) (ioOf 0 []) [] (fill [] [] ρZ) (([] : List V).map some) HbZ HZ := E.lend (sl := []) (vs := []) (ds := []) True.intro (fun j h => by simp [slots] at h) (by simp [slots]) (fun j h => by simp [slots] at h)
    refine ⟨ev, E.sub.at pc, wipeE ρ own, HbZ, _, _, ?_, h2, fun d ρ' v Hb' H' hd E' s' is => ?_, fun c ρ' cls dx Hb' H' hc E' xi => ?_⟩
    · refine ⟨E.sub, Stp.refl _ _ _ _, by rw [wipeE_len]; exact E1.len, fun j d g _ _ => ?_, fun j d hj _ => ?_, fun j k p q dj dk a hj => ?_, E.tab⟩
      · obtain ⟨g, nj⟩ := get_wipe g
        obtain ⟨u, eu, iu⟩ := E1.val j d g (fun z => nj (hown j (.inl z))) fun z => nj (hown j (.inr z))
        exact ⟨u, eu, iu.mono sb⟩
      · rcases hj with hj | hj <;> cases hj
      · rcases hj with hj | hj <;> cases hj
    · have E2 : EnvOk X.K (bareW HbZ HZ) (ioOf 0 []) [] [] (([] : List V).map some) Hb' H' := ⟨E'.sub, E'.stp, rfl, (fun j d g _ _ => by simp [get] at g), (fun j d hj _ => by rcases hj with hj | hj <;> cases hj), (fun j k p q dj dk a hj => by rcases hj with hj | hj <;> cases hj), E'.tab⟩
      have E3 := E.given (sl := []) (vs := []) (ds := []) True.intro (fun j h => by simp [slots] at h) (by simp [slots]) (fun j h => by simp [slots] at h) E2 rfl
      exact q d _ v Hb' H' hd E3 s' is
    · have E2 : EnvOk X.K (bareW HbZ HZ) (ioOf 0 []) [] [] (([] : List V).map some) Hb' H' := ⟨E'.sub, E'.stp, rfl, (fun j d g _ _ => by simp [get] at g), (fun j d hj _ => by rcases hj with hj | hj <;> cases hj), (fun j k p q dj dk a hj => by rcases hj with hj | hj <;> cases hj), E'.tab⟩
      have E3 := E.given (sl := []) (vs := []) (ds := []) True.intro (fun j h => by simp [slots] at h) (by simp [slots]) (fun j h => by simp [slots] at h) E2 rfl
      obtain ⟨Hb3, E4, s4⟩ := E3.drop (J := []) (fun j q => by cases q) hPJ
      refine x c _ cls dx Hb3 H' hc E4 ?_
      obtain ⟨e, r | ⟨d, us, e1, e2, e3, e4⟩⟩ := xi
      · exact ⟨e, .inl r⟩
      · exact ⟨e, .inr ⟨d, us, e1, s4.at e2, e3, e4.mono s4⟩⟩
end
/-! ### a def that is handed a lambda -/
section
variable {P : Program} {w : World} {K : PySem.W.Frag} {mg : Str → Option Value} {base : Heap}
/-- its promise: GT, by the lambda's object, what is known of it, what it gives -/
def FnL (P : Program) (w : World) (K : PySem.W.Frag) (mg : Str → Option Value) (base : Heap) (k : Nat) (g : Addr) (qual : Str) (sc : Scope) (N : List Str) (a : Str) (GT : Addr → (Hp → Prop) → Hole → DFn) : Prop :=
  ∃ cdv : Value, ∀ (A : Around) (frs_ : List PySem.Env) (s : Shared) (H : Hp) (Q : VK) (E : XK) (f : Addr) (φ : Hp → Prop) (h : Hole), Room k A → A.guards = some [] → Env0 P w K mg base A frs_ s H →
    ActOk (cxOf (L2.CX P w) P w K mg base N qual sc g cdv A frs_ s H E) 0 a f φ h → spD K 1 [] (GT f φ h) [.ref f] H Q E →
    codeAny (model P w) A (.call (.ref g) ⟨[.ref f], []⟩) (CR (L2.CX P w) frs_ P w H s Q E) s
theorem FnL.mono {j k : Nat} {g : Addr} {qual a : Str} {sc : Scope} {N : List Str} {GT : Addr → (Hp → Prop) → Hole → DFn} (F : FnL P w K mg base j g qual sc N a GT) (h : j ≤ k) : FnL P w K mg base k g qual sc N a GT := by
  obtain ⟨cdv, F⟩ := F
  exact ⟨cdv, fun A fr s H Q E f φ hh r => F A fr s H Q E f φ hh (r.mono h)⟩
theorem okGL_of {x qual a : Str} {st : Stmt} {f : Addr} {fd : FuncData} {N : List Str} {k : Nat} {J : List Nat} {GT : Addr → (Hp → Prop) → Hole → DFn} {Fd : Addr → (Hp → Prop) → Hole → FS} (F : FunG K x qual st f fd) (B : Binds K fd [a] []) (S : FnScope N [a] (defScope st))
    (hb : ∀ (cdv : Value) (A : Around) (outer : List PySem.Env) (s : Shared) (H : Hp) (E : XK) (g : Addr) (φ : Hp → Prop) (h : Hole), Room k (A.deeper (envOfC qual (defScope st) s.heap.objs.size f cdv)) → A.guards = some [] →
      ActOk (cxOf (L2.CX P w) P w K mg base N qual (defScope st) f cdv A outer s H E) 0 a g φ h →
      DSs (cxOf (L2.CX P w) P w K mg base N qual (defScope st) f cdv A outer s H E) (WofE E) [] [] [] (defBody st) (Fd g φ h) J)
    (hg : ∀ (g : Addr) (φ : Hp → Prop) (h : Hole) (ρ : DL.Env) (post : Post) (xp : XP), ρ.length = 1 → GT g φ h ρ post xp → Fd g φ h (ρ ++ List.replicate (N.length - 1) none) (endS [] 1 post xp)) : FnL P w K mg base (k + 1) f qual (defScope st) N a GT := by
  obtain ⟨oc, od, dV, kV, doc, pm, an, cdv, ct, osl, rfl, lk, hcd⟩ := F.ex
  refine ⟨cdv, fun A o s H Q E g φ h room hgu ev act hsp => ?_⟩
  obtain ⟨hl, ρ, Hb, post, xp, E0, gg, q1, q2⟩ := hsp
  have here : K.In s.heap := ev.mod.kin.keeps fun b u e => (ev.bs b u e).1
  have nolim : s.heap.NoLimit := ev.mod.nolimit.keeps fun b u e => (ev.bs b u e).1
  have bnd := B s [.ref g] here rfl
  rw [List.append_nil] at bnd
  have kinds : ∀ y ∈ [a].zip [Value.ref g], (defScope st).names.lookup y.1 = some .local ∨ ((defScope st).names.lookup y.1 = some .cell ∧ ((cellsFrom (s.heap.objs.size + 1) (defScope st).names []).lookup y.1).isSome = true) := by
    rintro ⟨n, v⟩ hy
    refine (S.par n (List.of_mem_zip hy).1).imp id fun q => ⟨q, PySem.W.cellsFrom_some _ _ _ (.inl q)⟩
  refine codeAny_call_function room.depth (here _ _ lk) rfl S.co S.gen rfl (PySem.W.codeRec_of here hcd) (bnd _ _ _ _ ?_)
  refine wpAny_newFunctionEnv_cells S.kind kinds fun env same s1 laid => ?_
  subst same
  refine ⟨nolim.keeps laid.toInCall.keep, codeAny_func ?_⟩
  obtain ⟨t, pt, kt⟩ := (hb cdv A o s H E g φ h (room.deeper _) hgu act).run
  have hρ : ρ.length = 1 := by rw [← E0.len]; rfl
  have e1 : L2.start N [.ref g] = [V.ref g].map some ++ List.replicate (N.length - 1) none := by unfold L2.start; rfl
  have ht : t { nx := fun _ H' => Q .non H', rt := Q } (L2.start N [.ref g]) H := by
    rw [e1]
    refine kt ⟨Hb, H, lentAt [] [.ref g] ρ H, rootAt [] [.ref g]⟩ _ _ Hb H _ _ E0.entry (hg g φ h ρ post xp hρ gg) ⟨fun ρ' σ' Hb' H' a E' s' => ?_, fun d ρ' σ' v Hb' H' a E' is => ?_, fun _ _ _ _ a => a.elim, fun _ _ _ _ a => a.elim, fun c ρ' cls dx σ' Hb' H' a E' xi => ?_⟩
    · exact q1 _ _ _ _ _ a (E'.masked hl) .non
    · exact q1 _ _ _ _ _ a (E'.masked hl) is
    · exact q2 _ _ _ _ _ _ a (E'.masked hl) xi
  refine wpAny_mono (pt.run [] s1 (L2.start N [.ref g]) H _ (inv_start S room.hd ev rfl (.cons rfl .nil) laid) ht) (fun fl s2 q => ?_) fun _ _ q => q
  cases fl with
  | next =>
    obtain ⟨σ2, H2, J, q⟩ := q
    exact ⟨.non, H2, J.os, J.bare, J.base, J.hok, rfl, q⟩
  | ret u =>
    obtain ⟨v, σ2, H2, J, rv, q⟩ := q
    exact ⟨v, H2, J.os, J.bare, J.base, J.hok, rv, q⟩
  | brk =>
    obtain ⟨_, _, _, q⟩ := q
    exact (show False from q).elim
  | cont =>
    obtain ⟨_, _, _, q⟩ := q
    exact (show False from q).elim
end
/-- x(lambda: e), over data; own: the slots whose cells the maker owns -/
def fCallL (GT : Addr → (Hp → Prop) → Hole → DFn) (own : List Nat) (Fb : FE) : FE := fun ρ post xp => ∀ (f : Addr) (φ : Hp → Prop), callD (GT f φ (holeOf own ρ Fb)) [some (.lam f φ)] (fun d _ => post d ρ) (fun e _ => xp e ρ) .mk
@[simp ↓] theorem fCallL_ap (GT own) (Fb : FE) (ρ : DL.Env) (post : Post) (xp : XP) : fCallL GT own Fb ρ post xp = (∀ (f : Addr) (φ : Hp → Prop), callD (GT f φ (holeOf own ρ Fb)) [some (.lam f φ)] (fun d _ => post d ρ) (fun e _ => xp e ρ) .mk) := (rfl)
/-- its reading, whole -/
def tCallL (X : Cx) (Wx : WX) (P I : List Nat) (F : FE) : TE := fun σ H Q => ∃ (W : Wd) (ρ : DL.Env) (Hb : Hp) (post : Post) (xp : XP), EnvOk X.K W P I ρ σ Hb H ∧ F ρ post xp ∧ XOk X Wx W P σ xp ∧
  ∀ d ρ' v Hb' H', post d ρ' → EnvOk X.K W P I ρ' σ Hb' H' → Sub Hb Hb' → Is X.K Hb' v d → Q v H'
section
variable {X : Cx} {Wx : WX} {P I : List Nat}
theorem de_callL {x a qual : Str} {g c T : Addr} {k kb : Nat} {sc : Scope} {N : List Str} {GT : Addr → (Hp → Prop) → Hole → DFn} {params : Arguments} {body : Expr} {scope : Scope} {Fb : FE} {p lpos pos : Pos} (own : List Nat)
    (Fn : FnL X.prog X.w X.K X.mg X.base k g qual sc N a GT) (hr : Room k X.A) (hgu : X.A.guards = some []) (hm : X.mg x = some (.ref g)) (hk : PySem.W.keepIn X.K (.ref g) = true) (tk : Takes X Wx) (ok : ∀ j, (j ∈ P ∨ j ∈ I) → j ∈ own)
    (TB : TabX X.K X.mg X.env.code c T (X.env.qual ++ "<lambda>")) (hrb : Room (kb + 2) X.A) (L : LamS X.env.scope scope)
    (hbody : ∀ (A : Around) (outer : List PySem.Env) (s : Shared) (H : Hp) (E : XK) (f c' : Addr), Room kb (A.deeper (lamEnv X scope s.heap.objs.size f c')) → A.guards = some [] → Takes (lamCx X A outer s H E scope f c') (WofE E) → ∃ t, DE (lamCx X A outer s H E scope f c') (WofE E) [] [] body t Fb [])
    (hN : N[0]? = some a := by rfl) (hv : Vis sc a := by first | exact Or.inl rfl | exact Or.inr (Or.inl rfl) | exact Or.inr (Or.inr rfl)) (hg : Gl X x := by rfl) (hdef : defaultsOf params X.env = ([], []) := by rfl)
    (hbind : ∀ (q : Str) (cl : List (Str × Addr)) (pm cv ctv : Value), bindArgs (PySem.W.kla_fn "<lambda>" q params body scope cl pm cv ctv) ⟨[], []⟩ = pure [] := by intros; rfl) (hPJ : ∀ j ∈ I, j ∉ P := by decide)
    (hdb : (x == ("__debug__" : Str)) = false := by decide) (hd : (a == ("__debug__" : Str)) = false := by decide) (hcd : (a == ("__classdict__" : Str)) = false := by decide) :
    DE X Wx P I (.Call (.Name x p) [.Lambda params body scope lpos] [] pos) (tCallL X Wx P I (fCallL GT own Fb)) (fCallL GT own Fb) I := by
  refine ⟨⟨fun pins s σ H Q IX h => ?_⟩, fun W ρ σ Hb H Q post xp E f x q => ⟨W, ρ, Hb, post, xp, E, f, x, q⟩⟩
  obtain ⟨W, ρ, Hb, post, xp, E0, f0, x0, q0⟩ := h
  refine wpAny_Call_Name_kw (ld_glob IX hg hm ?_ hdb)
  refine PySem.W.callWith_K (h₀ := X.base) IX.ok.mod.kin hk ?_ (by rfl) (by rfl)
  show wpAny _ _ (spliced ((false, eval (.Lambda params body scope lpos) X.env) :: backTo pos (starEach [] X.env))) _ _ s
  refine Calls.spliced_cons (lam_makeE IX TB E0 hdef (L.has IX.ok) fun f c' pm' ctv H1 Hb1 s' I1 E1 s1 hf hfn hfr hco => ?_)
  refine Calls.spliced_nil ⟨I1.kIn, ?_⟩
  obtain ⟨cdv, Fn⟩ := Fn
  have lf : LamF c' (X.env.qual ++ "<lambda>") Hb1 Hb1 := ⟨hco, Sub.refl _⟩
  have act := actOk_of (CXg := L2.CX X.prog X.w) (Eg := WE Wx σ) (Ng := N) (qg := qual) (sg := sc) (g := g) (cdg := cdv) (k := kb) (i := 0) (a := a) (own := own) (Fb := Fb) I1 E1 ok L hf hfn hfr (hbind _ _ _ _ _) (hrb.deeper _) (fun A outer s H E r gu => hbody A outer s H E f c' r (gu.trans hgu) (takes_of (X := lamCx X A outer s H E scope f c') rfl rfl rfl rfl)) hN hv hd hcd
  have ar : Args X.K Hb1 σ [none] [.ref f] [some (.lam f (LamF c' (X.env.qual ++ "<lambda>") Hb1))] := ⟨⟨_, rfl, .lam lf lf.mono⟩, True.intro⟩
  have hio : ioOf 0 [none] = [] := rfl
  have rc : codeAny (model X.prog X.w) X.A (.call (.ref g) ⟨[.ref f], []⟩) (CR (L2.CX X.prog X.w) X.stack X.prog X.w H1 s' Q (WE Wx σ)) s' := by
    refine Fn X.A X.stack s' H1 Q (WE Wx σ) f _ _ hr hgu I1.env0 act ⟨rfl, _, Hb1, _, _, E1.lend ar (fun j h => by simp [slots] at h) (by simp [slots]) (fun j h => by simp [slots] at h), f0 f _, fun d ρ' v Hb' H' p1 E2 is => ?_, fun c ρ' cls dx Hb' H' p1 E2 xi => ?_⟩
    · have E3 := E1.given ar (fun j h => by simp [slots] at h) (by simp [slots]) (fun j h => by simp [slots] at h) E2 rfl
      have eu : unfill [none] ρ' ρ = ρ := by cases ρ' <;> simp [unfill]
      rw [eu] at E3
      exact q0 d ρ v Hb' H' p1 E3 (s1.trans E2.stp.hb) is
    · have E3 := E1.given ar (fun j h => by simp [slots] at h) (by simp [slots]) (fun j h => by simp [slots] at h) E2 rfl
      have eu : unfill [none] ρ' ρ = ρ := by cases ρ' <;> simp [unfill]
      rw [eu] at E3
      obtain ⟨Hb3, E4, s4⟩ := E3.drop (J := []) (fun j q => by cases q) hPJ
      refine x0 c _ cls dx Hb3 H' p1 E4 ?_
      obtain ⟨e, r | ⟨d, us, e1, e2, e3, e4⟩⟩ := xi
      · exact ⟨e, .inl r⟩
      · exact ⟨e, .inr ⟨d, us, e1, s4.at e2, e3, e4.mono s4⟩⟩
  refine wpAny_call (codeAny_mono rc fun r s2 hq => ?_)
  cases r with
  | error e => exact passAt tk σ _ _ _ _ _ I1 hq
  | ok fl =>
    cases fl with
    | ret u => exact I1.after hq
    | next => exact False.elim hq
    | brk => exact False.elim hq
    | cont => exact False.elim hq
end
end DL

/-! DG98: a def whose code object is known; the law's end with tables. -/
namespace DL
open PySem L2
open PyProof.Rows hiding St
section
variable {P : Program} {w : World} {K : PySem.W.Frag} {mg : Str → Option Value} {base : Heap}
theorem fnG_ofC {x qual : Str} {st : Stmt} {f : Addr} {fd : FuncData} {N ps : List Str} {k : Nat} {sp : Sp} (F : FunG K x qual st f fd) (S : FnScope N ps (defScope st)) (B : Binds K fd ps []) (len : ∀ vs H Q E, sp vs H Q E → vs.length = ps.length)
    (body : ∀ (A : Around) (o : List PySem.Env) (s : Shared) (H : Hp) (vs : List V) (Q : VK) (E : XK), Room k (A.deeper (envOfC qual (defScope st) s.heap.objs.size f fd.code)) → A.guards = some [] → sp vs H Q E →
      ∃ t, PSs (cxOf (L2.CX P w) P w K mg base N qual (defScope st) f fd.code A o s H E) (defBody st) t ∧ t { nx := fun _ H' => Q .non H', rt := Q } (L2.start N vs) H) : FnG P w K mg base (k + 1) f sp := by
  intro A o s H us vs Q E room hg ev rel hsp
  have nlen := len _ _ _ _ hsp
  have inn : K.In s.heap := ev.mod.kin.keeps fun b u e => (ev.bs b u e).1
  have nl : s.heap.NoLimit := ev.mod.nolimit.keeps fun b u e => (ev.bs b u e).1
  have bnd := B s us inn (by rw [List.append_nil, ← rel.length]; exact nlen)
  rw [List.append_nil] at bnd
  obtain ⟨oc, od, dV, kV, doc, pm, an, cdv, ct, osl, efd, lk, hcd⟩ := F.ex
  have ec : fd.code = cdv := by rw [efd]
  rw [ec] at body
  subst efd
  have kinds : ∀ y ∈ ps.zip us, (defScope st).names.lookup y.1 = some .local ∨ ((defScope st).names.lookup y.1 = some .cell ∧ ((cellsFrom (s.heap.objs.size + 1) (defScope st).names []).lookup y.1).isSome = true) := by
    rintro ⟨n, v⟩ hy
    refine (S.par n (List.of_mem_zip hy).1).imp id fun q => ⟨q, PySem.W.cellsFrom_some _ _ _ (.inl q)⟩
  refine codeAny_call_function room.depth (inn _ _ lk) rfl S.co S.gen rfl (PySem.W.codeRec_of inn hcd) (bnd _ _ _ _ ?_)
  refine wpAny_newFunctionEnv_cells S.kind kinds fun env same s1 laid => ?_
  subst same
  refine ⟨nl.keeps laid.toInCall.keep, codeAny_func ?_⟩
  obtain ⟨t, pt, ht⟩ := body A o s H vs Q E (room.deeper _) hg hsp
  refine wpAny_mono (pt.run [] s1 (L2.start N vs) H _ (inv_start S room.hd ev nlen rel laid) ht) (fun fl s2 q => ?_) fun _ _ q => q
  match fl, q with
  | .next, ⟨σ2, H2, J, q⟩ => exact ⟨.non, H2, J.os, J.bare, J.base, J.hok, rfl, q⟩
  | .ret u, ⟨v, σ2, H2, J, rv, q⟩ => exact ⟨v, H2, J.os, J.bare, J.base, J.hok, rv, q⟩
  | .brk, ⟨_, _, _, q⟩ => exact (show False from q).elim
  | .cont, ⟨_, _, _, q⟩ => exact (show False from q).elim
theorem okG_ofC {x qual : Str} {st : Stmt} {f : Addr} {fd : FuncData} {N ps : List Str} {k n : Nat} {io : List Nat} {J : List Nat} {G : DFn} {Fd : FS} (F : FunG K x qual st f fd) (B : Binds K fd ps []) (S : FnScope N ps (defScope st)) (hn : ps.length = n)
    (hb : ∀ (A : Around) (outer : List PySem.Env) (s : Shared) (H : Hp) (E : XK), Room k (A.deeper (envOfC qual (defScope st) s.heap.objs.size f fd.code)) → A.guards = some [] →
      DSs (cxOf (L2.CX P w) P w K mg base N qual (defScope st) f fd.code A outer s H E) (WofE E) io [] [] (defBody st) Fd J)
    (hg : ∀ (ρ : DL.Env) (post : Post) (xp : XP), ρ.length = n → G ρ post xp → Fd (ρ ++ List.replicate (N.length - n) none) (endS io n post xp)) : FnG P w K mg base (k + 1) f (spD K n io G) := by
  refine fnG_ofC F S B (fun vs H Q E h => h.1.trans hn.symm) fun A outer s H vs Q E hr gu h => ?_
  obtain ⟨hl, ρ, Hb, post, xp, E0, g, q1, q2⟩ := h
  obtain ⟨t, pt, kt⟩ := (hb A outer s H E hr gu).run
  have hρ : ρ.length = n := by rw [← E0.len, List.length_map, hl]
  have e1 : L2.start N vs = vs.map some ++ List.replicate (N.length - n) none := by unfold L2.start; rw [hl]
  refine ⟨t, pt, ?_⟩
  rw [e1]
  exact kt ⟨Hb, H, lentAt io vs ρ H, rootAt io vs⟩ _ _ Hb H _ _ E0.entry (hg ρ post xp hρ g) ⟨fun ρ' σ' Hb' H' a E' s' => q1 _ _ _ _ _ a (E'.masked hl) .non, fun d ρ' σ' v Hb' H' a E' is => q1 _ _ _ _ _ a (E'.masked hl) is, fun _ _ _ _ a => a.elim, fun _ _ _ _ a => a.elim,
    fun c ρ' cls dx σ' Hb' H' a E' xi => q2 _ _ _ _ _ _ a (E'.masked hl) xi⟩
end
/-- the law's call; tables may stand -/
theorem law_callGT {P : Program} {w : World} {K : PySem.W.Frag} {mg mb : Str → Option Value} {k : Nat} {fa a : Addr} {sp : Sp} {z : Shared} {vs : List Value} {ns : List Int}
    (kin : K.In z.heap) (tabs : ∀ t ∈ TKc K, z.heap.get? t.1 = some { cls := .none, data := .fields #[] } ∧ K.lookup t.1 = none ∧ PySem.W.codeHdIn K t.2.2 t.1 = true)
    (glob : z.heap.Ns mainGlobals mg) (bns : z.heap.Ns builtinsNs mb) (boot : ∀ x : Str, x ≠ "__name__" → mb x = bootBuiltins x) (lim : z.heap.NoLimit) (gens : z.gens = #[])
    (at_ : z.heap.get? a = some { cls := .type "list", data := .seq vs.toArray }) (num : IntsAre vs ns) (short : ns.length ≤ sizeLine) (room : Room k callerA)
    (F : ∀ base : Heap, K.In base → base.Ns mainGlobals mg → FnG P w K mg base k fa sp)
    (hsp : ∀ H : Hp, TabsAt K H → SqL K H a (ns.map V.int) → sp [.ref a] H (fun v _ => v = .bl true) fun _ _ _ => False) :
    codeAny (model P w) callerA (.call (.ref fa) ⟨[.ref a], []⟩) (fun r s2 => r = .ok (.ret (.bool true)) ∧ OldK z.heap s2.heap ∧ s2.os = z.os ∧ AllBare s2.gens) z := by
  classical
  have rel := vals_ints num
  let isT : Addr → Prop := fun b => ∃ t ∈ TKc K, t.1 = b
  have tabO : ∀ {b}, isT b → z.heap.get? b = some { cls := .none, data := .fields #[] } ∧ K.lookup b = none := fun {b} ⟨t, ht, e⟩ => by subst e; exact ⟨(tabs t ht).1, (tabs t ht).2.1⟩
  have aT : ¬ isT a := fun h => by
    have h := (tabO h).1
    rw [at_] at h; cases h
  suffices main : ∀ H : Hp, (∀ b, isT b → H b = some (.tbl #[])) → (∀ b, H b = none ∨ isT b ∨ ∃ ob xs, H b = some (.frz ob (.lst xs))) → SqL K H a (ns.map V.int) → HOk P w H z.heap → (∀ b, H b ≠ none → b = a ∨ isT b) → (H a ≠ none → K.lookup a = none) →
      codeAny (model P w) callerA (.call (.ref fa) ⟨[.ref a], []⟩) (fun r s2 => r = .ok (.ret (.bool true)) ∧ OldK z.heap s2.heap ∧ s2.os = z.os ∧ AllBare s2.gens) z by
    have okT : ∀ {H : Hp} {b}, isT b → ObjOk P w H z.heap b (.tbl #[]) := fun {H b} h => (tabO h).1
    cases look : K.lookup a with
    | some o =>
      have eo := kin a o look
      rw [at_] at eo; cases eo
      let H0 : Hp := fun b => if isT b then some (.tbl #[]) else none
      have hT : ∀ {b}, isT b → H0 b = some (.tbl #[]) := fun h => if_pos h
      have hn : ∀ {b}, ¬ isT b → H0 b = none := fun h => if_neg h
      refine main H0 (fun b h => hT h) (fun b => ?_) (.inr ⟨_, vs.toArray, _, look, rfl, rfl, rfl, by rw [List.size_toArray, num.length]; exact short, by simpa using rel⟩) (fun b u q => ?_) (fun b q => ?_) fun q => absurd (hn aT) q
      · by_cases h : isT b
        · exact .inr (.inl h)
        · exact .inl (hn h)
      · by_cases h : isT b
        · rw [hT h] at q; cases q; exact okT h
        · rw [hn h] at q; cases q
      · by_cases h : isT b
        · exact .inr h
        · exact absurd (hn h) q
    | none =>
      let H0 : Hp := fun b => if isT b then some (.tbl #[]) else if b = a then some (.frz { cls := .type "list", data := .seq vs.toArray } (.lst (ns.map V.int))) else none
      have hT : ∀ {b}, isT b → H0 b = some (.tbl #[]) := fun h => if_pos h
      have ha : H0 a = some (.frz { cls := .type "list", data := .seq vs.toArray } (.lst (ns.map V.int))) := by
        show (if isT a then _ else _) = _
        rw [if_neg aT, if_pos rfl]
      have hn : ∀ {b}, ¬ isT b → b ≠ a → H0 b = none := fun {b} h q => by
        show (if isT b then _ else _) = _
        rw [if_neg h, if_neg q]
      refine main H0 (fun b h => hT h) (fun b => ?_) (.inl (.inr ⟨_, ha⟩)) (fun b u q => ?_) (fun b q => ?_) fun _ => look
      · by_cases h : isT b
        · exact .inr (.inl h)
        · by_cases e : b = a
          · subst e; exact .inr (.inr ⟨_, _, ha⟩)
          · exact .inl (hn h e)
      · by_cases h : isT b
        · rw [hT h] at q; cases q; exact okT h
        · by_cases e : b = a
          · subst e
            rw [ha] at q; cases q
            exact ⟨at_, by rw [List.length_map]; exact short, vs, _, rel, at_⟩
          · rw [hn h e] at q; cases q
      · by_cases h : isT b
        · exact .inr h
        · exact .inl (Classical.byContradiction fun e => q (hn h e))
  intro H hTb only sq ok own nk
  have free : ∀ {b : Addr} {o : Obj}, z.heap.get? b = some o → (∀ n, o.data ≠ .seq vs.toArray n) → o.data ≠ .fields #[] → H b = none := fun {b o} e d d2 => by
    cases q : H b with
    | none => rfl
    | some u =>
      rcases own b (by rw [q]; simp) with e' | e'
      · subst e'
        rw [at_] at e; cases e
        exact absurd rfl (d _)
      · rw [(tabO e').1] at e; cases e
        exact absurd rfl d2
  have dictNs : ∀ {b : Addr} {m : Str → Option Value}, z.heap.Ns b m → (hidT z.heap H).Ns b m := fun {b m} ⟨o, es, ep, e, d, r⟩ => ⟨o, es, ep, hidT_get e (free e (fun n q => by rw [d] at q; cases q) fun q => by rw [d] at q; cases q), d, r⟩
  have kb : K.In (hidT z.heap H) := fun b o e => hidT_get (kin b o e) (by
    cases q : H b with
    | none => rfl
    | some u =>
      rcases own b (by rw [q]; simp) with e' | e'
      · subst e'
        rw [nk (by rw [q]; simp)] at e; cases e
      · rw [(tabO e').2] at e; cases e)
  obtain ⟨mc, l1, l2⟩ := lim
  have env : Env0 P w K mg (hidT z.heap H) callerA [] z H := ⟨rfl, ⟨kb, dictNs glob, ⟨mb, dictNs bns, boot⟩, mc, dictNs l1, l2⟩, fun _ _ e => of_hidT e, Nat.le_of_eq (hidT_size _ _), trivial, fun b q => absurd (show b ∈ ([] : List Addr) from q) List.not_mem_nil, ok, .of_eq gens⟩
  have tA : TabsAt K H := fun p hp => by
    obtain ⟨t, ht, rfl⟩ := List.mem_map.mp hp
    exact hTb _ ⟨t, ht, rfl⟩
  refine codeAny_mono (F _ kb (dictNs glob) callerA [] z H [.ref a] [.ref a] _ _ room rfl env (.cons rfl .nil) (hsp H tA sq)) fun res s2 q => ?_
  match res, q with
  | .error er, q => exact (cx_no q).elim
  | .ok .next, q => exact q.elim
  | .ok .brk, q => exact q.elim
  | .ok .cont, q => exact q.elim
  | .ok (.ret u), ⟨v, H2, os, bare, un, ok2, rv, ev⟩ =>
    have ev : v = .bl true := ev
    subst ev
    have eu : u = Value.bool true := rv
    subst eu
    have still : ∀ b o, ¬ isT b → z.heap.get? b = some o → s2.heap.get? b = some o := fun b o nT e => by
      cases q : H b with
      | none => exact un.keep b o e q (fun n => absurd (show b ∈ ([] : List Addr) from n) List.not_mem_nil) (fun n => absurd n List.not_mem_nil)
      | some y =>
        rcases only b with r | r | ⟨ob, xs, r⟩
        · rw [q] at r; cases r
        · exact absurd r nT
        · obtain ⟨e1, _⟩ := ok b _ r
          obtain ⟨e2, _⟩ := ok2 b _ (un.frzs b ob _ r)
          rw [e] at e1; cases e1
          exact e2
    have more : ∀ b, isT b → ∃ m : Array Value, s2.heap.get? b = some { cls := .none, data := .fields m } := fun b h => by
      obtain ⟨m, e⟩ := un.tbls b #[] (hTb b h)
      exact ⟨_, ok2 b _ e⟩
    refine ⟨rfl, ⟨fun b o e => ?_, fun b o e => ?_⟩, os, bare⟩
    · by_cases h : isT b
      · obtain ⟨m, em⟩ := more b h
        obtain ⟨t, ht, rfl⟩ := h
        obtain ⟨e0, _, hc⟩ := tabs t ht
        have cT := ((PySem.W.codeHd_of_K kin hc).tab e0).isCodeTable
        rw [e0] at e; cases e
        exact .inr (.inl ⟨cT, rfl, #[], m, rfl, by rw [Array.empty_append]; exact em⟩)
      · exact .inl (still b o h e)
    · by_cases h : isT b
      · obtain ⟨m, em⟩ := more b h
        exact ⟨_, em⟩
      · exact ⟨o, still b o h e⟩
end DL

/-! DG99: a nested dict that nothing writes to any more, as plain data. -/
namespace DL
open PySem L2
open PyProof.Rows hiding St
section
variable {X : Cx} {Wx : WX} {P I : List Nat} {pos : Pos}
end
end DL

/-! DG100: try: .. except C as e: v = isinstance(e, D) -/
namespace DL
open PySem L2
open PyProof.Rows hiding St
section
variable {X : Cx} {Wx : WX} {P L I : List Nat} {pos : Pos} {n : Str}
end
end DL

/-! DG101: tuple(xs) of a list as a tuple known to have no dict of its own; dict(t) of such a tuple of pairs. -/
namespace DL
open PySem L2
open PyProof.Rows hiding St
end DL

/-! DG102: a tuple times a whole number, 0 as well. -/
namespace DL
open PySem L2
open PyProof.Rows hiding St
section
variable {X : Cx}
end
end DL

/-! DG103: list(range(n)) as a value. -/
namespace DL
open PySem L2
open PyProof.Rows hiding St
theorem isL_rg0 {K : PySem.W.Frag} {H : Hp} : ∀ l : List Nat, IsL K H (l.map fun i : Nat => V.int (0 + (i : Int))) (l.map fun k : Nat => D.int (k : Int))
  | [] => .nil
  | i :: l => .cons (by show Is K H (V.int (0 + (i : Int))) (D.int (i : Int)); rw [Int.zero_add]; exact .int _) (isL_rg0 l)
def fListRg (Fa : FE) : FE := fun ρ post xp => Fa ρ (fun d ρ1 => ∃ n : Int, d = .int n ∧ (0 ≤ n ∧ n ≤ 1000000) ∧ post (.lst ((List.range n.toNat).map fun k : Nat => D.int (k : Int))) ρ1) xp
@[simp ↓] theorem fListRg_ap (Fa : FE) (ρ : Env) (post : Post) (xp : XP) : fListRg Fa ρ post xp = Fa ρ (fun d ρ1 => ∃ n : Int, d = .int n ∧ (0 ≤ n ∧ n ≤ 1000000) ∧ post (.lst ((List.range n.toNat).map fun k : Nat => D.int (k : Int))) ρ1) xp := (rfl)
section
variable {X : Cx} {Wx : WX} {P I J : List Nat} {a : Expr} {ta : TE} {Fa : FE}
theorem de_listRg {p1 p2 pos1 pos : Pos} (hc : X.calm = true) (hm : X.mg "list" = none) (hmr : X.mg "range" = none) (ha : DE X Wx P I a ta Fa J) (hg : Gl X "list" := by rfl) (hgr : Gl X "range" := by rfl)
    (hs : starEach [a] X.env = (false, eval a X.env) :: starEach [] X.env := by rfl) (hs2 : starEach [.Call (.Name "range" p1) [a] [] pos1] X.env = (false, eval (.Call (.Name "range" p1) [a] [] pos1) X.env) :: starEach [] X.env := by rfl) :
    DE X Wx P I (.Call (.Name "list" p2) [.Call (.Name "range" p1) [a] [] pos1] [] pos) (tLstRg (tRg1 ta)) (fListRg Fa) J := by
  obtain ⟨pa, ka⟩ := ha
  refine ⟨pe_listRg hc hg hm (prg_1 hgr hmr pa hs) hs2, fun W ρ σ Hb H Q post xp E f x q => ka W ρ σ Hb H _ _ xp E f x fun d ρ1 v Hb1 H1 f1 E1 s1 i1 => ?_⟩
  obtain ⟨n, rfl, hn, f1⟩ := f1
  obtain rfl := is_int i1
  refine ⟨n, rfl, RgOk.of_le (by omega) (by omega) (by omega) (by omega), fun p hp => ?_⟩
  obtain ⟨E2, s2⟩ := Grow.env E1 (Grow.one (o := .lst (rgV 0 n)) hp)
  refine q _ _ _ _ _ f1 E2 (s1.trans s2) (.lst upd_same ?_)
  have e : rgV 0 n = (List.range n.toNat).map fun i : Nat => V.int (0 + (i : Int)) := by unfold rgV; rw [Int.sub_zero]
  rw [e]
  exact isL_rg0 _
end
end DL

/-! DG104: x + y of two objects of one class by its own __add__, which may raise. -/
namespace DL
open PySem L2
open PyProof.Rows hiding St
section
variable {X : Cx} {Wx : WX} {P I J J1 : List Nat} {a b e : Expr} {ta tb : TE} {Fa Fb : FE} {pos : Pos} {n : Str} {C f : Addr} {k : Nat} {sp : Sp} {E : St → XK} {G : DFn}
def tAddX (C : Addr) (sp : Sp) (E : St → XK) (ta tb : TE) : TE := fun σ H Q => ta σ H fun x H1 => tb σ H1 fun y H2 => ∃ a b dx fs dy gs, x = V.ref a ∧ y = V.ref b ∧ H2 a = some (.ins C dx fs) ∧ H2 b = some (.ins C dy gs) ∧ sp [.ref a, .ref b] H2 (fun z H3 => ∃ c, z = V.ref c ∧ Q z H3) (E σ)
theorem pe_addX (hsf : PySem.W.selfFirst X.K C = true) (hs : PySem.W.findIn X.K (.ref C) "__add__" = some (some (.ref f))) (hfn : PySem.W.isFn X.K (.ref f) = true) (F : FnG X.prog X.w X.K X.mg X.base k f sp) (hr : Room k X.A) (hgu : X.A.guards = some [])
    (hx : ∀ σ, PassesAt (L2.CX X.prog X.w) X σ (E σ)) (ha : PE X a ta) (hb : PE X b tb) : PE X (.BinOp a .Add b pos) (tAddX C sp E ta tb) := by
  refine ⟨fun pins s σ H Q I h => wpAny_BinOp (binT ha hb I h fun v u s2 x y H2 I2 rx ry q => ?_)⟩
  obtain ⟨a, b, dx, fs, dy, gs, rfl, rfl, hh, hg, hsp⟩ := q
  obtain rfl : v = Value.ref a := rx
  obtain rfl : u = Value.ref b := ry
  obtain ⟨mA, O, _⟩ := ins_get I2.hok hh
  obtain ⟨od, J, _⟩ := O.look
  obtain ⟨mB, OB, _⟩ := ins_get I2.hok hg
  obtain ⟨odB, JB, _⟩ := OB.look
  obtain ⟨m, fr⟩ := I2.fr
  refine PySem.W.binop_K fr I2.ok.mod.kin J JB.type hsf hs hfn (wpAny_call (codeAny_mono (run_G (vs := [.ref a, .ref b]) F hr hgu (hx σ) I2 (.cons rfl (.cons rfl .nil)) hsp) fun res s3 q => ?_))
  cases res with
  | error er => exact q
  | ok fl =>
    cases fl with
    | ret u =>
      obtain ⟨z, H3, I3, rz, c, ez, q3⟩ := q
      subst ez
      obtain rfl : u = Value.ref c := rz
      exact ⟨.ref c, H3, I3, rfl, q3⟩
    | next => exact q.elim
    | brk => exact q.elim
    | cont => exact q.elim
def fAddX (n : Str) (G : DFn) (Fa Fb : FE) : FE := fun ρ post xp => Fa ρ (fun o ρ1 => Fb ρ1 (fun y ρ2 => isObj n o ∧ isObj n y ∧ callD G [some o, some y] (fun z _ => isObj n z ∧ post z ρ2) (fun e _ => xp e ρ2) .mk) xp) xp
@[simp ↓] theorem fAddX_ap (n : Str) (G : DFn) (Fa Fb : FE) (ρ : Env) (post : Post) (xp : XP) : fAddX n G Fa Fb ρ post xp = Fa ρ (fun o ρ1 => Fb ρ1 (fun y ρ2 => isObj n o ∧ isObj n y ∧ callD G [some o, some y] (fun z _ => isObj n z ∧ post z ρ2) (fun e _ => xp e ρ2) .mk) xp) xp := (rfl)
theorem de_addX (hc : IsCl X.K n C) (hsf : PySem.W.selfFirst X.K C = true) (hs : PySem.W.findIn X.K (.ref C) "__add__" = some (some (.ref f))) (hfn : PySem.W.isFn X.K (.ref f) = true) (F : FnG X.prog X.w X.K X.mg X.base k f (spD X.K 2 [] G)) (hr : Room k X.A) (hgu : X.A.guards = some []) (tk : Takes X Wx)
    (ha : DE X Wx P I a ta Fa J1) (hb : DE X Wx P J1 b tb Fb J) (hPJ : ∀ j ∈ J, j ∉ P := by decide) : DE X Wx P I (.BinOp a .Add b pos) (tAddX C (spD X.K 2 [] G) (WE Wx) ta tb) (fAddX n G Fa Fb) J := by
  refine de_of (pe_addX hsf hs hfn F hr hgu (fun σ => passAt tk σ) ha.pe hb.pe) fun W ρ σ Hb H Q post xp E f x q => ha.ev W ρ σ Hb H _ _ xp E f x fun o ρ1 v Hb1 H1 f1 E1 s1 i1 => hb.ev W ρ1 σ Hb1 H1 _ _ xp E1 f1 x fun d ρ2 v2 Hb2 H2 f2 E2 s2 i2 => ?_
  obtain ⟨⟨fs, e⟩, ⟨gs, e'⟩, f2⟩ := f2
  subst e e'
  have i1' := i1.mono s2
  obtain ⟨p, C', dx, vs, rfl, hc', hh, e1, l1⟩ := o_obj E2.sub (.inl i1')
  obtain rfl := hc.eq hc'
  obtain ⟨p', C', dx', vs', rfl, hc', hh', e1', l1'⟩ := o_obj E2.sub (.inl i2)
  obtain rfl := hc.eq hc'
  have ar : Args X.K Hb2 σ [none, none] [V.ref p, V.ref p'] [some (.obj n fs), some (.obj n gs)] := ⟨⟨_, rfl, i1'⟩, ⟨_, rfl, i2⟩, trivial⟩
  have hsl : ∀ j ∈ slots [none, none], j ∈ P ∨ j ∈ J := fun j h => by simp [slots] at h
  have hl : ∀ j ∈ slots [none, none], get ρ2 j ≠ none := fun j h => by simp [slots] at h
  have eu : ∀ ρ' : Env, unfill [none, none] ρ' ρ2 = ρ2 := fun ρ' => by rcases ρ' with _ | ⟨_, _ | _⟩ <;> rfl
  refine ⟨p, p', dx, vs, dx', vs', rfl, rfl, hh, hh', rfl, [some (.obj n fs), some (.obj n gs)], Hb2, _, _, E2.lend ar hsl (by simp [slots]) hl, f2, fun z ρ' v Hb' H' p1 E4 is => ?_, fun c ρ' cls dx Hb' H' p1 E4 xi => ?_⟩
  · have E3 := E2.given ar hsl (by simp [slots]) hl E4 rfl
    rw [eu] at E3
    obtain ⟨⟨hs, e⟩, p1⟩ := p1
    subst e
    obtain ⟨c, _, _, _, rfl, _⟩ := o_obj E4.sub (.inl is)
    exact ⟨c, rfl, q _ _ _ _ _ p1 E3 ((s1.trans s2).trans E4.stp.hb) is⟩
  · have E3 := E2.given ar hsl (by simp [slots]) hl E4 rfl
    rw [eu] at E3
    obtain ⟨Hb3, E5, s4⟩ := E3.drop (J := []) (fun j q => by cases q) hPJ
    refine x c _ cls dx Hb3 H' p1 E5 ?_
    obtain ⟨e, r | ⟨d, us, e1, e2, e3, e4⟩⟩ := xi
    · exact ⟨e, .inl r⟩
    · exact ⟨e, .inr ⟨d, us, e1, s4.at e2, e3, e4.mono s4⟩⟩
end
end DL

/-! DG105: x * i, x an object by its own __mul__ (which may raise), i a whole number. -/
namespace DL
section
open PySem PySem.W PyProof PyProof.Rows
section
variable {prog : Program} {w : World} {A : Around} {E : Value → Shared → Prop} {s : Shared} {K : Frag} {x C L f : Addr} {h₀ : Heap} {m : Str → Option Value} {ox : Obj} {od : Option Obj}
theorem mul_Ki {i : Int} {t : Tok} {Q : Value → Shared → Prop} (F : Fr h₀ L s.heap m) (X₀ : K.In h₀) (I : InstAt s.heap x ox C od) (hc : selfFirst K C = true)
    (hs : findIn K (.ref C) "__mul__" = some (some (.ref f))) (hrn : findIn K (.ref C) "__rmul__" = some none) (hf : isFn K (.ref f) = true)
    (h : wpAny (model prog w) A (call (.ref f) [.ref x, .int i t]) (PySem.W.CmpBack Q) E s) : wpAny (model prog w) A (binaryOp .Mult (.ref x) (.int i t)) Q E s := by
  have X := X₀.keeps F.keep
  obtain ⟨cd, hcd, hm⟩ := any_some hc
  obtain ⟨rest, hm⟩ : ∃ rest, cd.mro = .ref C :: rest := by
    cases q : cd.mro with
    | nil => rw [q] at hm; cases hm
    | cons a r => rw [q] at hm; exact ⟨r, by rw [List.head?_cons] at hm; cases (beq_iff_eq.mp hm); rfl⟩
  have hne : (Value.ref C == Value.type "int") = false := rfl
  unfold binaryOp
  refine wpAny_holding (wpAny_bind ?_)
  unfold binaryOp1
  refine wpAny_bind (I.type.here (wpAny_bind (wpAny_typeOf (typeIs_int s i t) (wpAny_bind ((fills_K (nm := "mul") X hcd hm hs).here ?_)))))
  simp only [hne, Bool.false_eq_true, if_false]
  refine wpAny_bind (wpAny_of_eq PySem.F.fills_int_mul ?_)
  simp only [Bool.and_self, if_true]
  refine wpAny_bind ((looks_subIn X (t := .type "int") (base := .ref C) (r := false) rfl).here ?_)
  simp only [Bool.false_eq_true, if_false, Bool.not_false, Bool.and_self, if_true]
  refine wpAny_bind ?_
  unfold numberSlotInPython
  refine wpAny_bind ((looks_findIn X hs).here (wpAny_bind (wpAny_pure (wpAny_bind ((looks_findIn X hrn).here (wpAny_bind (wpAny_pure ?_)))))))
  simp only [Bool.true_or, if_true]
  refine wpAny_pure ?_
  simp only [if_true]
  refine wpAny_bind (wpAny_pure ?_)
  simp only [Bool.not_false, if_true]
  refine wpAny_bind (wpAny_of_eq PySem.F.slot_int_rmul.lookup ?_)
  refine wpAny_bind (m := tryMethod (.ref x) _ (.int i t)) ?_
  unfold tryMethod
  refine wpAny_bind (special_fn X I hs (beq_iff_eq.mp hf) (wpAny_mono h (fun v s' hv => ?_) fun _ _ e => e))
  cases v <;> first | exact hv.elim | exact wpAny_pure (wpAny_pure (wpAny_pure hv))
end
end
open PySem L2
open PyProof.Rows hiding St
section
variable {X : Cx} {Wx : WX} {P I J J1 : List Nat} {a b e : Expr} {ta tb : TE} {Fa Fb : FE} {pos : Pos} {n : Str} {C f : Addr} {k : Nat} {sp : Sp} {E : St → XK} {G : DFn}
def tMulX (C : Addr) (sp : Sp) (E : St → XK) (ta tb : TE) : TE := fun σ H Q => ta σ H fun x H1 => tb σ H1 fun y H2 => ∃ (a : Addr) (i : Int) (dx : Addr) (fs : List (Str × V)), x = V.ref a ∧ y = V.int i ∧ H2 a = some (.ins C dx fs) ∧ sp [.ref a, .int i] H2 (fun z H3 => ∃ c, z = V.ref c ∧ Q z H3) (E σ)
theorem pe_mulX (hsf : PySem.W.selfFirst X.K C = true) (hs : PySem.W.findIn X.K (.ref C) "__mul__" = some (some (.ref f))) (hrn : PySem.W.findIn X.K (.ref C) "__rmul__" = some none) (hfn : PySem.W.isFn X.K (.ref f) = true) (F : FnG X.prog X.w X.K X.mg X.base k f sp) (hr : Room k X.A) (hgu : X.A.guards = some [])
    (hx : ∀ σ, PassesAt (L2.CX X.prog X.w) X σ (E σ)) (ha : PE X a ta) (hb : PE X b tb) : PE X (.BinOp a .Mult b pos) (tMulX C sp E ta tb) := by
  refine ⟨fun pins s σ H Q I h => wpAny_BinOp (binT ha hb I h fun v u s2 x y H2 I2 rx ry q => ?_)⟩
  obtain ⟨a, i, dx, fs, rfl, rfl, hh, hsp⟩ := q
  obtain rfl : v = Value.ref a := rx
  obtain ⟨t, rfl⟩ := ry
  obtain ⟨mA, O, _⟩ := ins_get I2.hok hh
  obtain ⟨od, J, _⟩ := O.look
  obtain ⟨m, fr⟩ := I2.fr
  refine mul_Ki fr I2.ok.mod.kin J hsf hs hrn hfn (wpAny_call (codeAny_mono (run_G (vs := [.ref a, .int i]) F hr hgu (hx σ) I2 (.cons rfl (.cons ⟨t, rfl⟩ .nil)) hsp) fun res s3 q => ?_))
  cases res with
  | error er => exact q
  | ok fl =>
    cases fl with
    | ret u =>
      obtain ⟨z, H3, I3, rz, c, ez, q3⟩ := q
      subst ez
      obtain rfl : u = Value.ref c := rz
      exact ⟨.ref c, H3, I3, rfl, q3⟩
    | next => exact q.elim
    | brk => exact q.elim
    | cont => exact q.elim
def fMulX (n : Str) (G : DFn) (Fa Fb : FE) : FE := fun ρ post xp => Fa ρ (fun o ρ1 => Fb ρ1 (fun y ρ2 => isObj n o ∧ (∃ i, y = D.int i) ∧ callD G [some o, some y] (fun z _ => isObj n z ∧ post z ρ2) (fun e _ => xp e ρ2) .mk) xp) xp
@[simp ↓] theorem fMulX_ap (n : Str) (G : DFn) (Fa Fb : FE) (ρ : Env) (post : Post) (xp : XP) : fMulX n G Fa Fb ρ post xp = Fa ρ (fun o ρ1 => Fb ρ1 (fun y ρ2 => isObj n o ∧ (∃ i, y = D.int i) ∧ callD G [some o, some y] (fun z _ => isObj n z ∧ post z ρ2) (fun e _ => xp e ρ2) .mk) xp) xp := (rfl)
theorem de_mulX (hc : IsCl X.K n C) (hsf : PySem.W.selfFirst X.K C = true) (hs : PySem.W.findIn X.K (.ref C) "__mul__" = some (some (.ref f))) (hrn : PySem.W.findIn X.K (.ref C) "__rmul__" = some none) (hfn : PySem.W.isFn X.K (.ref f) = true) (F : FnG X.prog X.w X.K X.mg X.base k f (spD X.K 2 [] G)) (hr : Room k X.A) (hgu : X.A.guards = some []) (tk : Takes X Wx)
    (ha : DE X Wx P I a ta Fa J1) (hb : DE X Wx P J1 b tb Fb J) (hPJ : ∀ j ∈ J, j ∉ P := by decide) : DE X Wx P I (.BinOp a .Mult b pos) (tMulX C (spD X.K 2 [] G) (WE Wx) ta tb) (fMulX n G Fa Fb) J := by
  refine de_of (pe_mulX hsf hs hrn hfn F hr hgu (fun σ => passAt tk σ) ha.pe hb.pe) fun W ρ σ Hb H Q post xp E f x q => ha.ev W ρ σ Hb H _ _ xp E f x fun o ρ1 v Hb1 H1 f1 E1 s1 i1 => hb.ev W ρ1 σ Hb1 H1 _ _ xp E1 f1 x fun d ρ2 v2 Hb2 H2 f2 E2 s2 i2 => ?_
  obtain ⟨⟨fs, e⟩, ⟨i, e'⟩, f2⟩ := f2
  subst e e'
  have i1' := i1.mono s2
  obtain ⟨p, C', dx, vs, rfl, hc', hh, e1, l1⟩ := o_obj E2.sub (.inl i1')
  obtain rfl := hc.eq hc'
  obtain rfl := is_int i2
  have ar : Args X.K Hb2 σ [none, none] [V.ref p, V.int i] [some (.obj n fs), some (.int i)] := ⟨⟨_, rfl, i1'⟩, ⟨_, rfl, i2⟩, trivial⟩
  have hsl : ∀ j ∈ slots [none, none], j ∈ P ∨ j ∈ J := fun j h => by simp [slots] at h
  have hl : ∀ j ∈ slots [none, none], get ρ2 j ≠ none := fun j h => by simp [slots] at h
  have eu : ∀ ρ' : Env, unfill [none, none] ρ' ρ2 = ρ2 := fun ρ' => by rcases ρ' with _ | ⟨_, _ | _⟩ <;> rfl
  refine ⟨p, i, dx, vs, rfl, rfl, hh, rfl, [some (.obj n fs), some (.int i)], Hb2, _, _, E2.lend ar hsl (by simp [slots]) hl, f2, fun z ρ' v Hb' H' p1 E4 is => ?_, fun c ρ' cls dx Hb' H' p1 E4 xi => ?_⟩
  · have E3 := E2.given ar hsl (by simp [slots]) hl E4 rfl
    rw [eu] at E3
    obtain ⟨⟨hs, e⟩, p1⟩ := p1
    subst e
    obtain ⟨c, _, _, _, rfl, _⟩ := o_obj E4.sub (.inl is)
    exact ⟨c, rfl, q _ _ _ _ _ p1 E3 ((s1.trans s2).trans E4.stp.hb) is⟩
  · have E3 := E2.given ar hsl (by simp [slots]) hl E4 rfl
    rw [eu] at E3
    obtain ⟨Hb3, E5, s4⟩ := E3.drop (J := []) (fun j q => by cases q) hPJ
    refine x c _ cls dx Hb3 H' p1 E5 ?_
    obtain ⟨e, r | ⟨d, us, e1, e2, e3, e4⟩⟩ := xi
    · exact ⟨e, .inl r⟩
    · exact ⟨e, .inr ⟨d, us, e1, s4.at e2, e3, e4.mono s4⟩⟩
end
end DL

/-! DG106: a list, a text, a dict declines == and != with an instance (for == of an own class with any plain data). -/
namespace DE6
open PySem PySem.Spec PyProof.Rows PySem.SeqAt
section
variable {prog : Program} {w : World} {A : Around} {E : Value → Shared → Prop} {s : Shared} {K : PySem.W.Frag} {x C f : Addr} {ox : Obj} {od : Option Obj} {b tb : Value}
theorem lst_eq_no {M : Model} {l : Value} {Q : Fin → Shared → Prop} (X : K.In s.heap) (I : PySem.W.InstAt s.heap x ox C od) (hm : PySem.W.mroIn K C (.type "list") = some false) (q : Q (.done (.ret .notImplemented)) s) : wpAny M A (Builtin.«list.__eq__» ⟨[l, .ref x], []⟩) Q E s := by
  unfold Builtin.«list.__eq__»
  repeat (first | with_reducible refine isInst_no X I hm ?_ | wp_step)
  exact q
theorem dec_lst_eq {l : Addr} (X : K.In s.heap) (I : PySem.W.InstAt s.heap x ox C od) (hm : PySem.W.mroIn K C (.type "list") = some false) (ht : s.TypeIs (.ref l) "list") : Declines s x (.ref l) "__eq__" := fun prog w A E Q q =>
  wpAny_tryCompare_declines ht F.slot_list_eq (GQ.call_here F.slot_list_eq ht F.entry_list_eq (F.args_list_eq_2 _ _) (lst_eq_no X I hm ⟨rfl, q⟩))
theorem str_eq_no {M : Model} {i : Str} {t : Tok} {dx : Addr} {Q : Fin → Shared → Prop} (hx : s.heap.get? x = some (PySem.W.instObj C dx)) (q : Q (.done (.ret .notImplemented)) s) : wpAny M A (Builtin.«str.__eq__» ⟨[.str i t, .ref x], []⟩) Q E s := by
  unfold Builtin.«str.__eq__»
  repeat (first | with_reducible refine wpAny_load hx ?_ | wp_step)
  exact q
theorem dec_str_eq {i : Str} {t : Tok} {dx : Addr} (hx : s.heap.get? x = some (PySem.W.instObj C dx)) : Declines s x (.str i t) "__eq__" := fun prog w A E Q q =>
  wpAny_tryCompare_declines (show s.TypeIs (.str i t) "str" from rfl) F.slot_str_eq (GQ.call_here F.slot_str_eq rfl F.entry_str_eq (F.args_str_eq_2 _ _) (str_eq_no hx ⟨rfl, q⟩))
theorem dct_eq_no {M : Model} {l : Value} {Q : Fin → Shared → Prop} (X : K.In s.heap) (I : PySem.W.InstAt s.heap x ox C od) (hm : PySem.W.mroIn K C (.type "dict") = some false) (q : Q (.done (.ret .notImplemented)) s) : wpAny M A (Builtin.«dict.__eq__» ⟨[l, .ref x], []⟩) Q E s := by
  unfold Builtin.«dict.__eq__»
  repeat (first | with_reducible refine isInst_no X I hm ?_ | wp_step)
  exact q
theorem dec_dct_eq {l : Addr} (X : K.In s.heap) (I : PySem.W.InstAt s.heap x ox C od) (hm : PySem.W.mroIn K C (.type "dict") = some false) (ht : s.TypeIs (.ref l) "dict") : Declines s x (.ref l) "__eq__" := fun prog w A E Q q =>
  wpAny_tryCompare_declines ht F.slot_dict_eq (GQ.call_here F.slot_dict_eq ht F.entry_dict_eq (F.args_dict_eq_2 _ _) (dct_eq_no X I hm ⟨rfl, q⟩))
end
end DE6

/-! DG107: == and != by an own __eq__ beside any plain data (lists, texts, dicts too), isinstance of an own class of any plain data. -/
namespace DL
open PySem L2
open PyProof.Rows hiding St
structure EqFactsA (K : PySem.W.Frag) (C f : Addr) : Prop where
  b : EqFacts K C f
  mL : PySem.W.mroIn K C (.type "list") = some false
  mS : PySem.W.mroIn K C (.type "str") = some false
  mD : PySem.W.mroIn K C (.type "dict") = some false
theorem nf_of {K : PySem.W.Frag} {C : Addr} {T : String} (e0 : fastBuiltinMro T = some [.type T, .type "object"]) : PySem.W.notFirst K C (.type T) = true := by
  have e : PySem.W.subIn K (.type T) (.ref C) = some false := by
    show (fastBuiltinMro T).map (·.contains (.ref C)) = some false
    rw [e0]
    first | rfl | simp
  unfold PySem.W.notFirst
  rw [e]; simp
/-- beside an own ==: any plain data -/
def PlainA (H : Hp) (y : V) : Prop := Plain3 H y ∨ (∃ z, y = .str z) ∨ (∃ b vs, y = .ref b ∧ H b = some (.lst vs)) ∨ (∃ b vs, y = .ref b ∧ Rd H b (.dK vs)) ∨ ∃ b vs, y = .ref b ∧ Rd H b (.dT vs)
def PlainL (neg : Bool) (H : Hp) (y : V) : Prop := if neg then Plain3 H y else PlainA H y
def rEqOwnA (C : Addr) (sp : Sp) (neg : Bool) : R2 := fun x y H Q =>
  (∃ a dx fs, x = .ref a ∧ H a = some (.ins C dx fs) ∧ (PlainA H y ∨ ∃ b dy gs, y = .ref b ∧ H b = some (.ins C dy gs)) ∧ sp [x, y] H (fun z H2 => ∃ b, z = .bl b ∧ Q (.bl (neg != b)) H2) fun _ _ _ => False) ∨
  (∃ a dx fs, y = .ref a ∧ H a = some (.ins C dx fs) ∧ PlainL neg H x ∧ sp [y, x] H (fun z H2 => ∃ b, z = .bl b ∧ Q (.bl (neg != b)) H2) fun _ _ _ => False)
section
variable {X : Cx} {k : Nat} {C f : Addr} {sp : Sp}
theorem lst_ty {pins : List (Addr × Obj)} {s : Shared} {σ : St} {H : Hp} {b : Addr} {vs : List V} (I : Inv X pins σ H s) (h : H b = some (.lst vs)) : s.TypeIs (.ref b) "list" := by
  obtain ⟨_, _, n, _, h1⟩ := (show ObjOk X.prog X.w H s.heap b (.lst vs) from I.hok b _ h)
  exact ⟨_, h1, rfl⟩
theorem dK_ty {pins : List (Addr × Obj)} {s : Shared} {σ : St} {H : Hp} {b : Addr} {vs : List (Key × V)} (I : Inv X pins σ H s) (h : Rd H b (.dK vs)) : s.TypeIs (.ref b) "dict" := by
  rcases h with h | ⟨o, h⟩
  · obtain ⟨_, _, vs, _, o, es, ep, h1, h2, _⟩ := (show ObjOk X.prog X.w H s.heap b (.dK vs) from I.hok b _ h)
    exact ⟨o, h1, h2.1⟩
  · obtain ⟨_, _, _, vs, _, o, es, ep, h1, h2, _⟩ := (show ObjOk X.prog X.w H s.heap b (.frz o (.dK vs)) from I.hok b _ h)
    exact ⟨o, h1, h2.1⟩
theorem dT_ty {pins : List (Addr × Obj)} {s : Shared} {σ : St} {H : Hp} {b : Addr} {vs : List (List Key × V)} (I : Inv X pins σ H s) (h : Rd H b (.dT vs)) : s.TypeIs (.ref b) "dict" := by
  rcases h with h | ⟨o, h⟩
  · obtain ⟨_, _, vs, _, o, es, ep, h1, h2, _⟩ := (show ObjOk X.prog X.w H s.heap b (.dT vs) from I.hok b _ h)
    exact ⟨o, h1, h2.1⟩
  · obtain ⟨_, _, _, vs, _, o, es, ep, h1, h2, _⟩ := (show ObjOk X.prog X.w H s.heap b (.frz o (.dT vs)) from I.hok b _ h)
    exact ⟨o, h1, h2.1⟩
theorem right_tyA {pins : List (Addr × Obj)} {s : Shared} {σ : St} {H : Hp} {y : V} {v : Value} (I : Inv X pins σ H s) (ry : RelV y v) (h : PlainA H y ∨ ∃ b dy gs, y = .ref b ∧ H b = some (.ins C dy gs)) :
    ∃ tb, PySem.W.Looks (model X.prog X.w) s.heap (typeOf v) tb ∧ PySem.W.notFirst X.K C tb = true := by
  rcases h with (h | ⟨z, rfl⟩ | ⟨b, vs, rfl, hb⟩ | ⟨b, vs, rfl, hb⟩ | ⟨b, vs, rfl, hb⟩) | h
  · exact right_ty I ry (.inl h)
  · obtain ⟨t, rfl⟩ : ∃ t, v = Value.str z t := ry
    exact ⟨_, looks_ty (T := "str") fun _ _ => rfl, nf_of (by decide +kernel)⟩
  · obtain rfl : v = Value.ref b := ry
    exact ⟨_, looks_ty (T := "list") fun s' k => typeis_keep k (lst_ty I hb), nf_of (by decide +kernel)⟩
  · obtain rfl : v = Value.ref b := ry
    exact ⟨_, looks_ty (T := "dict") fun s' k => typeis_keep k (dK_ty I hb), nf_of (by decide +kernel)⟩
  · obtain rfl : v = Value.ref b := ry
    exact ⟨_, looks_ty (T := "dict") fun s' k => typeis_keep k (dT_ty I hb), nf_of (by decide +kernel)⟩
  · exact right_ty I ry (.inr h)
theorem left_tyA {pins : List (Addr × Obj)} {s : Shared} {σ : St} {H : Hp} {y : V} {v : Value} {x : Addr} {ox : Obj} {od : Option Obj} {dx : Addr} (I : Inv X pins σ H s) (e : EqFactsA X.K C f) (J : PySem.W.InstAt s.heap x ox C od) (hx : s.heap.get? x = some (PySem.W.instObj C dx)) (ry : RelV y v) (h : PlainA H y) :
    ∃ T : String, s.TypeIs v T ∧ PySem.W.mroIn X.K C (.type T) = some false ∧ DE6.Declines s x v "__eq__" ∧ oneThing? .Eq v (.ref x) = none := by
  rcases h with h | ⟨z, rfl⟩ | ⟨b, vs, rfl, hb⟩ | ⟨b, vs, rfl, hb⟩ | ⟨b, vs, rfl, hb⟩
  · obtain ⟨T, t1, t2, d1, _, o1, _⟩ := left_ty I e.b J hx ry h
    exact ⟨T, t1, t2, d1, o1⟩
  · obtain ⟨t, rfl⟩ : ∃ t, v = Value.str z t := ry
    exact ⟨"str", rfl, e.mS, DE6.dec_str_eq hx, rfl⟩
  · obtain rfl : v = Value.ref b := ry
    exact ⟨"list", lst_ty I hb, e.mL, DE6.dec_lst_eq I.kIn J e.mL (lst_ty I hb), rfl⟩
  · obtain rfl : v = Value.ref b := ry
    exact ⟨"dict", dK_ty I hb, e.mD, DE6.dec_dct_eq I.kIn J e.mD (dK_ty I hb), rfl⟩
  · obtain rfl : v = Value.ref b := ry
    exact ⟨"dict", dT_ty I hb, e.mD, DE6.dec_dct_eq I.kIn J e.mD (dT_ty I hb), rfl⟩
theorem op_eqOwnA (e : EqFactsA X.K C f) (F : FnG X.prog X.w X.K X.mg X.base k f sp) (hr : Room (k + 1) X.A) (hgu : X.A.guards = some []) : OpR X (compareOp .Eq) (rEqOwnA C sp false) := by
  intro pins s σ H x y v u Q I rx ry h
  have hu1 := hu_of hr
  rcases h with ⟨a, dx, fs, rfl, ha, hy, hs⟩ | ⟨a, dx, fs, rfl, ha, hy, hs⟩
  · obtain rfl : v = Value.ref a := rx
    obtain ⟨mA, O, _⟩ := ins_get I.hok ha
    obtain ⟨od, J, _⟩ := O.look
    obtain ⟨m, fr⟩ := I.fr
    obtain ⟨tb, lk, nf⟩ := right_tyA I ry hy
    refine (PySem.W.cmp_K (op := .Eq) (tb := tb) (by omega) fr I.ok.mod.kin J lk nf e.b.eq e.b.fn ?_ : wpAny (model X.prog X.w) X.A (richCompare .Eq (.ref a) u) (EP X pins σ Q) X.xe s)
    refine thn (own_call F (hr.mono (Nat.le_succ k)) hgu I (show RelV (V.ref a) (Value.ref a) from rfl) ry hs) fun r s' ⟨c, er, q⟩ => ?_
    subst er
    simpa [PySem.W.CmpBack] using q
  · obtain rfl : u = Value.ref a := ry
    obtain ⟨mA, O, _⟩ := ins_get I.hok ha
    obtain ⟨od, J, _⟩ := O.look
    obtain ⟨T, t1, t2, d1, o1⟩ := left_tyA I e J J.at_ rx hy
    refine (DE6.cmp_reflEq (by omega) I.kIn J o1 t1 t2 d1 e.b.eq e.b.fn ?_ : wpAny (model X.prog X.w) X.A (richCompare .Eq v (.ref a)) (EP X pins σ Q) X.xe s)
    refine thn (own_call F (hr.mono (Nat.le_succ k)) hgu I (show RelV (V.ref a) (Value.ref a) from rfl) rx hs) fun r s' ⟨c, er, q⟩ => ?_
    subst er
    simpa [PySem.W.CmpBack] using q
theorem op_neOwnA (e : EqFactsA X.K C f) (F : FnG X.prog X.w X.K X.mg X.base k f sp) (hr : Room (k + 1) X.A) (hgu : X.A.guards = some []) : OpR X (compareOp .NotEq) (rEqOwnA C sp true) := by
  intro pins s σ H x y v u Q I rx ry h
  have hu1 := hu_of hr
  rcases h with ⟨a, dx, fs, rfl, ha, hy, hs⟩ | ⟨a, dx, fs, rfl, ha, hy, hs⟩
  · obtain rfl : v = Value.ref a := rx
    obtain ⟨mA, O, _⟩ := ins_get I.hok ha
    obtain ⟨od, J, _⟩ := O.look
    obtain ⟨tb, lk, nf⟩ := right_tyA I ry hy
    refine (DE6.cmp_ne (tb := tb) (by omega) I.kIn J lk nf e.b.mo e.b.ne e.b.eq e.b.fn ?_ : wpAny (model X.prog X.w) X.A (richCompare .NotEq (.ref a) u) (EP X pins σ Q) X.xe s)
    refine thn (own_call1 F hr hgu I (show RelV (V.ref a) (Value.ref a) from rfl) ry hs) fun r s' ⟨c, er, q⟩ => ⟨c, er, ?_⟩
    simpa using q
  · exact op_neOwn e.b F hr hgu _ _ _ _ _ _ _ _ _ I rx ry (.inr ⟨a, dx, fs, rfl, ha, hy, hs⟩)
end
def rightDA (n : Str) : D → Prop
  | .non => True
  | .int _ => True
  | .tup _ => True
  | .str _ => True
  | .lst _ => True
  | .dk _ => True
  | .dt _ => True
  | .obj m _ => m = n
  | _ => False
def leftDA : Bool → D → Prop
  | _, .non => True
  | _, .int _ => True
  | _, .tup _ => True
  | false, .str _ => True
  | false, .lst _ => True
  | false, .dk _ => True
  | false, .dt _ => True
  | _, _ => False
def eqOwnA (n : Str) (neg : Bool) (G : DFn) (x y : D) (k : Bool → Prop) : Prop :=
  isObj n x ∧ rightDA n y ∧ callD G [some x, some y] (fun z _ => gB z k) noX .mk ∨
  leftDA neg x ∧ isObj n y ∧ callD G [some y, some x] (fun z _ => gB z k) noX .mk
def fEqOwnA (n : Str) (neg : Bool) (G : DFn) (Fa Fb : FE) : FE := fun ρ post xp => Fa ρ (fun x ρ1 => Fb ρ1 (fun y ρ2 => eqOwnA n neg G x y fun b => post (.bl (neg != b)) ρ2) xp) xp
@[simp ↓] theorem fEqOwnA_ap (n : Str) (neg : Bool) (G : DFn) (Fa Fb : FE) (ρ : Env) (post : Post) (xp : XP) : fEqOwnA n neg G Fa Fb ρ post xp = (Fa ρ (fun x ρ1 => Fb ρ1 (fun y ρ2 => eqOwnA n neg G x y fun b => post (.bl (neg != b)) ρ2) xp) xp) := (rfl)
section
variable {X : Cx} {Wx : WX} {P L I J J1 J2 : List Nat} {e a b : Expr} {es : List Expr} {F Fa Fb : FE} {A : FA} {pos p p1 p2 apos : Pos} {k : Nat} {f : Addr} {G : DFn} {x m y n : Str} {ta tb : TE} {tA : TA} {C : Addr} {st : Stmt}
theorem plain3A {K : PySem.W.Frag} {Hb H : Hp} (s : Sub Hb H) {v : V} {d : D} (i : Is K Hb v d) (h : leftDA false d) : PlainA H v := by
  cases i with
  | non => exact .inl (.inl rfl)
  | int i => exact .inl (.inr (.inl ⟨_, rfl⟩))
  | tup h1 l => exact .inl (.inr (.inr ⟨_, _, rfl, s.at h1⟩))
  | str z => exact .inr (.inl ⟨_, rfl⟩)
  | lst h1 l => exact .inr (.inr (.inl ⟨_, _, rfl, s.at h1⟩))
  | dk h1 _ _ => exact .inr (.inr (.inr (.inl ⟨_, _, rfl, s.rd h1⟩)))
  | dt h1 _ _ => exact .inr (.inr (.inr (.inr ⟨_, _, rfl, s.rd h1⟩)))
  | _ => exact h.elim
theorem plainL {K : PySem.W.Frag} {Hb H : Hp} (s : Sub Hb H) {v : V} {d : D} {neg : Bool} (i : Is K Hb v d) (h : leftDA neg d) : PlainL neg H v := by
  cases neg with
  | false => exact plain3A s i h
  | true =>
    refine plain3 s i ?_
    cases d <;> first | exact trivial | exact h.elim
theorem eqOwnA_core (hc : IsCl X.K n C) (neg : Bool) (ha : DE X Wx P I a ta Fa J1) (hb : DE X Wx P J1 b tb Fb J) : ∀ (W : Wd) (ρ : Env) (σ : St) (Hb H : Hp) (Q : VK) (post : Post) (xp : XP), EnvOk X.K W P I ρ σ Hb H → fEqOwnA n neg G Fa Fb ρ post xp → XOk X Wx W P σ xp →
    (∀ d ρ' v Hb' H', post d ρ' → EnvOk X.K W P J ρ' σ Hb' H' → Sub Hb Hb' → Is X.K Hb' v d → Q v H') → tOp (rEqOwnA C (spD X.K 2 [] G) neg) ta tb σ H Q := by
  intro W ρ σ Hb H Q post xp E f x q
  refine ha.ev W ρ σ Hb H _ _ xp E f x fun d ρ1 v Hb1 H1 f1 E1 s1 i1 => ?_
  refine hb.ev W ρ1 σ Hb1 H1 _ _ xp E1 f1 x fun d2 ρ2 v2 Hb2 H2 f2 E2 s2 i2 => ?_
  have i1' := i1.mono s2
  have hsl : ∀ j ∈ slots [none, none], j ∈ P ∨ j ∈ J := fun j h => by simp [slots] at h
  have hl : ∀ j ∈ slots [none, none], get ρ2 j ≠ none := fun j h => by simp [slots] at h
  have go : ∀ (u w : V) (du dw : D), Is X.K Hb2 u du → Is X.K Hb2 w dw → callD G [some du, some dw] (fun z _ => gB z fun b => post (.bl (neg != b)) ρ2) noX .mk →
      spD X.K 2 [] G [u, w] H2 (fun z H2 => ∃ b, z = .bl b ∧ Q (.bl (neg != b)) H2) fun _ _ _ => False := fun u w du dw iu iw f2 => by
    have ar : Args X.K Hb2 σ [none, none] [u, w] [some du, some dw] := ⟨⟨_, rfl, iu⟩, ⟨_, rfl, iw⟩, trivial⟩
    refine ⟨rfl, [some du, some dw], Hb2, _, _, E2.lend ar hsl (by simp [slots]) hl, f2, fun z ρ' v Hb' H' p1 E4 is => ?_, fun c ρ' cls dx Hb' H' p1 => p1.elim⟩
    have E3 := E2.given ar hsl (by simp [slots]) hl E4 rfl
    have eu : unfill [none, none] ρ' ρ2 = ρ2 := by
      cases ρ' with
      | nil => rfl
      | cons a r => cases r <;> rfl
    rw [eu] at E3
    cases z <;> first | exact p1.elim | skip
    exact ⟨_, is_bl is, q _ _ _ _ _ p1 E3 ((s1.trans s2).trans E4.stp.hb) (.bl _)⟩
  rcases f2 with ⟨⟨fs, e⟩, hy, f2⟩ | ⟨hx, ⟨fs, e⟩, f2⟩
  · subst e
    obtain ⟨a, C', dx, vs, rfl, hc', hh, e1, l1⟩ := o_obj E2.sub (.inl i1')
    obtain rfl := hc.eq hc'
    refine .inl ⟨a, dx, vs, rfl, hh, ?_, go _ _ _ _ i1' i2 f2⟩
    cases d2 with
    | obj m gs =>
      obtain rfl : m = n := hy
      obtain ⟨b, C'', dy, ws, rfl, hc'', hh', _, _⟩ := o_obj E2.sub (.inl i2)
      obtain rfl := hc.eq hc''
      exact .inr ⟨b, dy, ws, rfl, hh'⟩
    | non => exact .inl (plain3A E2.sub i2 trivial)
    | int i => exact .inl (plain3A E2.sub i2 trivial)
    | tup l => exact .inl (plain3A E2.sub i2 trivial)
    | str l => exact .inl (plain3A E2.sub i2 trivial)
    | lst l => exact .inl (plain3A E2.sub i2 trivial)
    | dk l => exact .inl (plain3A E2.sub i2 trivial)
    | dt l => exact .inl (plain3A E2.sub i2 trivial)
    | _ => exact hy.elim
  · subst e
    obtain ⟨a, C', dx, vs, rfl, hc', hh, e1, l1⟩ := o_obj E2.sub (.inl i2)
    obtain rfl := hc.eq hc'
    exact .inr ⟨a, dx, vs, rfl, hh, plainL E2.sub i1' hx, go _ _ _ _ i2 i1' f2⟩
theorem de_eqOwnA (hc : IsCl X.K n C) (ef : EqFactsA X.K C f) (Fn : FnG X.prog X.w X.K X.mg X.base k f (spD X.K 2 [] G)) (hr : Room (k + 1) X.A) (hgu : X.A.guards = some []) (ha : DE X Wx P I a ta Fa J1) (hb : DE X Wx P J1 b tb Fb J) (hm : behindInMarks .Eq b = false := by first | exact nomark _ | rfl) :
    DE X Wx P I (.Compare a [.Eq] [b] pos) (tOp (rEqOwnA C (spD X.K 2 [] G) false) ta tb) (fEqOwnA n false G Fa Fb) J := de_of (pe_cmpR (op_eqOwnA ef Fn hr hgu) ha.pe hb.pe hm) (eqOwnA_core hc false ha hb)
theorem de_neOwnA (hc : IsCl X.K n C) (ef : EqFactsA X.K C f) (Fn : FnG X.prog X.w X.K X.mg X.base k f (spD X.K 2 [] G)) (hr : Room (k + 1) X.A) (hgu : X.A.guards = some []) (ha : DE X Wx P I a ta Fa J1) (hb : DE X Wx P J1 b tb Fb J) (hm : behindInMarks .NotEq b = false := by first | exact nomark _ | rfl) :
    DE X Wx P I (.Compare a [.NotEq] [b] pos) (tOp (rEqOwnA C (spD X.K 2 [] G) true) ta tb) (fEqOwnA n true G Fa Fb) J := de_of (pe_cmpR (op_neOwnA ef Fn hr hgu) ha.pe hb.pe hm) (eqOwnA_core hc true ha hb)
theorem dt_eqOwnA (neg : Bool) {op : CmpOp} (hop : OpR X (compareOp op) (rEqOwnA C (spD X.K 2 [] G) neg)) (hc : IsCl X.K n C) (ha : DE X Wx P I a ta Fa J1) (hb : DE X Wx P J1 b tb Fb J) (hm : behindInMarks op b = false := by first | exact nomark _ | rfl) :
    DT X Wx P I (.Compare a [op] [b] pos) (tTest (tOp (rEqOwnA C (spD X.K 2 [] G) neg) ta tb)) (fTest (fEqOwnA n neg G Fa Fb)) J := by
  refine dt_of (pt_cmpR hop ha.pe hb.pe hm) fun W ρ σ Hb H Q post xp E f x q => eqOwnA_core hc neg ha hb W ρ σ Hb H _ _ xp E f x fun d ρ1 v Hb1 H1 f1 E1 s1 i1 => ?_
  cases d <;> first | exact f1.elim | skip
  exact ⟨_, is_bl i1, q _ _ _ _ f1 E1 s1⟩
/-! ### isinstance(x, C), x any plain data -/
structure IsiFA (K : PySem.W.Frag) (C : Addr) : Prop where
  b : IsiF K C
  kL : PySem.W.kitOne K (.type "list") (.ref C) = some false
  kS : PySem.W.kitOne K (.type "str") (.ref C) = some false
  kD : PySem.W.kitOne K (.type "dict") (.ref C) = some false
def isOwnA (n : Str) : D → Option Bool
  | .str _ => some false
  | .lst _ => some false
  | .dk _ => some false
  | d => isOwn n d
def fIsiOwnA (n : Str) (F : FE) : FE := fun ρ post xp => F ρ (fun d ρ1 => ∃ b, isOwnA n d = some b ∧ post (.bl b) ρ1) xp
@[simp ↓] theorem fIsiOwnA_ap (n : Str) (F : FE) (ρ : Env) (post : Post) (xp : XP) : fIsiOwnA n F ρ post xp = (F ρ (fun d ρ1 => ∃ b, isOwnA n d = some b ∧ post (.bl b) ρ1) xp) := (rfl)
theorem isiOwnA_ok {K : PySem.W.Frag} (hc : IsCl K n C) (iF : IsiFA K C) {Hb H : Hp} (s : Sub Hb H) {v : V} {d : D} {b : Bool} (i : Is K Hb v d) (h : isOwnA n d = some b) : ∃ t, TyX K H v t ∧ PySem.W.kitOne K t (.ref C) = some b := by
  cases d with
  | str z => cases h; exact ⟨_, o_tyx s (.inl i) rfl, iF.kS⟩
  | lst z => cases h; exact ⟨_, o_tyx s (.inl i) rfl, iF.kL⟩
  | dk z => cases h; exact ⟨_, o_tyx s (.inl i) rfl, iF.kD⟩
  | _ => exact isiOwn_ok hc iF.b s i h
theorem de_isiOwnA (hc : IsCl X.K n C) (hm : X.mg y = some (.ref C)) (iF : IsiFA X.K C) (hmi : X.mg "isinstance" = none) (ha : DE X Wx P I e ta F J) (hg : Gl X "isinstance" := by rfl) (hgc : Gl X y := by rfl) (hdc : (y == ("__debug__" : Str)) = false := by decide)
    (he : starEach [e, .Name y p2] X.env = (false, eval e X.env) :: starEach [.Name y p2] X.env := by rfl) (hpl : (backTo pos (starEach [.Name y p2] X.env)).any (·.1) = false := by rfl) :
    DE X Wx P I (.Call (.Name "isinstance" p1) [e, .Name y p2] [] pos) (tCB (rIsi X.K) (tCons ta (tCons (tC (.ref C)) tNil))) (fIsiOwnA n F) J := by
  refine de_of (pe_callB (id := "isinstance") call_isi hg hmi rfl (pa_cons ha.pe (hs := he) (pa_cons (pe_glob hgc hm rfl hdc) pa_nil)) (he := he) (hpl := hpl)) fun W ρ σ Hb H Q post xp E f x q => ha.ev W ρ σ Hb H _ _ xp E f x fun d ρ1 v Hb1 H1 f1 E1 s1 i1 => ?_
  obtain ⟨b, hb, f1⟩ := f1
  obtain ⟨t, h1, h2⟩ := isiOwnA_ok hc iF E1.sub i1 hb
  exact ⟨v, .ref C, t, .ref C, b, rfl, .own C, h1, h2, q _ _ _ _ _ f1 E1 s1 (.bl b)⟩
end
end DL

/-! DG108: a test that sees an owned list as plain data (a lambda in it may read that list), and touches no cell. -/
namespace DL
open PySem L2
open PyProof.Rows hiding St
section
variable {K : PySem.W.Frag} {W : Wd} {P I : List Nat} {ρ : Env} {σ : St} {Hb H : Hp}
end
end DL

/-! DP1: places with counts, in plain Lean: merged, sorted, looked up, summed. -/
namespace DL
abbrev Pt := Int × Int
abbrev Cn := List Int
abbrev Pc := Pt × Cn
def ltP (p q : Pt) : Prop := p.1 < q.1 ∨ (p.1 = q.1 ∧ p.2 < q.2)
instance (p q : Pt) : Decidable (ltP p q) := by unfold ltP; infer_instance
theorem ltP.irr {p : Pt} (h : ltP p p) : False := by unfold ltP at h; omega
theorem ltP.tr {p q r : Pt} (h : ltP p q) (k : ltP q r) : ltP p r := by unfold ltP at *; omega
/-- counts added -/
def addC (a b : Cn) : Cn := List.zipWith (· + ·) a b
def zero (n : Nat) : Cn := List.replicate n 0
theorem addC_len {a b : Cn} {n : Nat} (h : a.length = n) (k : b.length = n) : (addC a b).length = n := by unfold addC; simp [h, k]
theorem zero_len (n : Nat) : (zero n).length = n := by simp [zero]
theorem addC_get {a b : Cn} {n : Nat} (h : a.length = n) (k : b.length = n) (j : Nat) : (addC a b).getD j 0 = a.getD j 0 + b.getD j 0 := by
  unfold addC
  rw [List.getD_eq_getElem?_getD, List.getD_eq_getElem?_getD, List.getD_eq_getElem?_getD, List.getElem?_zipWith]
  by_cases hj : j < n
  · rw [List.getElem?_eq_getElem (by omega), List.getElem?_eq_getElem (by omega)]; rfl
  · rw [List.getElem?_eq_none (by omega), List.getElem?_eq_none (by omega)]; rfl
theorem zero_get (n j : Nat) : (zero n).getD j 0 = 0 := by
  unfold zero
  rw [List.getD_eq_getElem?_getD]
  by_cases hj : j < n
  · rw [List.getElem?_eq_getElem (by simpa using hj)]; simp
  · rw [List.getElem?_eq_none (by simpa using hj)]; rfl
theorem cn_ext {a b : Cn} {n : Nat} (h : a.length = n) (k : b.length = n) (e : ∀ j, j < n → a.getD j 0 = b.getD j 0) : a = b := by
  refine List.ext_getElem (by omega) fun j h1 h2 => ?_
  have := e j (by omega)
  rw [List.getD_eq_getElem?_getD, List.getD_eq_getElem?_getD, List.getElem?_eq_getElem h1, List.getElem?_eq_getElem h2] at this
  exact this
theorem zero_add {c : Cn} {n : Nat} (h : c.length = n) : addC (zero n) c = c :=
  cn_ext (addC_len (zero_len n) h) h fun j _ => by rw [addC_get (zero_len n) h, zero_get]; omega
/-! ### lists of places with counts -/
def look (L : List Pc) (p : Pt) : Option Cn := (L.find? fun q => decide (q.1 = p)).map (·.2)
/-- the counts at a place -/
def at_ (n : Nat) (L : List Pc) (p : Pt) : Cn := (look L p).getD (zero n)
def WF (n : Nat) (L : List Pc) : Prop := ∀ q ∈ L, q.2.length = n
def nz (c : Cn) : Bool := c.any fun i => i != 0
theorem look_nil (p : Pt) : look [] p = none := rfl
theorem look_cons (q : Pc) (L : List Pc) (p : Pt) : look (q :: L) p = if q.1 = p then some q.2 else look L p := by
  unfold look
  by_cases e : q.1 = p
  · simp [List.find?_cons, e]
  · simp [List.find?_cons, e]
theorem look_mem {L : List Pc} {p : Pt} {c : Cn} (h : look L p = some c) : (p, c) ∈ L := by
  induction L with
  | nil => simp [look_nil] at h
  | cons q L ih =>
    rw [look_cons] at h
    split at h
    · rename_i e
      have h := Option.some.inj h
      have : q = (p, c) := Prod.ext e h
      rw [this]; exact List.mem_cons_self
    · exact List.mem_cons_of_mem _ (ih h)
/-! ### the canonical list -/
def Asc (L : List Pc) : Prop := L.Pairwise fun a b => ltP a.1 b.1
structure Can (n : Nat) (L : List Pc) : Prop where
  wf : WF n L
  nz : ∀ q ∈ L, nz q.2 = true
  asc : Asc L
theorem nz_ne {n : Nat} {c : Cn} (h : c.length = n) : nz c = true ↔ c ≠ zero n := by
  constructor
  · rintro h2 rfl
    unfold nz zero at h2
    rw [List.any_replicate] at h2
    simp at h2
  · intro h2
    cases z : nz c with
    | true => rfl
    | false =>
      exfalso
      refine h2 (cn_ext h (zero_len n) fun j hj => ?_)
      rw [zero_get]
      unfold nz at z
      rw [List.any_eq_false] at z
      have hj' : j < c.length := by omega
      have := z c[j] (List.getElem_mem hj')
      rw [List.getD_eq_getElem?_getD, List.getElem?_eq_getElem hj']
      simpa using this
theorem nz_zero (n : Nat) : nz (zero n) = false := by
  cases z : nz (zero n) with
  | false => rfl
  | true => exact absurd rfl ((nz_ne (zero_len n)).1 z)
theorem Asc.look {L : List Pc} (a : Asc L) {q : Pc} (h : q ∈ L) : look L q.1 = some q.2 := by
  induction L with
  | nil => cases h
  | cons r L ih =>
    rw [look_cons]
    unfold Asc at a
    rw [List.pairwise_cons] at a
    rcases List.mem_cons.mp h with rfl | h
    · simp
    · have := a.1 q h
      rw [if_neg fun e => by rw [e] at this; exact this.irr, ih a.2 h]
/-- what stands at places tells the list -/
theorem Can.mem {n : Nat} {L : List Pc} (h : Can n L) (q : Pc) : q ∈ L ↔ (DL.nz q.2 = true ∧ at_ n L q.1 = q.2) := by
  constructor
  · intro hq
    exact ⟨h.nz q hq, by unfold at_; rw [h.asc.look hq]; rfl⟩
  · rintro ⟨hn, e⟩
    unfold at_ at e
    cases z : DL.look L q.1 with
    | none =>
      rw [z] at e
      have e : zero n = q.2 := e
      rw [← e, nz_zero] at hn
      cases hn
    | some c =>
      rw [z] at e
      have e : c = q.2 := e
      have := look_mem z
      rw [e] at this
      exact this
theorem asc_ext : ∀ {L M : List Pc}, Asc L → Asc M → (∀ q, q ∈ L ↔ q ∈ M) → L = M
  | [], [], _, _, _ => rfl
  | [], q :: _, _, _, h => by have := (h q).2 List.mem_cons_self; cases this
  | q :: _, [], _, _, h => by have := (h q).1 List.mem_cons_self; cases this
  | q :: L, r :: M, a, b, h => by
    unfold Asc at a b
    rw [List.pairwise_cons] at a b
    have e : q = r := by
      rcases List.mem_cons.mp ((h q).1 List.mem_cons_self) with e | h1
      · exact e
      · rcases List.mem_cons.mp ((h r).2 List.mem_cons_self) with e | h2
        · exact e.symm
        · exact absurd ((b.1 q h1).tr (a.1 r h2)) fun z => z.irr
    subst e
    refine congrArg (q :: ·) (asc_ext a.2 b.2 fun s => ?_)
    constructor
    · intro hs
      rcases List.mem_cons.mp ((h s).1 (List.mem_cons_of_mem _ hs)) with e | h1
      · rw [e] at hs; exact absurd (a.1 q hs) fun z => z.irr
      · exact h1
    · intro hs
      rcases List.mem_cons.mp ((h s).2 (List.mem_cons_of_mem _ hs)) with e | h1
      · rw [e] at hs; exact absurd (b.1 q hs) fun z => z.irr
      · exact h1
theorem Can.ext {n : Nat} {L M : List Pc} (h : Can n L) (k : Can n M) (e : ∀ p, at_ n L p = at_ n M p) : L = M :=
  asc_ext h.asc k.asc fun q => by rw [h.mem, k.mem, e]
end DL

/-! DP2: the canonical list as a function; counts by pulls. -/
namespace DL
/-- counts of one piece -/
def one (n k : Nat) : Cn := (List.range n).map fun j => if k = j then 1 else 0
end DL

/-! DP3: sums at a place, rearranged, with more pieces. -/
namespace DL
end DL

/-! DP4: places with counts as data. -/
namespace DL
open PySem L2
def vt (p : Pt) : D := .tup [.int p.1, .int p.2]
def ct (c : Cn) : D := .tup (c.map .int)
def pt (q : Pc) : D := .tup [vt q.1, ct q.2]
def keyP (p : Pt) : List Key := [.inl p.1, .inl p.2]
def kd (q : Pc) : List Key × D := (keyP q.1, ct q.2)
theorem dBools_map : ∀ c : List Bool, dBools (c.map .bl) = some c
  | [] => rfl
  | i :: c => by
    rw [List.map_cons]
    show (dBools (c.map .bl)).map (i :: ·) = _
    rw [dBools_map c]; rfl
end DL

/-! DP5: more readings evaluated; comprehensions over encoded lists. -/
namespace DL
open PySem L2
@[simp ↓] theorem gMul_tupI (a : List D) (j : Int) (k) : gMul (.tup a) (.int j) k = ((a ≠ [] ∧ a.length ≤ 1000 ∧ 1 ≤ j ∧ j ≤ 1000) ∧ k (.tup (List.replicate j.toNat a).flatten)) := (rfl)
@[simp ↓] theorem gLen_ct (c : Cn) (k) : gLen [ct c] k = k (.int c.length) := by
  show k (.int (c.map D.int).length) = _
  rw [List.length_map]
theorem gAll_bls {bs : List Bool} {k : D → Prop} (h : k (.bl (bs.all id))) : gAll [.lst (bs.map .bl)] k := ⟨_, _, _, rfl, rfl, dBools_map bs, h⟩
theorem compL_of {α : Type} {vs : List Nat} {g : FG} {T : FT} {E : FE} {post : Post} {ρ : Env} (enc : α → D) (p : α → Bool) (f : α → D) : ∀ (xs : List α) (acc : List D), acc.length + xs.length ≤ 1000000 →
    (∀ x ∈ xs, ∀ (Pst : D → Env → Prop) (N : Env → Prop), (p x = true → ∀ ρ3, unwipe ρ ρ3 vs = ρ → Pst (f x) ρ3) → (p x = false → ∀ ρ2, unwipe ρ ρ2 vs = ρ → N ρ2) →
      g (enc x) (wipeE ρ vs) fun ρ1 => T ρ1 (fun b ρ2 => if b = true then E ρ2 Pst noX else N ρ2) noX) →
    post (.lst (acc ++ (xs.filter p).map f)) ρ → compL vs g T E post (xs.map enc) acc ρ
  | [], acc, _, _, q => by simpa [compL] using q
  | d :: ds, acc, hl, h, q => by
    rw [List.map_cons]
    unfold compL
    simp only [List.length_cons] at hl
    refine h d List.mem_cons_self _ _ (fun hp ρ3 e => ⟨by omega, ?_⟩) (fun hp ρ2 e => ?_)
    · rw [e]
      refine compL_of enc p f ds (acc ++ [f d]) (by simp; omega) (fun x hx => h x (List.mem_cons_of_mem _ hx)) ?_
      rw [List.filter_cons, if_pos hp, List.map_cons] at q
      simpa using q
    · rw [e]
      refine compL_of enc p f ds acc (by omega) (fun x hx => h x (List.mem_cons_of_mem _ hx)) ?_
      rw [List.filter_cons, if_neg (by rw [hp]; simp)] at q
      exact q
/-- without a test -/
theorem compL_as {α : Type} {vs : List Nat} {g : FG} {E : FE} {post : Post} {ρ : Env} (enc : α → D) (f : α → D) (xs : List α) (hl : xs.length ≤ 1000000)
    (h : ∀ x ∈ xs, ∀ (Pst : D → Env → Prop), (∀ ρ3, unwipe ρ ρ3 vs = ρ → Pst (f x) ρ3) → g (enc x) (wipeE ρ vs) fun ρ1 => E ρ1 Pst noX)
    (q : post (.lst (xs.map f)) ρ) : compL vs g tYesD E post (xs.map enc) [] ρ := by
  refine compL_of enc (fun _ => true) f xs [] (by simpa using hl) (fun d hd Pst N h1 h2 => ?_) (by rw [List.nil_append, List.filter_eq_self.2 (fun _ _ => rfl)]; exact q)
  have := h d hd Pst (h1 rfl)
  simpa [tYesD] using this
end DL

/-! DP6: counts compared, pieces sorted. -/
namespace DL
open PySem L2
end DL

namespace DL
open PySem L2
@[simp ↓] theorem gIx_vt0 (p : Pt) (k) : gIx (vt p) (.int 0) k = k (.int p.1) := by show gIx (.tup _) _ _ = _; simp
@[simp ↓] theorem gIx_vt1 (p : Pt) (k) : gIx (vt p) (.int 1) k = k (.int p.2) := by show gIx (.tup _) _ _ = _; simp
@[simp] theorem plD_vt (n : Nat) (p : Pt) : plD n (vt p) = decide (1 ≤ n) := by simp [vt]
@[simp] theorem plD_ct (n : Nat) (c : Cn) : plD n (ct c) = decide (1 ≤ n) := by
  have : ((c.map D.int).all (plD (n - 1))) = true := by simp
  simp only [ct, plD_tup, this, Bool.and_true]
@[simp] theorem plD_pt (n : Nat) (q : Pc) : plD n (pt q) = decide (2 ≤ n) := by
  simp only [pt, plD_tup, List.all_cons, List.all_nil, plD_vt, plD_ct, Bool.and_true, Bool.and_self]
  rw [← Bool.decide_and, decide_eq_decide]; omega
@[simp high] theorem all_vt (n : Nat) (V : List Pt) : (V.map vt).all (plD (n + 1)) = true := by simp
@[simp high] theorem all_pt (n : Nat) (L : List Pc) : (L.map pt).all (plD (n + 2)) = true := by simp
@[simp high] theorem all_ct (n : Nat) (L : List Cn) : (L.map ct).all (plD (n + 1)) = true := by simp
@[simp high] theorem all_int (n : Nat) (L : List Int) : (L.map D.int).all (plD n) = true := by simp
@[simp] theorem vt_inj (p q : Pt) : (vt p = vt q) = (p = q) := by
  obtain ⟨a, b⟩ := p
  obtain ⟨c, d⟩ := q
  simp [vt]
theorem map_inj {α β : Type} {f : α → β} (h : ∀ a b, f a = f b → a = b) : ∀ a b : List α, (a.map f = b.map f) = (a = b)
  | [], [] => by simp
  | [], _ :: _ => by simp
  | _ :: _, [] => by simp
  | x :: a, y :: b => by
    have ih := map_inj h a b
    simp only [List.map_cons, List.cons.injEq, ih]
    exact propext ⟨fun z => ⟨h _ _ z.1, z.2⟩, fun z => ⟨by rw [z.1], z.2⟩⟩
@[simp] theorem ct_inj (p q : Cn) : (ct p = ct q) = (p = q) := by
  unfold ct
  rw [D.tup.injEq, map_inj (by simp)]
@[simp] theorem pt_inj (p q : Pc) : (pt p = pt q) = (p = q) := by
  obtain ⟨a, b⟩ := p
  obtain ⟨c, d⟩ := q
  simp [pt]
@[simp] theorem map_vt_inj (a b : List Pt) : (a.map vt = b.map vt) = (a = b) := map_inj (by simp) a b
@[simp] theorem map_ct_inj (a b : List Cn) : (a.map ct = b.map ct) = (a = b) := map_inj (by simp) a b
@[simp] theorem map_pt_inj (a b : List Pc) : (a.map pt = b.map pt) = (a = b) := map_inj (by simp) a b
@[simp] theorem vt_eq_tup (p : Pt) (x y : Int) : (vt p = .tup [.int x, .int y]) = (p.1 = x ∧ p.2 = y) := by simp [vt]
@[simp] theorem tup_eq_vt (p : Pt) (x y : Int) : (D.tup [.int x, .int y] = vt p) = (x = p.1 ∧ y = p.2) := by simp [vt]
end DL

namespace DL
open PySem L2
theorem loop_each {α : Type} {g : FG} {B : FS} {S : SPo} {l : LockS S} {ρ : Env} (enc : α → D) (I : List α → Env → Prop) {xs : List α} (h0 : I xs ρ)
    (hs : ∀ x r ρ (N : Env → Prop), (∀ ρ', I r ρ' → N ρ') → I (x :: r) ρ → g (enc x) ρ fun ρ1 => B ρ1 (S.lp N)) (he : ∀ ρ, I [] ρ → S.nx ρ) : loopK g B S l (xs.map enc) ρ := by
  refine loop_inv (fun ds ρ => ∃ r, ds = List.map enc r ∧ I r ρ) (fun ρ ⟨r, e, i⟩ => ?_) (fun d ds ρ N hN ⟨r, e, i⟩ => ?_) _ _ ⟨xs, rfl, h0⟩
  · have : r = [] := by simpa using e.symm
    subst this; exact he ρ i
  · cases r with
    | nil => cases e
    | cons x r =>
      simp only [List.map_cons, List.cons.injEq] at e
      obtain ⟨rfl, rfl⟩ := e
      exact hs x r ρ N (fun ρ' q => hN ρ' ⟨r, rfl, q⟩) i
theorem loop_range {g : FG} {B : FS} {S : SPo} {l : LockS S} {ρ : Env} {n : Nat} (I : Nat → Env → Prop) (h0 : I 0 ρ)
    (hs : ∀ (j : Nat) ρ (N : Env → Prop), j < n → (∀ ρ', I (j + 1) ρ' → N ρ') → I j ρ → g (.int j) ρ fun ρ1 => B ρ1 (S.lp N)) (he : ∀ ρ, I n ρ → S.nx ρ) :
    loopK g B S l ((List.range n).map fun k : Nat => D.int (k : Int)) ρ := by
  refine loop_each (fun k : Nat => D.int (k : Int)) (fun r ρ => ∃ j, r = List.range' j r.length ∧ j + r.length = n ∧ I j ρ) ⟨0, by simp [List.range_eq_range'], by simp, h0⟩ (fun x r ρ N hN ⟨j, e, hj, i⟩ => ?_) (fun ρ ⟨j, e, hj, i⟩ => ?_)
  · simp only [List.length_cons, List.range'_succ, List.cons.injEq] at e hj
    obtain ⟨rfl, e⟩ := e
    exact hs x ρ N (by omega) (fun ρ' q => hN ρ' ⟨x + 1, e, by omega, q⟩) i
  · simp at hj
    subst hj
    exact he ρ i
@[simp ↓] theorem gList_tupS (a : List D) (k : D → Prop) : gList [.tup a] k = k (.lst a) := propext ⟨fun ⟨d, es, e, h, q⟩ => by
  cases e
  rcases h with h | h
  · cases h; exact q
  · (cases h), gList_tup a k⟩
@[simp ↓] theorem gList_lstS (a : List D) (k : D → Prop) : gList [.lst a] k = k (.lst a) := propext ⟨fun ⟨d, es, e, h, q⟩ => by
  cases e
  rcases h with h | h
  · cases h
  · cases h; exact q, gList_lst a k⟩
end DL

/-! DP10: two rows of whole numbers with one repr are one. -/
namespace DL
open PySem
def cl (x : Str) : List Nat := x.cps.toList
end DL

/-! DP11: whole square roots by halving, whole roots of a curve. -/
namespace DL
/-! ### roots -/
/-- all q from 0 on with Z q: none for all, or the ascending list -/
def RtsD (Z : Int → Prop) (d : D) : Prop := (d = .non ∧ ∀ q, 0 ≤ q → Z q) ∨ ∃ ms : List Int, d = .lst (ms.map .int) ∧ ms.Pairwise (· < ·) ∧ ms.length ≤ 2 ∧ ∀ q, q ∈ ms ↔ 0 ≤ q ∧ Z q
theorem RtsD.congr {Z Z' : Int → Prop} {d : D} (h : RtsD Z d) (e : ∀ q, 0 ≤ q → (Z q ↔ Z' q)) : RtsD Z' d := by
  rcases h with ⟨h1, h2⟩ | ⟨ms, h1, h2, h3, h4⟩
  · exact .inl ⟨h1, fun q hq => (e q hq).1 (h2 q hq)⟩
  · exact .inr ⟨ms, h1, h2, h3, fun q => (h4 q).trans ⟨fun h => ⟨h.1, (e q h.1).1 h.2⟩, fun h => ⟨h.1, (e q h.1).2 h.2⟩⟩⟩
end DL

/-! DP12: how often a place is hit at one seat of a round. -/
namespace DL
end DL

/-! DP13: zeros of a curve found by halving. -/
namespace DL
/-- what tells the zeros from 0 to last -/
def ZsD (Z : Int → Prop) (last : Int) (d : D) : Prop := (d = .non ∧ ∀ q, 0 ≤ q → Z q) ∨ ∃ ms : List Int, d = .lst (ms.map .int) ∧ ms.Pairwise (· < ·) ∧ ms.length ≤ 2 ∧ ∀ q, q ∈ ms ↔ 0 ≤ q ∧ q ≤ last ∧ Z q
theorem ZsD.congr {Z Z' : Int → Prop} {last : Int} {d : D} (h : ZsD Z last d) (e : ∀ q, 0 ≤ q → (Z q ↔ Z' q)) : ZsD Z' last d := by
  rcases h with ⟨h1, h2⟩ | ⟨ms, h1, h2, h3, h4⟩
  · exact .inl ⟨h1, fun q hq => (e q hq).1 (h2 q hq)⟩
  · exact .inr ⟨ms, h1, h2, h3, fun q => by rw [h4 q]; exact ⟨fun z => ⟨z.1, z.2.1, (e q z.1).1 z.2.2⟩, fun z => ⟨z.1, z.2.1, (e q z.1).2 z.2.2⟩⟩⟩
end DL

namespace DL
open PySem L2
open PyProof.Rows hiding St
/-- the law's walk over a part of the heap that the Hook found -/
theorem walk_ofGE {l : PySem.W.OpenLaw} {k : Nat} {q : Program} {loose : List Str} {XP : (Str → Option Value) → Heap → Prop} {YP : World → Heap → Prop} {d : DefRec}
    (hn : l.most = some 63) (nodf : d.params.defaults = []) (room : Room k callerA)
    (F : ∀ (w : World) (mg : Str → Option Value) (fa : Addr) (h : Heap), YP w h → h.Ns mainGlobals mg → mg d.name = some (.ref fa) → ∃ K : PySem.W.Frag, K.In h ∧ DH.TabsThere K h ∧ ∀ base : Heap, K.In base → base.Ns mainGlobals mg → FnG l.prog w K mg base k fa (spLaw K)) :
    PySem.W.WalkO q loose XP YP l.row.toRowW d [] (fun f vs => PySem.call f vs) :=
  Att.attach_call hn nodf fun w s₀ s₁ mg mb fa o pm cd doc a vs ns G Y ho hd hcd hmg hobj hints hlen hg => by
    obtain ⟨K, KX, hT, hF⟩ := F w mg fa _ Y G.T.g hmg
    exact law_callGT KX hT G.T.g G.T.b G.T.builtins G.T.nolimit hg hobj hints (Nat.le_trans hlen (by decide)) room hF fun H hO hS => ⟨a, ns, rfl, hS, hlen, hO, fun _ => rfl⟩
/-- a maker of lambdas, by its fact -/
theorem tab_get {K : PySem.W.Frag} {h : Heap} {mg : Str → Option Value} {f : Addr} {q : Str} {oc : Value} {od : Option Addr} {fd : FuncData} {sl : Array (Option Value)} (X : K.In h) (G : h.Ns mainGlobals mg) (e : K.lookup f = some ⟨oc, od, .func fd, sl⟩) (b : DH.tabB K f q = true) :
    ∃ c P, TabX K mg fd.code c P q := by
  unfold DH.tabB at b
  rw [e] at b
  · have b : (match fd.code with
      | .ref c => PySem.W.codeHdIn K c (DH.tabA K f).2 && (((DL.TK K).any fun p => Nat.beq p.1 (DH.tabA K f).2 && (p.2 == q)) && (((DL.TK K).all fun p => !Nat.beq p.1 (DH.tabA K f).2 || (p.2 == q)) && (DH.bmB K (DH.tabA K f).2 && !Nat.beq mainGlobals (DH.tabA K f).2)))
      | _ => false) = true := b
    split at b
    · rename_i c ec
      simp only [Bool.and_eq_true] at b
      obtain ⟨b1, b2, b3, b4, b5⟩ := b
      refine ⟨c, (DH.tabA K f).2, ec, b1, ?_, fun p hp z => ?_, ?_, fun z => ?_⟩
      · obtain ⟨p, hp, e1⟩ := List.any_eq_true.mp b2
        simp only [Bool.and_eq_true, Nat.beq_eq, beq_iff_eq] at e1
        obtain ⟨p1, p2⟩ := p
        obtain ⟨rfl, rfl⟩ := e1
        exact hp
      · have e1 := List.all_eq_true.mp b3 p hp
        simp only [Bool.or_eq_true, Bool.not_eq_true', beq_iff_eq] at e1
        rcases e1 with e1 | e1
        · rw [z, Nat.beq_refl] at e1; cases e1
        · exact e1
      · unfold DH.bmB at b4
        split at b4
        · rename_i bm eb
          simp only [Bool.and_eq_true, Bool.not_eq_true'] at b4
          obtain ⟨n1, n2, n3, b4⟩ := b4
          split at b4
          · rename_i n d sl2 el
            simp only [Bool.and_eq_true, beq_iff_eq, Nat.beq_eq] at b4
            obtain ⟨rfl, rfl⟩ := b4
            exact ⟨bm, _, PySem.W.mg_of X G eb, (fun z => by rw [z, Nat.beq_refl] at n1; cases n1), (fun z => by rw [z, Nat.beq_refl] at n2; cases n2), (fun z => by rw [z, Nat.beq_refl] at n3; cases n3), el, rfl, rfl, rfl⟩
          · cases b4
        · cases b4
      · rw [z, Nat.beq_refl] at b5; cases b5
    · cases b
end DL

/-! the walk, printed by gen.py -/
namespace LAW
open PySem L2 DL
open PyProof.Rows hiding St
structure Tx (K : PySem.W.Frag) (mg : Str → Option Value) where
  C_Word : Addr
  ic_Word : IsCl K "Word" C_Word
  cl_Word : Cls K C_Word
  mc_Word : mg "Word" = some (.ref C_Word)
  sf_Word : PySem.W.selfFirst K C_Word = true
  rm_Word : PySem.W.findIn K (.ref C_Word) "__rmul__" = some none
  if_Word : IsiFA K C_Word
  na_Word_rows : NoAttr K C_Word "rows"
  C_PlainError : Addr
  ic_PlainError : IsCl K "PlainError" C_PlainError
  mc_PlainError : mg "PlainError" = some (.ref C_PlainError)
  C_InvalidState : Addr
  ic_InvalidState : IsCl K "InvalidState" C_InvalidState
  mc_InvalidState : mg "InvalidState" = some (.ref C_InvalidState)
  C_InvalidWord : Addr
  ic_InvalidWord : IsCl K "InvalidWord" C_InvalidWord
  mc_InvalidWord : mg "InvalidWord" = some (.ref C_InvalidWord)
  C_InvalidDeed : Addr
  ic_InvalidDeed : IsCl K "InvalidDeed" C_InvalidDeed
  mc_InvalidDeed : mg "InvalidDeed" = some (.ref C_InvalidDeed)
  xn_InvalidWord : XcN K mg "InvalidWord" C_InvalidWord
  xq_InvalidWord : ExcC K C_InvalidWord
  tk_PlainError : ∀ m b, ([("InvalidWord", true)] : List (Str × Bool)).lookup m = some b → ∀ D, IsCl K m D → PySem.W.exmOne K (.ref D) (.ref C_PlainError) = some b
  isX_InvalidWord : ∀ m b, ([("InvalidWord", true)] : List (Str × Bool)).lookup m = some b → ∀ D, IsCl K m D → ExcC K D ∧ PySem.W.kitOne K (.ref D) (.ref C_InvalidWord) = some b
  isB_ValueError : ∀ m b, ([("InvalidWord", true)] : List (Str × Bool)).lookup m = some b → ∀ D, IsCl K m D → ExcC K D ∧ PySem.W.kitOne K (.ref D) (.type "ValueError") = some b
  isT_0 : ∀ m b, ([("InvalidWord", false)] : List (Str × Bool)).lookup m = some b → ∀ D, IsCl K m D → ExcC K D ∧ PySem.W.kitAny K (.ref D) ([C_InvalidDeed, C_InvalidState].map Value.ref) = some b
  a_l_pen : Addr
  fd_l_pen : FuncData
  F_l_pen : FunG K "_law_pen" "_law_pen" s_l_pen a_l_pen fd_l_pen
  b_l_pen : Binds K fd_l_pen ["_law_script"] []
  m_l_pen : mg "_law_pen" = some (.ref a_l_pen)
  k_l_pen : PySem.W.keepIn K (.ref a_l_pen) = true
  a_is_entry : Addr
  fd_is_entry : FuncData
  F_is_entry : FunG K "is_entry" "is_entry" s_is_entry a_is_entry fd_is_entry
  b_is_entry : Binds K fd_is_entry ["value"] []
  m_is_entry : mg "is_entry" = some (.ref a_is_entry)
  k_is_entry : PySem.W.keepIn K (.ref a_is_entry) = true
  a_Word___init__ : Addr
  fd_Word___init__ : FuncData
  F_Word___init__ : FunG K "__init__" "Word.__init__" s_Word___init__ a_Word___init__ fd_Word___init__
  b_Word___init__ : ∀ us rest : List Value, us.length = (["self"] : List Str).length → bindArgs fd_Word___init__ ⟨us ++ rest, []⟩ = (newTuple rest >>= fun t => pure (List.zip (["self"] : List Str) us ++ [(("deeds" : Str), t)]))
  mk_Word : Mk K C_Word a_Word___init__
  a_Word___eq__ : Addr
  fd_Word___eq__ : FuncData
  F_Word___eq__ : FunG K "__eq__" "Word.__eq__" s_Word___eq__ a_Word___eq__ fd_Word___eq__
  b_Word___eq__ : Binds K fd_Word___eq__ ["self", "other"] []
  mt_Word___eq__ : Meth K C_Word "__eq__" a_Word___eq__
  ef_Word : EqFactsA K C_Word a_Word___eq__
  a_l_draw : Addr
  fd_l_draw : FuncData
  F_l_draw : FunG K "_law_draw" "_law_draw" s_l_draw a_l_draw fd_l_draw
  b_l_draw : Binds K fd_l_draw ["_law_pen_here", "_law_limit"] []
  m_l_draw : mg "_law_draw" = some (.ref a_l_draw)
  k_l_draw : PySem.W.keepIn K (.ref a_l_draw) = true
  a_Word_deeds : Addr
  fd_Word_deeds : FuncData
  F_Word_deeds : FunG K "deeds" "Word.deeds" s_Word_deeds a_Word_deeds fd_Word_deeds
  b_Word_deeds : Binds K fd_Word_deeds ["self"] []
  q_Word_deeds : Addr
  pr_Word_deeds : PropOf K C_Word "deeds" q_Word_deeds a_Word_deeds
  a_l_told : Addr
  fd_l_told : FuncData
  F_l_told : FunG K "_law_told" "_law_told" s_l_told a_l_told fd_l_told
  b_l_told : Binds K fd_l_told ["_law_ask"] []
  m_l_told : mg "_law_told" = some (.ref a_l_told)
  k_l_told : PySem.W.keepIn K (.ref a_l_told) = true
  a_l_made : Addr
  fd_l_made : FuncData
  F_l_made : FunG K "_law_made" "_law_made" s_l_made a_l_made fd_l_made
  b_l_made : Binds K fd_l_made ["_law_acts"] []
  m_l_made : mg "_law_made" = some (.ref a_l_made)
  k_l_made : PySem.W.keepIn K (.ref a_l_made) = true
  a_l_refused : Addr
  fd_l_refused : FuncData
  F_l_refused : FunG K "_law_refused" "_law_refused" s_l_refused a_l_refused fd_l_refused
  b_l_refused : Binds K fd_l_refused ["_law_pen_here"] []
  m_l_refused : mg "_law_refused" = some (.ref a_l_refused)
  k_l_refused : PySem.W.keepIn K (.ref a_l_refused) = true
  a_Word___add__ : Addr
  fd_Word___add__ : FuncData
  F_Word___add__ : FunG K "__add__" "Word.__add__" s_Word___add__ a_Word___add__ fd_Word___add__
  b_Word___add__ : Binds K fd_Word___add__ ["self", "other"] []
  mt_Word___add__ : Meth K C_Word "__add__" a_Word___add__
  gs_Word___add__ : PySem.W.findIn K (.ref C_Word) "__add__" = some (some (.ref a_Word___add__))
  gi_Word___add__ : PySem.W.isFn K (.ref a_Word___add__) = true
  a_l_word : Addr
  fd_l_word : FuncData
  F_l_word : FunG K "_law_word" "_law_word" s_l_word a_l_word fd_l_word
  b_l_word : Binds K fd_l_word ["_law_acts"] []
  m_l_word : mg "_law_word" = some (.ref a_l_word)
  k_l_word : PySem.W.keepIn K (.ref a_l_word) = true
  a_Word___len__ : Addr
  fd_Word___len__ : FuncData
  F_Word___len__ : FunG K "__len__" "Word.__len__" s_Word___len__ a_Word___len__ fd_Word___len__
  b_Word___len__ : Binds K fd_Word___len__ ["self"] []
  mt_Word___len__ : Meth K C_Word "__len__" a_Word___len__
  gs_Word___len__ : PySem.W.findIn K (.ref C_Word) "__len__" = some (some (.ref a_Word___len__))
  gi_Word___len__ : PySem.W.isFn K (.ref a_Word___len__) = true
  a_Word___getitem__ : Addr
  fd_Word___getitem__ : FuncData
  F_Word___getitem__ : FunG K "__getitem__" "Word.__getitem__" s_Word___getitem__ a_Word___getitem__ fd_Word___getitem__
  b_Word___getitem__ : Binds K fd_Word___getitem__ ["self", "number"] []
  mt_Word___getitem__ : Meth K C_Word "__getitem__" a_Word___getitem__
  gs_Word___getitem__ : PySem.W.findIn K (.ref C_Word) "__getitem__" = some (some (.ref a_Word___getitem__))
  gf_Word___getitem__ : PySem.W.fnIn K a_Word___getitem__ = true
  gi_Word___getitem__ : PySem.W.isFn K (.ref a_Word___getitem__) = true
  a_l_faces_right : Addr
  fd_l_faces_right : FuncData
  F_l_faces_right : FunG K "_law_faces_right" "_law_faces_right" s_l_faces_right a_l_faces_right fd_l_faces_right
  b_l_faces_right : Binds K fd_l_faces_right ["_law_pen_here", "_law_rhythm", "_law_acts"] []
  m_l_faces_right : mg "_law_faces_right" = some (.ref a_l_faces_right)
  k_l_faces_right : PySem.W.keepIn K (.ref a_l_faces_right) = true
  a_Word___mul__ : Addr
  fd_Word___mul__ : FuncData
  F_Word___mul__ : FunG K "__mul__" "Word.__mul__" s_Word___mul__ a_Word___mul__ fd_Word___mul__
  b_Word___mul__ : Binds K fd_Word___mul__ ["self", "number"] []
  mt_Word___mul__ : Meth K C_Word "__mul__" a_Word___mul__
  gs_Word___mul__ : PySem.W.findIn K (.ref C_Word) "__mul__" = some (some (.ref a_Word___mul__))
  gi_Word___mul__ : PySem.W.isFn K (.ref a_Word___mul__) = true
  tc_l_refused : Addr
  tp_l_refused : Addr
  tb_l_refused : TabX K mg fd_l_refused.code tc_l_refused tp_l_refused "_law_refused.<locals>.<lambda>"
  g_GREATEST_ENTRY : ∃ t, mg "GREATEST_ENTRY" = some (.int 4 t)
  g_MOST_ENTRIES : ∃ t, mg "MOST_ENTRIES" = some (.int 12 t)
  n_ValueError : mg "ValueError" = none
  n_abs : mg "abs" = none
  n_all : mg "all" = none
  n_bool : mg "bool" = none
  n_int : mg "int" = none
  n_isinstance : mg "isinstance" = none
  n_len : mg "len" = none
  n_list : mg "list" = none
  n_range : mg "range" = none
  n_repr : mg "repr" = none
  n_tuple : mg "tuple" = none
/-- _law_pen(_law_script); slots: 0 _law_script -/
def F_l_pen : FE :=
  (fDict (fKvs (fC (.str "cells")) (fN gList (fCons (fCut (fVar 0) oNone (oSome (fC (.int 63)))) fNil)) (fKvs (fC (.str "next")) (fC (.int 0)) (fKvs (fC (.str "rest")) (fC (.int 0)) fKvs0))))
def G_l_pen : DFn := fun ρ post xp => F_l_pen (ρ ++ List.replicate 0 none) (fun d ρ1 => post d (maskF [] 0 1 ρ1)) (fun c ρ1 => xp c (maskF [] 0 1 ρ1))
/-- is_entry(value); slots: 0 value -/
def F_is_entry : FS :=
  (fRet (fAndV (fN (gIsi .int) (fCons (fVar 0) (fCons (fC (.ty "int")) fNil))) (fAndV (fNotV (fN (gIsi .bool) (fCons (fVar 0) (fCons (fC (.ty "bool")) fNil)))) (fBin gLe (fN gAbs (fCons (fVar 0) fNil)) (fC (.int 4))))))
def G_is_entry : DFn := fun ρ post xp => F_is_entry (ρ ++ List.replicate 0 none) (endS [] 1 post xp)
/-- Word.__init__(self, deeds); slots: 0 self, 1 deeds, 2 deed -/
def F_Word___init__ : FS :=
  (fSeq (fIfS (fOr (fNot (fTest (fChain gLe gLe (fC (.int 1)) (fN gLen (fCons (fVar 1) fNil)) (fC (.int 12))))) (fNot (fTest (fN gAll (fCons (fLc (fSeqI (fVar 1)) [2] (gNm 2) tYesD (fCall G_is_entry [none] (oVal (fVar 2) oNil))) fNil)))))
    (fRaise0 "InvalidWord")
    fNext)
    (fPutF 0 "Word" "rows" (fVar 1)))
def G_Word___init__ : DFn := fun ρ post xp => F_Word___init__ (ρ ++ List.replicate 1 none) (endS [0] 2 post xp)
/-- Word.__eq__(self, other); slots: 0 self, 1 other -/
def F_Word___eq__ : FS :=
  (fRet (fAndV (fIsiOwnA "Word" (fVar 1)) (fBin gEqU (fUn (gFld "Word" "rows") (fVar 0)) (fUn (gFld "Word" "rows") (fVar 1)))))
def G_Word___eq__ : DFn := fun ρ post xp => F_Word___eq__ (ρ ++ List.replicate 0 none) (endS [] 2 post xp)
/-- _law_draw(_law_pen_here, _law_limit); slots: 0 _law_pen_here, 1 _law_limit, 2 _law_digit, 3 _law_turn, 4 _law_cell, 5 _law_whole, 6 _law_first, 7 _law_second -/
def F_l_draw : FS :=
  (fSeq (fIfS (fTest (fBin gGtU (fBinL gIx 0 (fC (.str "rest"))) (fC (.int 0))))
    (fSeq (fSet 2 (fBin gFmod (fBinL gIx 0 (fC (.str "rest"))) (fVar 1)))
    (fSeq (fPutO 0 (fBin gFdiv (fBinL gIx 0 (fC (.str "rest"))) (fVar 1)) (fC (.str "rest")))
    (fRet (fVar 2))))
    fNext)
    (fSeq (fSet 3 (fBinL gIx 0 (fC (.str "next"))))
    (fSeq (fPutO 0 (fBin gAdd (fVar 3) (fC (.int 1))) (fC (.str "next")))
    (fSeq (fSet 4 (fBin gAdd (fBin gMul (fC (.int 88007)) (fVar 3)) (fC (.int 613))))
    (fSeq (fIfS (fTest (fBin gNeU (fBinL gIx 0 (fC (.str "cells"))) (fLstE fNil)))
    (fSet 4 (fBin gIx (fBinL gIx 0 (fC (.str "cells"))) (fBin gFmod (fVar 3) (fN gLen (fCons (fBinL gIx 0 (fC (.str "cells"))) fNil)))))
    fNext)
    (fSeq (fIfS (fAnd (fTest (fBin gLt (fVar 3) (fN gLen (fCons (fBinL gIx 0 (fC (.str "cells"))) fNil)))) (fTest (fBin gGe (fN gAbs (fCons (fVar 4) fNil)) (fBin gPow (fC (.int 10)) (fC (.int 18))))))
    (fSeq (fSet 5 (fBin gAdd (fBin gMul (fC (.int 2)) (fN gAbs (fCons (fVar 4) fNil))) (fN gInt (fCons (fBin gLt (fVar 4) (fC (.int 0))) fNil))))
    (fSeq (fPutO 0 (fBin gFdiv (fVar 5) (fVar 1)) (fC (.str "rest")))
    (fRet (fBin gFmod (fVar 5) (fVar 1)))))
    fNext)
    (fSeq (fSet 6 (fBin gFmod (fBin gPow (fBin gAdd (fBin gAdd (fBin gFmod (fVar 4) (fC (.int 2147483629))) (fBin gMul (fC (.int 51071)) (fVar 3))) (fC (.int 29))) (fC (.int 5))) (fC (.int 2147483647))))
    (fSeq (fSet 7 (fBin gFmod (fBin gPow (fBin gAdd (fBin gAdd (fBin gMul (fVar 6) (fBin gAdd (fBin gMul (fC (.int 2)) (fVar 3)) (fC (.int 5)))) (fBin gMul (fBin gMul (fC (.int 60101)) (fVar 3)) (fVar 3))) (fC (.int 11))) (fC (.int 3))) (fC (.int 2147483563))))
    (fRet (fBin gFmod (fBin gFdiv (fVar 7) (fC (.int 32))) (fVar 1)))))))))))
def G_l_draw : DFn := fun ρ post xp => F_l_draw (ρ ++ List.replicate 6 none) (endS [0] 2 post xp)
/-- Word.deeds(self); slots: 0 self -/
def F_Word_deeds : FS :=
  (fRet (fUn (gFld "Word" "rows") (fVar 0)))
def G_Word_deeds : DFn := fun ρ post xp => F_Word_deeds (ρ ++ List.replicate 0 none) (endS [] 1 post xp)
/-- _law_told(_law_ask); slots: 0 _law_ask, 1 _law_caught, 2 error -/
def F_l_told (lf : Addr) (lp : Hp → Prop) (lh : Hole) : FS :=
  (fSeq (fSet 1 (fC .non))
    (fSeq (fTryKeep [("InvalidWord", true)] 2 1 (fRet (fProp "Word" G_Word_deeds (fAct 0 lf lp lh))))
    (fSeq (fIfS (fOr (fTest (fIsiX [("InvalidWord", false)] (fVar 1))) (fNot (fTest (fIsiX [("InvalidWord", true)] (fVar 1)))))
    (fRet (fC (.str "other")))
    fNext)
    (fRet (fBin gIx (fLstE (fCons (fC (.str "other")) (fCons (fC (.str "invalid")) fNil))) (fN gInt (fCons (fIsiX [("InvalidWord", true)] (fVar 1)) fNil)))))))
def G_l_told (lf : Addr) (lp : Hp → Prop) (lh : Hole) : DFn := fun ρ post xp => F_l_told lf lp lh (ρ ++ List.replicate 2 none) (endS [] 1 post xp)
/-- _law_made(_law_acts); slots: 0 _law_acts -/
def F_l_made : FS :=
  (fSeq (fIfS (fTest (fBin gEqU (fN gLen (fCons (fVar 0) fNil)) (fC (.int 0))))
    (fRet (fMakeS "Word" G_Word___init__ fNil))
    fNext)
    (fSeq (fIfS (fTest (fBin gEqU (fN gLen (fCons (fVar 0) fNil)) (fC (.int 1))))
    (fRet (fMakeS "Word" G_Word___init__ (fCons (fBin gIx (fVar 0) (fC (.int 0))) fNil)))
    fNext)
    (fSeq (fIfS (fTest (fBin gEqU (fN gLen (fCons (fVar 0) fNil)) (fC (.int 2))))
    (fRet (fMakeS "Word" G_Word___init__ (fCons (fBin gIx (fVar 0) (fC (.int 0))) (fCons (fBin gIx (fVar 0) (fC (.int 1))) fNil))))
    fNext)
    (fSeq (fIfS (fTest (fBin gEqU (fN gLen (fCons (fVar 0) fNil)) (fC (.int 3))))
    (fRet (fMakeS "Word" G_Word___init__ (fCons (fBin gIx (fVar 0) (fC (.int 0))) (fCons (fBin gIx (fVar 0) (fC (.int 1))) (fCons (fBin gIx (fVar 0) (fC (.int 2))) fNil)))))
    fNext)
    (fRet (fMakeS "Word" G_Word___init__ (fCons (fC (.int 1)) (fCons (fC (.int 1)) (fCons (fC (.int 1)) (fCons (fC (.int 1)) (fCons (fC (.int 1)) (fCons (fC (.int 1)) (fCons (fC (.int 1)) (fCons (fC (.int 1)) (fCons (fC (.int 1)) (fCons (fC (.int 1)) (fCons (fC (.int 1)) (fCons (fC (.int 1)) (fCons (fC (.int 1)) fNil)))))))))))))))))))
def G_l_made : DFn := fun ρ post xp => F_l_made (ρ ++ List.replicate 0 none) (endS [] 1 post xp)
/-- _law_refused(_law_pen_here); slots: 0 _law_pen_here, 1 _law_wrong, 2 _law_other, 3 _law_lots, 4 _law_acts -/
def F_l_refused : FS :=
  (fSeq (fSet 1 (fBin gIx (fLstE (fCons (fC (.int 5)) (fCons (fUn gNeg (fC (.int 5))) (fCons (fC (.bl true)) (fCons (fC (.bl false)) (fCons (fC .non) (fCons (fC (.str "1")) (fCons (fTupE (fCons (fC (.int 1)) fNil)) (fCons (fLstE (fCons (fC (.int 1)) fNil)) (fCons (fC (.dk [])) (fCons (fBin gPow (fC (.int 10)) (fC (.int 59))) (fCons (fC (.str "")) fNil)))))))))))) (fCall G_l_draw [some 0, none] (oOwn 0 (oVal (fC (.int 11)) oNil)))))
    (fSeq (fSet 2 (fBin gIx (fLstE (fCons (fC (.int 1)) (fCons (fC (.int 0)) (fCons (fUn gNeg (fC (.int 4))) (fCons (fC .non) (fCons (fC (.int 7)) fNil)))))) (fCall G_l_draw [some 0, none] (oOwn 0 (oVal (fC (.int 5)) oNil)))))
    (fSeq (fSet 3 (fLstE (fCons (fLstE fNil) (fCons (fLstE (fCons (fVar 1) fNil)) (fCons (fLstE (fCons (fVar 1) (fCons (fVar 2) fNil))) (fCons (fLstE (fCons (fC (.int 1)) (fCons (fVar 1) fNil))) (fCons (fLstE (fCons (fC (.int 4)) (fCons (fC (.int 0)) (fCons (fVar 1) fNil)))) (fCons (fLstE (fCons (fVar 2) (fCons (fVar 1) (fCons (fUn gNeg (fC (.int 4))) fNil)))) (fCons (fLstE (fCons (fTupE (fCons (fC (.int 1)) (fCons (fC (.int 2)) fNil))) fNil)) (fCons (fLstE (fCons (fLstE fNil) fNil)) (fCons (fBin gRepL (fLstE (fCons (fC (.int 1)) fNil)) (fC (.int 13))) fNil)))))))))))
    (fSeq (fFor (fSeqI (fVar 3)) (gNm 4)
    (fIfS (fTest (fBin gNeU (fCallL G_l_told [0] (fCall G_l_made [none] (oVal (fVar 4) oNil))) (fC (.str "invalid"))))
    (fRet (fC (.bl false)))
    fNext))
    (fRet (fC (.bl true)))))))
def G_l_refused : DFn := fun ρ post xp => F_l_refused (ρ ++ List.replicate 4 none) (endS [0] 1 post xp)
/-- Word.__add__(self, other); slots: 0 self, 1 other, 2 deeds -/
def F_Word___add__ : FS :=
  (fSeq (fSet 2 (fBin gAdd (fUn (gFld "Word" "rows") (fVar 0)) (fUn (gFld "Word" "rows") (fVar 1))))
    (fRet (fMakeS "Word" G_Word___init__ (fStar (fVar 2)))))
def G_Word___add__ : DFn := fun ρ post xp => F_Word___add__ (ρ ++ List.replicate 1 none) (endS [] 2 post xp)
/-- _law_word(_law_acts); slots: 0 _law_acts, 1 _law_found, 2 _law_act -/
def F_l_word : FS :=
  (fSeq (fSet 1 (fMakeS "Word" G_Word___init__ (fCons (fBin gIx (fVar 0) (fC (.int 0))) fNil)))
    (fSeq (fFor (fSeqI (fCut (fVar 0) (oSome (fC (.int 1))) oNone)) (gNm 2)
    (fSet 1 (fAddOwn "Word" G_Word___add__ (fVar 1) (fMakeS "Word" G_Word___init__ (fCons (fVar 2) fNil)))))
    (fRet (fVar 1))))
def G_l_word : DFn := fun ρ post xp => F_l_word (ρ ++ List.replicate 2 none) (endS [] 1 post xp)
/-- Word.__len__(self); slots: 0 self -/
def F_Word___len__ : FS :=
  (fRet (fN gLen (fCons (fUn (gFld "Word" "rows") (fVar 0)) fNil)))
def G_Word___len__ : DFn := fun ρ post xp => F_Word___len__ (ρ ++ List.replicate 0 none) (endS [] 1 post xp)
/-- Word.__getitem__(self, number); slots: 0 self, 1 number -/
def F_Word___getitem__ : FS :=
  (fRet (fBin gIx (fUn (gFld "Word" "rows") (fVar 0)) (fBin gFmod (fVar 1) (fN gLen (fCons (fUn (gFld "Word" "rows") (fVar 0)) fNil)))))
def G_Word___getitem__ : DFn := fun ρ post xp => F_Word___getitem__ (ρ ++ List.replicate 0 none) (endS [] 2 post xp)
/-- _law_faces_right(_law_pen_here, _law_rhythm, _law_acts); slots: 0 _law_pen_here, 1 _law_rhythm, 2 _law_acts, 3 _law_number, 4 _law_item -/
def F_l_faces_right : FS :=
  (fSeq (fIfS (fOr (fTest (fBin gNeU (fN gRepr (fCons (fProp "Word" G_Word_deeds (fVar 1)) fNil)) (fN gRepr (fCons (fN gTuple (fCons (fVar 2) fNil)) fNil)))) (fTest (fBin gNeU (fN gRepr (fCons (fLenOwn "Word" G_Word___len__ (fVar 1)) fNil)) (fN gRepr (fCons (fN gLen (fCons (fVar 2) fNil)) fNil)))))
    (fRet (fC (.bl false)))
    fNext)
    (fSeq (fFor (fSeqI (fBin gAdd (fListRg (fC (.int 15))) (fLstE (fCons (fCall G_l_draw [some 0, none] (oOwn 0 (oVal (fBin gAdd (fBin gPow (fC (.int 10)) (fC (.int 60))) (fC (.int 1))) oNil))) (fCons (fBin gPow (fC (.int 10)) (fC (.int 60))) fNil))))) (gNm 3)
    (fIfS (fTest (fBin gNeU (fN gRepr (fCons (fIxOwn "Word" G_Word___getitem__ (fVar 1) (fVar 3)) fNil)) (fN gRepr (fCons (fBin gIx (fVar 2) (fBin gFmod (fVar 3) (fN gLen (fCons (fVar 2) fNil)))) fNil))))
    (fRet (fC (.bl false)))
    fNext))
    (fSeq (fFor (fSeqI (fLstE (fCons (fProp "Word" G_Word_deeds (fVar 1)) (fCons (fN gList (fCons (fVar 2) fNil)) (fCons (fC .non) (fCons (fC (.int 0)) (fCons (fBin gIx (fVar 2) (fC (.int 0))) (fCons (fN gRepr (fCons (fProp "Word" G_Word_deeds (fVar 1)) fNil)) (fCons (fC (.dk [])) fNil))))))))) (gNm 4)
    (fIfS (fOr (fTest (fEqOwnA "Word" false G_Word___eq__ (fVar 1) (fVar 4))) (fOr (fTest (fEqOwnA "Word" false G_Word___eq__ (fVar 4) (fVar 1))) (fNot (fTest (fEqOwnA "Word" true G_Word___eq__ (fVar 1) (fVar 4))))))
    (fRet (fC (.bl false)))
    fNext))
    (fRet (fC (.bl true))))))
def G_l_faces_right : DFn := fun ρ post xp => F_l_faces_right (ρ ++ List.replicate 2 none) (endS [0] 3 post xp)
/-- Word.__mul__(self, number); slots: 0 self, 1 number, 2 deeds -/
def F_Word___mul__ : FS :=
  (fSeq (fIfS (fTest (fBin gGtU (fBin gMul (fVar 1) (fN gLen (fCons (fUn (gFld "Word" "rows") (fVar 0)) fNil))) (fC (.int 12))))
    (fRaise0 "InvalidWord")
    fNext)
    (fSeq (fSet 2 (fBin gMul (fUn (gFld "Word" "rows") (fVar 0)) (fVar 1)))
    (fRet (fMakeS "Word" G_Word___init__ (fStar (fVar 2))))))
def G_Word___mul__ : DFn := fun ρ post xp => F_Word___mul__ (ρ ++ List.replicate 1 none) (endS [] 2 post xp)
/-- law(_law_script); slots: 0 _law_script, 1 _law_pen_here, 2 _law_long, 3 _law_turn, 4 _law_size, 5 _law_acts, 6 _law_rhythm, 7 _law_more, 8 _law_other, 9 _law_due, 10 _law_many, 11 _law_doubled, 12 _law_seat -/
def F_law : FS :=
  (fSeq (fSetN 1 (fCall G_l_pen [none] (oVal (fVar 0) oNil)))
    (fSeq (fSet 2 (fMakeS "Word" G_Word___init__ (fCons (fC (.int 1)) (fCons (fC (.int 2)) (fCons (fC (.int 3)) (fCons (fC (.int 4)) (fCons (fUn gNeg (fC (.int 4))) (fCons (fUn gNeg (fC (.int 3))) (fCons (fUn gNeg (fC (.int 2))) (fCons (fUn gNeg (fC (.int 1))) (fCons (fC (.int 0)) (fCons (fC (.int 0)) (fCons (fC (.int 0)) (fCons (fC (.int 4)) fNil))))))))))))))
    (fSeq (fIfS (fOr (fTest (fEqOwnA "Word" false G_Word___eq__ (fMakeS "Word" G_Word___init__ (fCons (fC (.int 1)) fNil)) (fMakeS "Word" G_Word___init__ (fCons (fC (.int 1)) (fCons (fC (.int 1)) fNil))))) (fNot (fTest (fEqOwnA "Word" true G_Word___eq__ (fMakeS "Word" G_Word___init__ (fCons (fUn gNeg (fC (.int 2))) (fCons (fUn gNeg (fC (.int 2))) fNil))) (fMakeS "Word" G_Word___init__ (fCons (fUn gNeg (fC (.int 2))) fNil))))))
    (fRet (fC (.bl false)))
    fNext)
    (fSeq (fIfS (fOr (fNot (fTest (fCall G_l_refused [some 1] (oOwn 1 oNil)))) (fTest (fBin gNeU (fProp "Word" G_Word_deeds (fVar 2)) (fTupE (fCons (fC (.int 1)) (fCons (fC (.int 2)) (fCons (fC (.int 3)) (fCons (fC (.int 4)) (fCons (fUn gNeg (fC (.int 4))) (fCons (fUn gNeg (fC (.int 3))) (fCons (fUn gNeg (fC (.int 2))) (fCons (fUn gNeg (fC (.int 1))) (fCons (fC (.int 0)) (fCons (fC (.int 0)) (fCons (fC (.int 0)) (fCons (fC (.int 4)) fNil))))))))))))))))
    (fRet (fC (.bl false)))
    fNext)
    (fSeq (fFor (fRange1 (fCons (fC (.int 3)) fNil)) (gNm 3)
    (fSeq (fSet 4 (fBin gIx (fLstE (fCons (fC (.int 1)) (fCons (fC (.int 12)) (fCons (fBin gAdd (fC (.int 1)) (fCall G_l_draw [some 1, none] (oOwn 1 (oVal (fC (.int 12)) oNil)))) fNil)))) (fCall G_l_draw [some 1, none] (oOwn 1 (oVal (fC (.int 3)) oNil)))))
    (fSeq (fSet 5 (fLc (fRange1 (fCons (fVar 4) fNil)) [12] (gNm 12) tYesD (fBin gSub (fCall G_l_draw [some 1, none] (oOwn 1 (oVal (fC (.int 9)) oNil))) (fC (.int 4)))))
    (fSeq (fSet 6 (fCall G_l_word [none] (oVal (fVar 5) oNil)))
    (fSeq (fSet 7 (fLc (fRange1 (fCons (fBin gAdd (fC (.int 1)) (fCall G_l_draw [some 1, none] (oOwn 1 (oVal (fC (.int 12)) oNil)))) fNil)) [12] (gNm 12) tYesD (fBin gSub (fCall G_l_draw [some 1, none] (oOwn 1 (oVal (fC (.int 9)) oNil))) (fC (.int 4)))))
    (fSeq (fIfS (fNot (fTest (fCall G_l_faces_right [some 1, none, none] (oOwn 1 (oVal (fVar 6) (oVal (fVar 5) oNil))))))
    (fRet (fC (.bl false)))
    fNext)
    (fSeq (fSet 8 (fCall G_l_word [none] (oVal (fVar 7) oNil)))
    (fSeq (fSet 9 (fIf (fTest (fBin gLt (fBin gAdd (fVar 4) (fN gLen (fCons (fVar 7) fNil))) (fC (.int 13)))) (fN gTuple (fCons (fBin gAdd (fVar 5) (fVar 7)) fNil)) (fC (.str "invalid"))))
    (fSeq (fIfS (fOr (fTest (fBin gNeU (fCallL G_l_told [1] (fAddX "Word" G_Word___add__ (fVar 6) (fVar 8))) (fVar 9))) (fOr (fTest (fBin gNeU (fProp "Word" G_Word_deeds (fVar 6)) (fN gTuple (fCons (fVar 5) fNil)))) (fTest (fBin gNeU (fProp "Word" G_Word_deeds (fVar 8)) (fN gTuple (fCons (fVar 7) fNil))))))
    (fRet (fC (.bl false)))
    fNext)
    (fSeq (fSet 10 (fBin gIx (fLstE (fCons (fC (.int 1)) (fCons (fC (.int 2)) (fCons (fBin gAdd (fC (.int 1)) (fCall G_l_draw [some 1, none] (oOwn 1 (oVal (fC (.int 13)) oNil)))) (fCons (fC (.int 1000)) fNil))))) (fCall G_l_draw [some 1, none] (oOwn 1 (oVal (fC (.int 4)) oNil)))))
    (fSeq (fSet 9 (fIf (fTest (fBin gLt (fBin gMul (fVar 4) (fVar 10)) (fC (.int 13)))) (fBin gMul (fN gTuple (fCons (fVar 5) fNil)) (fVar 10)) (fC (.str "invalid"))))
    (fSeq (fIfS (fTest (fBin gNeU (fCallL G_l_told [1] (fMulX "Word" G_Word___mul__ (fVar 6) (fVar 10))) (fVar 9)))
    (fRet (fC (.bl false)))
    fNext)
    (fSeq (fSet 11 (fIf (fTest (fBin gLt (fVar 4) (fC (.int 7)))) (fAddX "Word" G_Word___add__ (fVar 6) (fVar 6)) (fVar 6)))
    (fSeq (fIfS (fOr (fTest (fBin gNeU (fEqOwnA "Word" false G_Word___eq__ (fVar 6) (fVar 11)) (fBin gGtU (fVar 4) (fC (.int 6))))) (fTest (fEqOwnA "Word" true G_Word___eq__ (fVar 6) (fMulX "Word" G_Word___mul__ (fVar 6) (fC (.int 1))))))
    (fRet (fC (.bl false)))
    fNext)
    (fIfS (fOr (fTest (fBin gNeU (fEqOwnA "Word" false G_Word___eq__ (fVar 6) (fVar 8)) (fBin gEqU (fVar 5) (fVar 7)))) (fOr (fTest (fBin gNeU (fEqOwnA "Word" true G_Word___eq__ (fVar 6) (fVar 8)) (fBin gNeU (fVar 5) (fVar 7)))) (fTest (fEqOwnA "Word" true G_Word___eq__ (fVar 6) (fCall G_l_word [none] (oVal (fVar 5) oNil))))))
    (fRet (fC (.bl false)))
    fNext)))))))))))))))
    (fRet (fC (.bl true))))))))
def G_law : DFn := fun ρ post xp => F_law (ρ ++ List.replicate 12 none) (endS [] 1 post xp)
def pen (cs : List D) (a r : Int) : D := .dk [(.inr "cells", .lst cs), (.inr "next", .int a), (.inr "rest", .int r)]
theorem pen_ok {ns : List Int} {post : Post} {xp : XP} (hn : ns.length ≤ 63) (q : post (pen (ns.map .int) 0 0) [none]) : G_l_pen [some (.slst (ns.map .int))] post xp := by
  have hcut : cutL (List.map D.int ns) none (some 63) = List.map D.int ns := cutL_all (n := 63) (by simpa using hn)
  unfold G_l_pen F_l_pen
  simp -dsimp [hcut]
  exact q
theorem log_smallW {m : Int} (hm : 1 ≤ m) (hm2 : m < 2 ^ 250) : m.natAbs.log2 < 9000 := by
  have : m.natAbs < 2 ^ 250 := by omega
  have := (Nat.log2_lt (by omega : m.natAbs ≠ 0)).mpr this
  omega
theorem draw_boundW {u q a : Int} {k : Int} (hu : 0 ≤ u) (hu2 : u < q) (hq : q ≤ 2147483648) (ha : 0 ≤ a) (ha2 : a ≤ 1000000) (hk : 0 ≤ k) (hk2 : k ≤ 1000000) : (u * (2 * a + 5) + k * a * a + 11).natAbs < 18446744073709551616 := by
  have h1 : u * (2 * a + 5) ≤ 2147483648 * 2000005 := Int.mul_le_mul (by omega) (by omega) (by omega) (by omega)
  have h2 : k * a ≤ 1000000 * 1000000 := Int.mul_le_mul hk2 ha2 ha (by omega)
  have h3 : k * a * a ≤ (1000000 * 1000000) * 1000000 := Int.mul_le_mul h2 ha2 ha (by omega)
  have h4 : 0 ≤ u * (2 * a + 5) := Int.mul_nonneg hu (by omega)
  have h5 : 0 ≤ k * a * a := Int.mul_nonneg (Int.mul_nonneg hk ha) ha
  omega
theorem draw_ok {ns : List Int} {a r m : Int} {post : Post} {xp : XP} (ha : 0 ≤ a) (ha2 : a ≤ 1000000) (hr : 0 ≤ r) (hm : 1 ≤ m) (hm2 : m < 2 ^ 250)
    (h : ∀ k a' r', 0 ≤ k → k < m → a ≤ a' → a' ≤ a + 1 → 0 ≤ r' → post (.int k) [some (pen (ns.map .int) a' r'), none]) : G_l_draw [some (pen (ns.map .int) a r), some (.int m)] post xp := by
  have m0 : m ≠ 0 := by omega
  have mp : 0 < m := by omega
  have ml := log_smallW hm hm2
  have n0 : ns ≠ [] → (ns.length : Int) ≠ 0 := fun q z => q (List.eq_nil_of_length_eq_zero (by omega))
  have n1 : ns ≠ [] → 0 < (ns.length : Int) := fun q => by have := n0 q; omega
  have fin : ∀ (x r' a' : Int), a ≤ a' → a' ≤ a + 1 → 0 ≤ r' → post (.int (x.fmod m)) [some (.dk [(.inr "cells", .lst (ns.map .int)), (.inr "next", .int a'), (.inr "rest", .int r')]), none] := fun x r' a' h1 h2 h3 => h _ _ _ (fmod_nn mp) (fmod_lt mp) h1 h2 h3
  unfold G_l_draw F_l_draw pen
  by_cases hr0 : 0 < r
  · simp [hr0, m0, ml]
    exact fin _ _ _ (by omega) (by omega) (fdiv_nn hr mp)
  · have bad : CMulO 51071 a ∧ ∀ x : Int, (x.fmod 2147483629 + 51071 * a + 29).natAbs < 18446744073709551616 ∧ CMulO 2 a ∧ CMulO (((x.fmod 2147483629 + 51071 * a + 29) ^ 5).fmod 2147483647) (2 * a + 5) ∧ CMulO 60101 a ∧ CMulO (60101 * a) a ∧
        (((x.fmod 2147483629 + 51071 * a + 29) ^ 5).fmod 2147483647 * (2 * a + 5) + 60101 * a * a + 11).natAbs < 18446744073709551616 ∧ Nat.log2 32 < 9000 :=
      ⟨cmul_l (by omega) (by omega), fun x => ⟨draw_sum (by omega) (by omega) (by omega) (by omega) (by omega) (by omega) (by omega) (by omega), cmul_l (by omega) (by omega), cmul_r (by omega) (by omega), cmul_l (by omega) (by omega), cmul_r (by omega) (by omega), draw_boundW (fmod_nn (by omega)) (fmod_lt (by omega)) (by omega) ha ha2 (by omega) (by omega), by decide⟩⟩
    obtain ⟨b1, b2⟩ := bad
    by_cases hc : ns = []
    · subst hc
      have ha' : ¬ a < 0 := by omega
      obtain ⟨b3, b4, b5, b6, b7, b8, b9⟩ := b2 (88007 * a + 613)
      simp [hr0, m0, ml, ha', b1, b3, b4, b5, b6, b7, b8, b9]
      exact ⟨cmul_l (by omega) (by omega), fin _ _ _ (by omega) (by omega) hr⟩
    · obtain ⟨c, hcx⟩ := atI_ex (a := ns) (i := a.fmod ns.length) (fmod_nn (n1 hc)) (fmod_lt (n1 hc))
      obtain ⟨b3, b4, b5, b6, b7, b8, b9⟩ := b2 c
      by_cases z : c < 0
      · simp [hr0, m0, ml, hc, hcx, n0 hc, z, b1, b3, b4, b5, b6, b7, b8, b9]
        refine ⟨cmul_l (by omega) (by omega), ?_⟩
        split
        · split
          · exact ⟨cmul_l (by omega) (by omega), fin _ _ _ (by omega) (by omega) (fdiv_nn (by omega) mp)⟩
          · exact fin _ _ _ (by omega) (by omega) hr
        · exact fin _ _ _ (by omega) (by omega) hr
      · simp [hr0, m0, ml, hc, hcx, n0 hc, z, b1, b3, b4, b5, b6, b7, b8, b9]
        refine ⟨cmul_l (by omega) (by omega), ?_⟩
        split
        · split
          · exact ⟨cmul_l (by omega) (by omega), fin _ _ _ (by omega) (by omega) (fdiv_nn (by omega) mp)⟩
          · exact fin _ _ _ (by omega) (by omega) hr
        · exact fin _ _ _ (by omega) (by omega) hr

theorem callD_eq (G : DFn) (vs : DL.Env) (post : Post) (xp : XP) (l : Lock post xp) : callD G vs post xp l = G vs post xp := rfl
theorem lookup_none {m : Str} : ∀ {fs : List (Str × D)}, (fs.lookup m = none) = ∀ f ∈ fs.map (·.1), m ≠ f
  | [] => by simp
  | (f, d) :: fs => by
    by_cases h : m = f
    · subst h; simp [List.lookup]
    · have : (m == f) = false := by simpa using h
      simp only [List.lookup, this, List.map_cons, List.mem_cons, forall_eq_or_imp]
      rw [lookup_none]; simp [h]
theorem cut1 (d : D) (ds : List D) : cutL (d :: ds) (some 1) none = ds := by
  unfold cutL
  simp [HT.sIx]
def wordD (ds : List Int) : D := .obj "Word" [("rows", .tup (ds.map .int))]
@[simp] theorem isObj_wordD (ds : List Int) : isObj "Word" (wordD ds) = True := by simp [wordD]
@[simp] theorem isObjM_wordD (m : Str) (ds : List Int) : isObjM "Word" m (wordD ds) = (m ≠ "rows") := by simp [wordD, lookup_none, -List.lookup_eq_none_iff]
@[simp ↓] theorem gFld_wrows (ds : List Int) (k) : gFld "Word" "rows" (wordD ds) k = k (.tup (ds.map .int)) := propext ⟨fun ⟨_, _, e, h⟩ => by cases e; exact h, fun h => ⟨rfl, _, rfl, h⟩⟩
structure Wo (ds : List Int) : Prop where
  h1 : 1 ≤ ds.length
  h12 : ds.length ≤ 12
  b : ∀ d ∈ ds, d.natAbs ≤ 4
theorem is_entry_ok {d : Int} {post : Post} {xp : XP} (h : d.natAbs ≤ 4) (q : post (.bl true) [none]) : G_is_entry [some (.int d)] post xp := by
  have h4 : (if d < 0 then -d else d) ≤ 4 := by split <;> omega
  unfold G_is_entry F_is_entry
  simp -dsimp [h4]
  exact q
theorem word_init_ok {ds : List Int} {post : Post} {xp : XP} (w : Wo ds) (q : post .non [some (wordD ds), none]) : G_Word___init__ [some (.obj "Word" []), some (.tup (ds.map .int))] post xp := by
  have h1 : (1 : Int) ≤ ds.length := by have := w.h1; omega
  have h4 : ¬ (12 : Int) < ds.length := by have := w.h12; omega
  have tr : (ds.map fun _ => true).all id = true := by simp
  have e : ds.map (fun _ => D.bl true) = (ds.map fun _ => true).map D.bl := by simp
  unfold G_Word___init__ F_Word___init__
  simp -dsimp [h1, h4]
  refine compL_as D.int (fun _ => .bl true) ds (by have := w.h12; omega) (fun v hv Pst h => ?_) ?_
  · simp -dsimp
    refine is_entry_ok (w.b v hv) (h _ ?_)
    simp
  simp -dsimp
  rw [e]
  refine gAll_bls ?_
  rw [tr]
  simp -dsimp
  exact q
theorem word_add_ok {ds es : List Int} {post : Post} {xp : XP} (w : Wo (ds ++ es)) (q : post (wordD (ds ++ es)) [none, none]) : G_Word___add__ [some (wordD ds), some (wordD es)] post xp := by
  unfold G_Word___add__ F_Word___add__
  simp -dsimp
  rw [← List.map_append]
  have h12 := w.h12
  rw [List.length_append] at h12
  refine ⟨by omega, _, .inl rfl, ?_⟩
  refine ⟨by simp only [List.length_map, List.length_append]; omega, ?_⟩
  refine word_init_ok w ?_
  exact ⟨rfl, _, rfl, q⟩
theorem word_len_ok {ds : List Int} {post : Post} {xp : XP} (q : post (.int ds.length) [none]) : G_Word___len__ [some (wordD ds)] post xp := by
  unfold G_Word___len__ F_Word___len__
  simp -dsimp
  exact q
theorem word_deeds_ok {ds : List Int} {post : Post} {xp : XP} (q : post (.tup (ds.map .int)) [none]) : G_Word_deeds [some (wordD ds)] post xp := by
  unfold G_Word_deeds F_Word_deeds
  simp -dsimp
  exact q
theorem wo_sub {ds es : List Int} (w : Wo (ds ++ es)) (h : 1 ≤ ds.length) : Wo ds := ⟨h, by have := w.h12; rw [List.length_append] at this; omega, fun d hd => w.b d (List.mem_append_left _ hd)⟩
theorem wo_one {ds : List Int} (w : Wo ds) {d : Int} (h : d ∈ ds) : Wo [d] := ⟨by simp, by simp, fun e he => by rw [List.mem_singleton] at he; rw [he]; exact w.b d h⟩
theorem word_init1_ok {x : Int} {post : Post} {xp : XP} (w : Wo [x]) (q : post .non [some (wordD [x]), none]) : G_Word___init__ [some (.obj "Word" []), some (.tup [.int x])] post xp := word_init_ok (ds := [x]) w q
theorem word_add1_ok {ds : List Int} {x : Int} {post : Post} {xp : XP} (w : Wo (ds ++ [x])) (q : post (wordD (ds ++ [x])) [none, none]) : G_Word___add__ [some (wordD ds), some (.obj "Word" [("rows", .tup [.int x])])] post xp := word_add_ok (es := [x]) w q
theorem lword_ok {ds : List Int} {post : Post} {xp : XP} (w : Wo ds) (q : post (wordD ds) [none]) : G_l_word [some (.lst (ds.map .int))] post xp := by
  obtain ⟨d, es, rfl⟩ : ∃ d es, ds = d :: es := by
    cases ds with
    | nil => have := w.h1; simp at this
    | cons d es => exact ⟨d, es, rfl⟩
  have ec : cutL ((d :: es).map D.int) (some 1) none = es.map D.int := cut1 _ _
  unfold G_l_word F_l_word
  simp -dsimp
  refine word_init1_ok (wo_one w (by simp)) ?_
  refine ⟨rfl, _, rfl, ?_⟩
  simp -dsimp
  rw [← List.map_cons, ec]
  refine loop_each (D.int) (fun rs ρ => ∃ (U : List Int) (x2 : Option D), d :: es = (d :: U) ++ rs ∧ ρ = [some (.lst ((d :: es).map .int)), some (wordD (d :: U)), x2]) (xs := es) ⟨[], _, rfl, rfl⟩ ?_ ?_
  · rintro x rs ρ N hN ⟨U, x2, e, rfl⟩
    have e2 : d :: es = (d :: (U ++ [x])) ++ rs := by rw [e]; simp
    simp -dsimp
    refine word_init1_ok (wo_one w (by rw [e]; simp)) ?_
    refine ⟨rfl, _, rfl, ?_⟩
    refine ⟨⟨_, rfl⟩, ⟨_, rfl⟩, ?_⟩
    refine word_add1_ok (ds := d :: U) (wo_sub (es := rs) (by rw [List.append_assoc]; simpa [e] using w) (by simp)) ?_
    refine ⟨⟨_, rfl⟩, ?_⟩
    exact hN _ ⟨U ++ [x], _, e2, rfl⟩
  · rintro ρ ⟨U, x2, e, rfl⟩
    rw [List.append_nil] at e
    rw [← e]
    simp -dsimp
    exact q

open PyProof.Rows (b2i)
/-! ### values that make a word, or not -/
def ent : D → Bool
  | .int i => decide (i.natAbs ≤ 4)
  | _ => false
/-- values the law tries -/
def Val (d : D) : Prop := (∃ i, d = .int i) ∨ d = .bl true ∨ d = .bl false ∨ d = .non ∨ (∃ z, d = .str z) ∨ (∃ l, d = .tup l) ∨ (∃ l, d = .lst l) ∨ d = .dk []
theorem entry_any {d : D} {post : Post} {xp : XP} (h : Val d) (q : post (.bl (ent d)) [none]) : G_is_entry [some d] post xp := by
  unfold G_is_entry F_is_entry
  rcases h with ⟨i, rfl⟩ | rfl | rfl | rfl | ⟨z, rfl⟩ | ⟨z, rfl⟩ | ⟨z, rfl⟩ | rfl
  · have e : decide ((if i < 0 then -i else i) ≤ 4) = decide (i.natAbs ≤ 4) := by
      by_cases h : i.natAbs ≤ 4
      · rw [decide_eq_true h, decide_eq_true (by split <;> omega)]
      · rw [decide_eq_false h, decide_eq_false (by split <;> omega)]
    unfold ent at q
    simp -dsimp
    rw [e]
    exact q
  all_goals (simp -dsimp; exact q)
def goodW (ds : List D) : Bool := decide (1 ≤ ds.length) && decide (ds.length ≤ 12) && ds.all ent
def anyD (ds : List D) : D := .obj "Word" [("rows", .tup ds)]
@[simp] theorem isObj_anyD (ds : List D) : isObj "Word" (anyD ds) = True := by simp [anyD]
theorem init_any {ds : List D} {post : Post} {xp : XP} (hl : ds.length ≤ 1000) (hv : ∀ d ∈ ds, Val d) (q : if goodW ds = true then post .non [some (anyD ds), none] else xp ⟨"InvalidWord", []⟩ [some (.obj "Word" []), none]) : G_Word___init__ [some (.obj "Word" []), some (.tup ds)] post xp := by
  have g1 : ∀ (d : D) (post : Post) (xp : XP), Val d → post (.bl (ent d)) [none] → G_is_entry [some d] post xp := fun d post xp h q => entry_any h q
  unfold G_Word___init__ F_Word___init__
  generalize G_is_entry = G1 at g1 ⊢
  simp -dsimp
  have bad : goodW ds = false → xp ⟨"InvalidWord", []⟩ [some (.obj "Word" []), none] := fun h => by
    rw [h] at q
    exact q
  by_cases h1 : 1 ≤ ds.length
  · rw [if_pos (by omega)]
    by_cases h2 : 12 < ds.length
    · rw [if_pos (by omega)]
      exact bad (by simp [goodW]; omega)
    · rw [if_neg (by omega)]
      have e0 : ds.map (fun d => d) = ds := by simp
      refine Eq.mp (congrArg (fun l => compK _ _ _ _ _ _ l _ _) e0) ?_
      refine compL_as (fun d : D => d) (fun d => .bl (ent d)) ds (by omega) (fun i hi Pst g => ?_) ?_
      · simp -dsimp
        exact Eq.mpr (callD_eq _ _ _ _ _) (g1 i _ _ (hv i hi) (g _ (by simp)))
      simp -dsimp
      have em : ds.map (fun i => D.bl (ent i)) = (ds.map ent).map D.bl := by rw [List.map_map]; rfl
      rw [em]
      refine gAll_bls ?_
      simp -dsimp only
      have ew : goodW ds = (ds.map ent).all id := by
        unfold goodW
        rw [decide_eq_true h1, decide_eq_true (by omega), Bool.true_and, Bool.true_and, List.all_map]
        rfl
      rw [← ew]
      exact q
  · rw [if_neg (by omega)]
    exact bad (by simp [goodW]; omega)
theorem init_no {ds : List D} {post : Post} {xp : XP} (hl : ds.length ≤ 1000) (hv : ∀ d ∈ ds, Val d) (hb : goodW ds = false) (q : xp ⟨"InvalidWord", []⟩ [some (.obj "Word" []), none]) : G_Word___init__ [some (.obj "Word" []), some (.tup ds)] post xp := by
  refine init_any hl hv ?_
  rw [hb]
  exact q
/-! ### what is told -/
theorem told_val {lf : Addr} {lp : Hp → Prop} {lh : Hole} {ds : List Int} {post : Post} {xp : XP} (hv : ∀ (k : D → Prop) (x : Exc → Prop), k (wordD ds) → lh k x) (q : post (.tup (ds.map .int)) [none]) : G_l_told lf lp lh [some (.lam lf lp)] post xp := by
  unfold G_l_told F_l_told
  simp -dsimp
  refine hv _ _ ?_
  refine ⟨by simp, ?_⟩
  refine Eq.mpr (callD_eq _ _ _ _ _) (word_deeds_ok ?_)
  exact q
theorem told_no {lf : Addr} {lp : Hp → Prop} {lh : Hole} {post : Post} {xp : XP} (hx : ∀ (k : D → Prop) (x : Exc → Prop), x ⟨"InvalidWord", []⟩ → lh k x) (q : post (.str "invalid") [none]) : G_l_told lf lp lh [some (.lam lf lp)] post xp := by
  unfold G_l_told F_l_told
  simp -dsimp
  refine hx _ _ ?_
  simp -dsimp
  refine Eq.mpr (kept_yes (by decide)) ?_
  exact q
/-! ### words that are made -/
theorem made_no {ds : List D} {post : Post} {xp : XP} (hv : ∀ d ∈ ds, Val d) (hb : goodW ds = false) (h3 : ds.length ≤ 3 ∨ ds.length = 13) (q : xp ⟨"InvalidWord", []⟩ [none]) : G_l_made [some (.lst ds)] post xp := by
  have g1 : ∀ (es : List D) (post : Post) (xp : XP), es.length ≤ 1000 → (∀ d ∈ es, Val d) → goodW es = false → xp ⟨"InvalidWord", []⟩ [some (.obj "Word" []), none] → G_Word___init__ [some (.obj "Word" []), some (.tup es)] post xp := fun es post xp a b c d => init_no a b c d
  unfold G_l_made F_l_made
  generalize G_Word___init__ = G1 at g1 ⊢
  match ds, hv, hb, h3 with
  | [], hv, hb, _ =>
    simp -dsimp
    exact Eq.mpr (callD_eq _ _ _ _ _) (g1 [] _ _ (by decide) hv hb q)
  | [a], hv, hb, _ =>
    simp -dsimp
    exact Eq.mpr (callD_eq _ _ _ _ _) (g1 [a] _ _ (by simp) hv hb q)
  | [a, b], hv, hb, _ =>
    simp -dsimp
    exact Eq.mpr (callD_eq _ _ _ _ _) (g1 [a, b] _ _ (by simp) hv hb q)
  | [a, b, c], hv, hb, _ =>
    simp -dsimp
    exact Eq.mpr (callD_eq _ _ _ _ _) (g1 [a, b, c] _ _ (by simp) hv hb q)
  | a :: b :: c :: d :: es, hv, hb, h3 =>
    have hl : es.length = 9 := by
      rcases h3 with h | h
      · simp at h
      · simp at h; omega
    have n0 : (a :: b :: c :: d :: es) ≠ [] := by simp
    have n1 : ¬ (((a :: b :: c :: d :: es).length : Int) = 1) := by simp only [List.length_cons]; omega
    have n2 : ¬ (((a :: b :: c :: d :: es).length : Int) = 2) := by simp only [List.length_cons]; omega
    have n3 : ¬ (((a :: b :: c :: d :: es).length : Int) = 3) := by simp only [List.length_cons]; omega
    generalize (a :: b :: c :: d :: es) = X at n0 n1 n2 n3 ⊢
    simp -dsimp [n0, n1, n2, n3]
    refine Eq.mpr (callD_eq _ _ _ _ _) (g1 (List.replicate 13 (.int 1)) _ _ (by decide) (fun d hd => ?_) (by decide) q)
    rw [List.eq_of_mem_replicate hd]
    exact .inl ⟨_, rfl⟩

open PyProof.Rows (b2i)
theorem atI_getD {l : List Int} {k : Nat} (h : k < l.length) : atI l (k : Int) = some (l.getD k 0) := by
  unfold atI ixN
  rw [if_pos (by omega), if_pos (by omega)]
  rw [List.getD_eq_getElem?_getD]
  simp [h]
theorem plDs_map {α : Type} (f : α → D) (l : List α) (n : Nat) (h : ∀ a, plD n (f a) = true) : plDs n (l.map f) = true := by
  rw [plDs_all, List.all_eq_true]
  intro d hd
  obtain ⟨a, _, rfl⟩ := List.mem_map.1 hd
  exact h a
theorem compL_inv {vs : List Nat} {g : FG} {E : FE} {post : Post} (Inv : List D → List D → DL.Env → Prop) (h0 : ∀ acc ρ, Inv [] acc ρ → post (.lst acc) ρ)
    (hs : ∀ d ds acc ρ (Pst : D → DL.Env → Prop), Inv (d :: ds) acc ρ → (∀ y ρ3, acc.length < 1000000 ∧ Inv ds (acc ++ [y]) (unwipe ρ ρ3 vs) → Pst y ρ3) → g d (wipeE ρ vs) fun ρ1 => E ρ1 Pst noX) : ∀ (ds acc : List D) (ρ : DL.Env), Inv ds acc ρ → compL vs g tYesD E post ds acc ρ
  | [], acc, ρ, i => h0 acc ρ i
  | d :: ds, acc, ρ, i => by
    unfold compL
    have := hs d ds acc ρ (fun y ρ3 => acc.length < 1000000 ∧ compL vs g tYesD E post ds (acc ++ [y]) (unwipe ρ ρ3 vs)) i fun y ρ3 ⟨l, i2⟩ => ⟨l, compL_inv Inv h0 hs ds (acc ++ [y]) _ i2⟩
    simpa [tYesD] using this
theorem log12 {n : Nat} (h1 : 1 ≤ n) (h : n ≤ 12) : n.log2 < 9000 := by
  have := (Nat.log2_lt (by omega : n ≠ 0)).mpr (show n < 2 ^ 10 by omega)
  omega
theorem fmod_nat (k n : Nat) : Int.fmod (k : Int) (n : Int) = ((k % n : Nat) : Int) := by
  rw [Int.fmod_eq_emod_of_nonneg _ (by omega)]
  exact (Int.natCast_emod _ _).symm
theorem word_m_ok {ds : List Int} {k : Nat} {post : Post} {xp : XP} (w : Wo ds) (q : post (.int (ds.getD (k % ds.length) 0)) [none, none]) : G_Word___getitem__ [some (wordD ds), some (.int k)] post xp := by
  have w1 := w.h1
  have w12 := w.h12
  have hlt : k % ds.length < ds.length := Nat.mod_lt _ (by omega)
  have lo := log12 w1 w12
  unfold G_Word___getitem__ F_Word___getitem__
  simp -dsimp
  rw [fmod_nat]
  exact ⟨fun z => by rw [z] at w1; simp at w1, _, atI_getD hlt, q⟩
theorem ro_row {ds : List Int} (w : Wo ds) : RO (.tup (ds.map .int)) 1 200 :=
  (RO.tup (dp := 0) (n := 2) fun d hd => by
    obtain ⟨i, hi, rfl⟩ := List.mem_map.1 hd
    exact RO.int (k := 1) (by decide) (by decide) (by have := w.b i hi; omega)).mono (by omega) (by rw [List.length_map]; have := w.h12; omega)
theorem rep_row {ds : List Int} (w : Wo ds) (K : D → Prop) : gRepr [.tup (ds.map .int)] K = K (.str (shw (.tup (ds.map .int)))) := gRepr_ro (ro_row w) (by decide) (by decide) K
theorem rep_i {i : Int} (h : i.natAbs < 10 ^ 4) (K : D → Prop) : gRepr [.int i] K = K (.str (shw (.int i))) := gRepr_ro (RO.int (k := 4) (by decide) (by decide) h) (by decide) (by decide) K
theorem eq_no {ds : List Int} {d : D} {post : Post} {xp : XP} (h : isOwnA "Word" d = some false) (q : post (.bl false) [none, none]) : G_Word___eq__ [some (wordD ds), some d] post xp := by
  unfold G_Word___eq__ F_Word___eq__
  simp -dsimp [h]
  exact q
theorem rows_inj : ∀ {a b : List Int}, a.map D.int = b.map D.int → a = b
  | [], [], _ => rfl
  | [], _ :: _, h => by simp at h
  | _ :: _, [], h => by simp at h
  | x :: a, y :: b, h => by
    rw [List.map_cons, List.map_cons, List.cons.injEq] at h
    obtain ⟨h1, h2⟩ := h
    rw [rows_inj h2, D.int.inj h1]
theorem pl_row (ds : List Int) (n : Nat) : plD (n + 2) (.tup (ds.map .int)) = true := by
  have := plDs_map D.int ds (n + 1) fun i => by simp [plD]
  simpa [plD] using this
theorem eq_rows (a b : List Int) (k) : gEqU (.tup (a.map .int)) (.tup (b.map .int)) k = k (.bl (decide (a = b))) := by
  rw [gEqU_pl (pl_row a 38) (pl_row b 38)]
  have e : (D.tup (a.map .int) = D.tup (b.map .int)) ↔ a = b := ⟨fun h => rows_inj (D.tup.inj h), fun h => by rw [h]⟩
  simp only [e]
theorem ne_rows (a b : List Int) (k) : gNeU (.tup (a.map .int)) (.tup (b.map .int)) k = k (.bl (!decide (a = b))) := by
  rw [gNeU_pl (pl_row a 38) (pl_row b 38)]
  have e : (D.tup (a.map .int) = D.tup (b.map .int)) ↔ a = b := ⟨fun h => rows_inj (D.tup.inj h), fun h => by rw [h]⟩
  simp only [e]
theorem pl_lrow (ds : List Int) (n : Nat) : plD (n + 2) (.lst (ds.map .int)) = true := by
  have := plDs_map D.int ds (n + 1) fun i => by simp [plD]
  simpa [plD] using this
theorem eq_lrows (a b : List Int) (k) : gEqU (.lst (a.map .int)) (.lst (b.map .int)) k = k (.bl (decide (a = b))) := by
  rw [gEqU_pl (pl_lrow a 38) (pl_lrow b 38)]
  have e : (D.lst (a.map .int) = D.lst (b.map .int)) ↔ a = b := ⟨fun h => rows_inj (D.lst.inj h), fun h => by rw [h]⟩
  simp only [e]
theorem ne_lrows (a b : List Int) (k) : gNeU (.lst (a.map .int)) (.lst (b.map .int)) k = k (.bl (!decide (a = b))) := by
  rw [gNeU_pl (pl_lrow a 38) (pl_lrow b 38)]
  have e : (D.lst (a.map .int) = D.lst (b.map .int)) ↔ a = b := ⟨fun h => rows_inj (D.lst.inj h), fun h => by rw [h]⟩
  simp only [e]
theorem eqw {a b : List Int} {post : Post} {xp : XP} (q : post (.bl (decide (a = b))) [none, none]) : G_Word___eq__ [some (wordD a), some (wordD b)] post xp := by
  have hi : isOwnA "Word" (wordD b) = some true := by simp [wordD, isOwnA, isOwn]
  unfold G_Word___eq__ F_Word___eq__
  simp -dsimp [hi]
  rw [eq_rows]
  exact q
theorem eqA {a b : List Int} {neg : Bool} {k : Bool → Prop} (h : k (decide (a = b))) : eqOwnA "Word" neg G_Word___eq__ (wordD a) (wordD b) k := .inl ⟨⟨_, rfl⟩, rfl, eqw h⟩
/-- a thing that is no word -/
def Item (d : D) : Prop := rightDA "Word" d ∧ leftDA false d ∧ isOwnA "Word" d = some false
theorem eqA_l {a : List Int} {d : D} {neg : Bool} {k : Bool → Prop} (hd : Item d) (h : k false) : eqOwnA "Word" neg G_Word___eq__ (wordD a) d k := .inl ⟨⟨_, rfl⟩, hd.1, eq_no hd.2.2 h⟩
theorem eqA_r {a : List Int} {d : D} {k : Bool → Prop} (hd : Item d) (h : k false) : eqOwnA "Word" false G_Word___eq__ d (wordD a) k := .inr ⟨hd.2.1, ⟨_, rfl⟩, eq_no hd.2.2 h⟩

open PyProof.Rows (b2i)
theorem draw_d {ns : List Int} : ∀ (a r m : Int) (post : Post) (xp : XP), 0 ≤ a → a ≤ 1000000 → 0 ≤ r → 1 ≤ m → m < 2 ^ 250 → (∀ k a' r', 0 ≤ k → k < m → a ≤ a' → a' ≤ a + 1 → 0 ≤ r' → post (.int k) [some (pen (ns.map .int) a' r'), none]) → G_l_draw [some (pen (ns.map .int) a r), some (.int m)] post xp :=
  fun a r m post xp h1 h2 h3 h4 h5 h6 => draw_ok h1 h2 h3 h4 h5 h6
theorem faces_ok {ns ds : List Int} {a r : Int} {post : Post} {xp : XP} (ha : 0 ≤ a) (ha2 : a ≤ 900000) (hr : 0 ≤ r) (w : Wo ds)
    (q : ∀ a' r', a ≤ a' → a' ≤ a + 1 → 0 ≤ r' → post (.bl true) [some (pen (ns.map .int) a' r'), none, none]) : G_l_faces_right [some (pen (ns.map .int) a r), some (wordD ds), some (.lst (ds.map .int))] post xp := by
  have w1 := w.h1
  have w12 := w.h12
  have dr := @draw_d ns
  have ne : ds.length ≠ 0 := by omega
  have rr := fun K => rep_row w K
  have rl := fun K => rep_i (i := ds.length) (by omega) K
  have lo := log12 w1 w12
  unfold G_l_faces_right F_l_faces_right
  generalize G_l_draw = G1 at dr ⊢
  generalize hB : (fFor _ _ _) = B2
  simp -dsimp
  refine Eq.mpr (callD_eq _ _ _ _ _) (word_deeds_ok ?_)
  simp -dsimp [rr]
  refine Eq.mpr (callD_eq _ _ _ _ _) (word_len_ok ?_)
  simp -dsimp [rl]
  refine ⟨by omega, ?_⟩
  subst hB
  simp -dsimp
  refine Eq.mpr (callD_eq _ _ _ _ _) (dr _ _ _ _ _ (by omega) (by omega) (by omega) (by decide) (by decide) fun k a1 r1 k0 k1 b1 b2 b3 => ?_)
  obtain ⟨k, rfl⟩ : ∃ n : Nat, k = n := ⟨k.toNat, by omega⟩
  simp -dsimp
  refine loop_inv (fun es ρ => (∀ d ∈ es, ∃ n : Nat, d = .int n) ∧ ∃ x3 x4, ρ = [some (pen (ns.map .int) a1 r1), some (wordD ds), some (.lst (ds.map .int)), x3, x4]) ?_ ?_ _ _ ⟨fun d hd => ?_, _, _, rfl⟩
  · rintro ρ ⟨_, x3, x4, rfl⟩
    simp -dsimp
    refine Eq.mpr (callD_eq _ _ _ _ _) (word_deeds_ok ?_)
    obtain ⟨c, hc⟩ := atI_ex (a := ds) (i := 0) (by omega) (by omega)
    simp -dsimp
    refine ⟨c, hc, ?_⟩
    refine Eq.mpr (callD_eq _ _ _ _ _) (word_deeds_ok ?_)
    simp -dsimp [rr]
    refine loop_inv (fun es ρ => (∀ d ∈ es, Item d) ∧ ∃ x3 x4, ρ = [some (pen (ns.map .int) a1 r1), some (wordD ds), some (.lst (ds.map .int)), x3, x4]) ?_ ?_ _ _ ⟨fun d hd => ?_, _, _, rfl⟩
    · rintro ρ ⟨_, x3, x4, rfl⟩
      simp -dsimp
      exact q _ _ b1 b2 b3
    · rintro d es ρ N hN ⟨hd, x3, x4, rfl⟩
      have it := hd d List.mem_cons_self
      simp -dsimp
      refine eqA_l it ?_
      simp -dsimp
      refine eqA_r it ?_
      simp -dsimp
      refine eqA_l it ?_
      simp -dsimp
      exact hN _ ⟨fun d h => hd d (List.mem_cons_of_mem _ h), _, _, rfl⟩
    · simp only [List.mem_cons, List.not_mem_nil, or_false] at hd
      rcases hd with rfl | rfl | rfl | rfl | rfl | rfl | rfl <;> exact ⟨trivial, trivial, rfl⟩
  · rintro d es ρ N hN ⟨hd, x3, x4, rfl⟩
    obtain ⟨n, rfl⟩ := hd d List.mem_cons_self
    have hlt : n % ds.length < ds.length := Nat.mod_lt _ (by omega)
    have hb : (ds.getD (n % ds.length) 0).natAbs < 10 ^ 4 := by
      have := w.b (ds.getD (n % ds.length) 0) (by rw [List.getD_eq_getElem?_getD, List.getElem?_eq_getElem hlt]; exact List.getElem_mem hlt)
      omega
    have e2 := atI_getD hlt
    rw [← fmod_nat] at e2
    have wm : ∀ (post : Post) (xp : XP), post (.int (ds.getD (n % ds.length) 0)) [none, none] → G_Word___getitem__ [some (wordD ds), some (.int n)] post xp := fun post xp q => word_m_ok w q
    have en : ds ≠ [] := fun z => by rw [z] at w1; simp at w1
    generalize ds.getD (n % ds.length) 0 = v at hb e2 wm
    have ri := fun K => rep_i hb K
    simp -dsimp
    refine Eq.mpr (callD_eq _ _ _ _ _) (wm _ _ ?_)
    simp -dsimp [ri, en]
    refine ⟨v, e2, ?_⟩
    simp -dsimp [ri]
    exact hN _ ⟨fun d h => hd d (List.mem_cons_of_mem _ h), _, _, rfl⟩
  · rcases List.mem_append.1 hd with h | h
    · obtain ⟨n, _, rfl⟩ := List.mem_map.1 h
      exact ⟨n, rfl⟩
    · simp only [List.mem_cons, List.not_mem_nil, or_false] at h
      rcases h with rfl | rfl
      · exact ⟨_, rfl⟩
      · exact ⟨10 ^ 60, rfl⟩

open PyProof.Rows (b2i)
/-- values of the lots -/
def Wrong (d : D) : Prop := d ∈ [D.int 5, .int (-5), .bl true, .bl false, .non, .str "1", .tup [.int 1], .lst [.int 1], .dk [], .int (10 ^ 59), .str ""]
def Oth (d : D) : Prop := d ∈ [D.int 1, .int 0, .int (-4), .non, .int 7]
theorem Wrong.val {d : D} (h : Wrong d) : Val d ∧ ent d = false := by
  unfold Wrong at h
  simp only [List.mem_cons, List.not_mem_nil, or_false] at h
  rcases h with rfl | rfl | rfl | rfl | rfl | rfl | rfl | rfl | rfl | rfl | rfl
  · exact ⟨.inl ⟨_, rfl⟩, by decide⟩
  · exact ⟨.inl ⟨_, rfl⟩, by decide⟩
  · exact ⟨.inr (.inl rfl), rfl⟩
  · exact ⟨.inr (.inr (.inl rfl)), rfl⟩
  · exact ⟨.inr (.inr (.inr (.inl rfl))), rfl⟩
  · exact ⟨.inr (.inr (.inr (.inr (.inl ⟨_, rfl⟩)))), rfl⟩
  · exact ⟨.inr (.inr (.inr (.inr (.inr (.inl ⟨_, rfl⟩))))), rfl⟩
  · exact ⟨.inr (.inr (.inr (.inr (.inr (.inr (.inl ⟨_, rfl⟩)))))), rfl⟩
  · exact ⟨.inr (.inr (.inr (.inr (.inr (.inr (.inr rfl)))))), rfl⟩
  · exact ⟨.inl ⟨_, rfl⟩, by decide⟩
  · exact ⟨.inr (.inr (.inr (.inr (.inl ⟨_, rfl⟩)))), rfl⟩
theorem Oth.val {d : D} (h : Oth d) : Val d := by
  unfold Oth at h
  simp only [List.mem_cons, List.not_mem_nil, or_false] at h
  rcases h with rfl | rfl | rfl | rfl | rfl
  · exact .inl ⟨_, rfl⟩
  · exact .inl ⟨_, rfl⟩
  · exact .inl ⟨_, rfl⟩
  · exact .inr (.inr (.inr (.inl rfl)))
  · exact .inl ⟨_, rfl⟩
/-- values that make no word -/
def Lot (ds : List D) : Prop := (∀ d ∈ ds, Val d) ∧ goodW ds = false ∧ (ds.length ≤ 3 ∨ ds.length = 13)
theorem vI (i : Int) : Val (.int i) := .inl ⟨_, rfl⟩
theorem refused_ok {ns : List Int} {a r : Int} {post : Post} {xp : XP} (ha : 0 ≤ a) (ha2 : a ≤ 900000) (hr : 0 ≤ r)
    (q : ∀ a' r', a ≤ a' → a' ≤ a + 2 → 0 ≤ r' → post (.bl true) [some (pen (ns.map .int) a' r')]) : G_l_refused [some (pen (ns.map .int) a r)] post xp := by
  have dr := @draw_d ns
  unfold G_l_refused F_l_refused
  generalize G_l_draw = G1 at dr ⊢
  simp -dsimp
  refine Eq.mpr (callD_eq _ _ _ _ _) (dr _ _ _ _ _ (by omega) (by omega) (by omega) (by decide) (by decide) fun k a1 r1 k0 k1 b1 b2 b3 => ?_)
  refine ix_drawn k0 (by simp; omega) fun w hw => ?_
  have hw : Wrong w := by simpa [Wrong] using hw
  simp -dsimp
  refine Eq.mpr (callD_eq _ _ _ _ _) (dr _ _ _ _ _ (by omega) (by omega) (by omega) (by decide) (by decide) fun k2 a2 r2 k20 k21 c1 c2 c3 => ?_)
  refine ix_drawn k20 (by simp; omega) fun o ho => ?_
  have ho : Oth o := by simpa [Oth] using ho
  obtain ⟨vw, ew⟩ := hw.val
  have vo := ho.val
  simp -dsimp
  refine loop_inv (fun es ρ => (∀ d ∈ es, ∃ ds, d = .lst ds ∧ Lot ds) ∧ ∃ x1 x2 x3 x4, ρ = [some (pen (ns.map .int) a2 r2), x1, x2, x3, x4]) ?_ ?_ _ _ ⟨fun d hd => ?_, _, _, _, _, rfl⟩
  · rintro ρ ⟨_, x1, x2, x3, x4, rfl⟩
    simp -dsimp
    exact q _ _ (by omega) (by omega) (by omega)
  · rintro d es ρ N hN ⟨hd, x1, x2, x3, x4, rfl⟩
    obtain ⟨ds, rfl, l1, l2, l3⟩ := hd d List.mem_cons_self
    simp -dsimp
    intro f φ
    refine Eq.mpr (callD_eq _ _ _ _ _) (told_no (fun k x hk => ?_) ?_)
    · simp -dsimp
      refine Eq.mpr (callD_eq _ _ _ _ _) (made_no l1 l2 l3 ?_)
      exact hk
    · simp -dsimp
      exact hN _ ⟨fun d h => hd d (List.mem_cons_of_mem _ h), _, _, _, _, rfl⟩
  · simp only [List.mem_cons, List.not_mem_nil, or_false] at hd
    rcases hd with rfl | rfl | rfl | rfl | rfl | rfl | rfl | rfl | rfl
    · exact ⟨_, rfl, by simp, rfl, .inl (by simp)⟩
    · exact ⟨_, rfl, by simpa using vw, by simp [goodW, ew], .inl (by simp)⟩
    · exact ⟨_, rfl, by simpa using ⟨vw, vo⟩, by simp [goodW, ew], .inl (by simp)⟩
    · exact ⟨_, rfl, by simpa using ⟨vI 1, vw⟩, by simp [goodW, ew], .inl (by simp)⟩
    · exact ⟨_, rfl, by simpa using ⟨vI 4, vI 0, vw⟩, by simp [goodW, ew], .inl (by simp)⟩
    · exact ⟨_, rfl, by simpa using ⟨vo, vw, vI (-4)⟩, by simp [goodW, ew], .inl (by simp)⟩
    · exact ⟨_, rfl, fun d hd => by rw [List.mem_singleton.1 hd]; exact .inr (.inr (.inr (.inr (.inr (.inl ⟨_, rfl⟩))))), rfl, .inl (by simp)⟩
    · exact ⟨_, rfl, fun d hd => by rw [List.mem_singleton.1 hd]; exact .inr (.inr (.inr (.inr (.inr (.inr (.inl ⟨_, rfl⟩)))))), rfl, .inl (by simp)⟩
    · refine ⟨_, rfl, fun d hd => ?_, by decide, .inr (by decide)⟩
      have e : d = .int 1 := by simpa using hd
      rw [e]
      exact vI 1
/-! ### + and * -/
theorem add_no {a b : List Int} {post : Post} {xp : XP} (wa : Wo a) (wb : Wo b) (hl : 12 < a.length + b.length) (q : xp ⟨"InvalidWord", []⟩ [none, none]) : G_Word___add__ [some (wordD a), some (wordD b)] post xp := by
  have a12 := wa.h12
  have b12 := wb.h12
  unfold G_Word___add__ F_Word___add__
  simp -dsimp
  rw [← List.map_append]
  refine ⟨by omega, _, .inl rfl, ?_⟩
  refine ⟨by simp only [List.length_map, List.length_append]; omega, ?_⟩
  refine Eq.mpr (callD_eq _ _ _ _ _) (init_no (by simp; omega) (fun d hd => ?_) ?_ q)
  · obtain ⟨i, _, rfl⟩ := List.mem_map.1 hd
    exact vI i
  · unfold goodW
    rw [decide_eq_false (p := ((a ++ b).map D.int).length ≤ 12) (by simp; omega)]
    simp
theorem rep_map (n : Nat) (a : List Int) : (List.replicate n (a.map D.int)).flatten = ((List.replicate n a).flatten).map D.int := by
  rw [List.map_flatten, List.map_replicate]
theorem rep_len (n : Nat) (a : List Int) : ((List.replicate n a).flatten).length = n * a.length := by
  simp
theorem wo_rep {a : List Int} (w : Wo a) {n : Nat} (h1 : 1 ≤ n) (h : n * a.length ≤ 12) : Wo (List.replicate n a).flatten := by
  refine ⟨?_, ?_, fun d hd => ?_⟩
  · rw [rep_len]
    exact Nat.mul_pos h1 w.h1
  · rw [rep_len]
    exact h
  · obtain ⟨l, hl, hd⟩ := List.mem_flatten.1 hd
    rw [List.eq_of_mem_replicate hl] at hd
    exact w.b d hd
theorem mul_ok {a : List Int} {n : Nat} {post : Post} {xp : XP} (w : Wo a) (h1 : 1 ≤ n) (h2 : n ≤ 1000) (h : n * a.length ≤ 12) (q : post (wordD (List.replicate n a).flatten) [none, none]) : G_Word___mul__ [some (wordD a), some (.int n)] post xp := by
  have a1 := w.h1
  have a12 := w.h12
  have hn : ¬ ((12 : Int) < (n : Int) * (a.length : Int)) := by
    have : ((n * a.length : Nat) : Int) ≤ 12 := by omega
    rw [Int.natCast_mul] at this
    omega
  have ne : a ≠ [] := fun z => by rw [z] at a1; simp at a1
  have tn : ((n : Int)).toNat = n := by simp
  have c1 : (1 : Int) ≤ n := by omega
  have c2 : (n : Int) ≤ 1000 := by omega
  have l12 : a.length ≤ 1000 := by omega
  unfold G_Word___mul__ F_Word___mul__
  simp -dsimp [hn, ne, c1, c2, l12]
  rw [rep_map]
  refine ⟨cmul_l (by omega) (by omega), _, .inl rfl, ?_⟩
  refine ⟨by rw [List.length_map, rep_len]; omega, ?_⟩
  refine Eq.mpr (callD_eq _ _ _ _ _) (word_init_ok (wo_rep w h1 h) ?_)
  exact ⟨rfl, _, rfl, q⟩
theorem mul_no {a : List Int} {n : Nat} {post : Post} {xp : XP} (w : Wo a) (h1 : 1 ≤ n) (h2 : n ≤ 1000) (h : 12 < n * a.length) (q : xp ⟨"InvalidWord", []⟩ [none, none]) : G_Word___mul__ [some (wordD a), some (.int n)] post xp := by
  have a1 := w.h1
  have a12 := w.h12
  have hn : (12 : Int) < (n : Int) * (a.length : Int) := by
    have : (12 : Int) < ((n * a.length : Nat) : Int) := by omega
    rw [Int.natCast_mul] at this
    exact this
  unfold G_Word___mul__ F_Word___mul__
  simp -dsimp [hn]
  exact ⟨cmul_l (by omega) (by omega), q⟩

open PyProof.Rows (b2i)
theorem law_ok : ∀ ns : List Int, ns.length ≤ 63 → G_law [some (.slst (ns.map D.int))] (fun d _ => d = .bl true) fun _ _ => False := by
  intro ns hn
  have dr := @draw_d ns
  have wl : Wo [1, 2, 3, 4, -4, -3, -2, -1, 0, 0, 0, 4] := ⟨by decide, by decide, by decide⟩
  have w1 : Wo [1] := ⟨by decide, by decide, by decide⟩
  have w11 : Wo [1, 1] := ⟨by decide, by decide, by decide⟩
  have w2 : Wo [-2] := ⟨by decide, by decide, by decide⟩
  have w22 : Wo [-2, -2] := ⟨by decide, by decide, by decide⟩
  unfold G_law F_law
  generalize G_l_draw = G1 at dr ⊢
  generalize hB : (fFor _ _ _) = B2
  simp -dsimp
  refine Eq.mpr (callD_eq _ _ _ _ _) (pen_ok hn ?_)
  simp -dsimp
  refine Eq.mpr (callD_eq _ _ _ _ _) (word_init_ok wl ⟨rfl, _, rfl, ?_⟩)
  simp -dsimp
  refine Eq.mpr (callD_eq _ _ _ _ _) (word_init_ok w1 ⟨rfl, _, rfl, ?_⟩)
  simp -dsimp
  refine Eq.mpr (callD_eq _ _ _ _ _) (word_init_ok w11 ⟨rfl, _, rfl, ?_⟩)
  refine eqA (a := [1]) (b := [1, 1]) ?_
  simp -dsimp
  refine Eq.mpr (callD_eq _ _ _ _ _) (word_init_ok w22 ⟨rfl, _, rfl, ?_⟩)
  simp -dsimp
  refine Eq.mpr (callD_eq _ _ _ _ _) (word_init_ok w2 ⟨rfl, _, rfl, ?_⟩)
  refine eqA (a := [-2, -2]) (b := [-2]) ?_
  simp -dsimp
  refine Eq.mpr (callD_eq _ _ _ _ _) (refused_ok (by omega) (by omega) (by omega) fun a r _ a2 hr => ?_)
  simp -dsimp
  have eL := ne_rows [1, 2, 3, 4, -4, -3, -2, -1, 0, 0, 0, 4] [1, 2, 3, 4, -4, -3, -2, -1, 0, 0, 0, 4]
  simp only [List.map] at eL
  refine Eq.mpr (callD_eq _ _ _ _ _) (word_deeds_ok (ds := [1, 2, 3, 4, -4, -3, -2, -1, 0, 0, 0, 4]) ?_)
  simp -dsimp [eL]
  subst hB
  simp -dsimp
  refine loop_range (n := 3) (fun j ρ => ∃ (a r : Int) (x2 x3 x4 x5 x6 x7 x8 x9 x10 x11 x12 : Option D), 0 ≤ a ∧ a ≤ 100 + 100 * j ∧ 0 ≤ r ∧
    ρ = [some (.slst (ns.map .int)), some (pen (ns.map .int) a r), x2, x3, x4, x5, x6, x7, x8, x9, x10, x11, x12]) ⟨a, r, _, _, _, _, _, _, _, _, _, _, _, by omega, by omega, by omega, rfl⟩ ?_ ?_
  · rintro j ρ N hj hN ⟨a, r, x2, x3, x4, x5, x6, x7, x8, x9, x10, x11, x12, h1, h2, h3, rfl⟩
    generalize hB : (fSeq (fSet 6 _) _) = B2
    simp -dsimp
    refine Eq.mpr (callD_eq _ _ _ _ _) (dr _ _ _ _ _ (by omega) (by omega) (by omega) (by decide) (by decide) fun k a1 r1 k0 k1 b1 b2 b3 => ?_)
    simp -dsimp
    refine Eq.mpr (callD_eq _ _ _ _ _) (dr _ _ _ _ _ (by omega) (by omega) (by omega) (by decide) (by decide) fun k2 a2 r2 k20 k21 c1 c2 c3 => ?_)
    refine ix_drawn k20 (by simp; omega) fun d hd => ?_
    obtain ⟨n, rfl, n1, n12⟩ : ∃ n : Nat, d = .int n ∧ 1 ≤ n ∧ n ≤ 12 := by
      simp only [List.mem_cons, List.not_mem_nil, or_false] at hd
      rcases hd with rfl | rfl | rfl
      · exact ⟨1, rfl, by decide, by decide⟩
      · exact ⟨12, rfl, by decide, by decide⟩
      · exact ⟨(1 + k).toNat, by rw [Int.toNat_of_nonneg (by omega)], by omega, by omega⟩
    simp -dsimp
    refine ⟨by omega, ?_⟩
    refine compL_inv (fun ds acc ρ => ∃ (c : List Int) (a' r' : Int), acc = c.map .int ∧ c.length + ds.length = n ∧ (∀ i ∈ c, i.natAbs ≤ 4) ∧ a2 ≤ a' ∧ a' ≤ a2 + c.length ∧ 0 ≤ r' ∧ ρ = [some (.slst (ns.map .int)), some (pen (ns.map .int) a' r'), x2, some (.int j), some (.int n), x5, x6, x7, x8, x9, x10, x11, x12]) ?_ ?_ _ _ _
      ⟨[], a2, r2, rfl, by simp, (fun _ h => by cases h), by omega, by simp, by omega, rfl⟩
    rotate_left
    · rintro d es acc ρ Pst ⟨c, a3, r3, rfl, lc, bc, d1, d2, d3, rfl⟩ g
      simp only [List.length_cons] at lc
      simp -dsimp
      refine Eq.mpr (callD_eq _ _ _ _ _) (dr _ _ _ _ _ (by omega) (by omega) (by omega) (by decide) (by decide) fun x a4 r4 x0 x1 _ _ _ => ?_)
      simp -dsimp
      refine g _ _ ⟨by simp; omega, c ++ [x - 4], a4, r4, by simp, by simp; omega, fun i hi => ?_, by omega, by simp; omega, by omega, by simp⟩
      rcases List.mem_append.1 hi with hi | hi
      · exact bc i hi
      · rw [List.mem_singleton.1 hi]
        omega
    rintro acc ρ ⟨A, a3, r3, rfl, lA, bA, d1, d2, d3, rfl⟩
    simp only [List.length_nil] at lA
    have wA : Wo A := ⟨by omega, by omega, bA⟩
    subst hB
    generalize hB : (fSeq (fSet 7 _) _) = B2
    simp -dsimp
    refine Eq.mpr (callD_eq _ _ _ _ _) (lword_ok wA ?_)
    subst hB
    generalize hB : (fSeq (fIfS _ _ _) _) = B2
    simp -dsimp
    refine Eq.mpr (callD_eq _ _ _ _ _) (dr _ _ _ _ _ (by omega) (by omega) (by omega) (by decide) (by decide) fun k a4 r4 k0 k1 e1 e2 e3 => ?_)
    obtain ⟨m, rfl⟩ : ∃ m : Nat, k = m := ⟨k.toNat, by omega⟩
    simp -dsimp
    refine ⟨by omega, ?_⟩
    have em : ((1 + (m : Int)).toNat) = m + 1 := by omega
    rw [em]
    refine compL_inv (fun ds acc ρ => ∃ (c : List Int) (a' r' : Int), acc = c.map .int ∧ c.length + ds.length = m + 1 ∧ (∀ i ∈ c, i.natAbs ≤ 4) ∧ a4 ≤ a' ∧ a' ≤ a4 + c.length ∧ 0 ≤ r' ∧ ρ = [some (.slst (ns.map .int)), some (pen (ns.map .int) a' r'), x2, some (.int j), some (.int n), some (.lst (A.map .int)), some (wordD A), x7, x8, x9, x10, x11, x12]) ?_ ?_ _ _ _
      ⟨[], a4, r4, rfl, by simp, (fun _ h => by cases h), by omega, by simp, by omega, rfl⟩
    rotate_left
    · rintro d es acc ρ Pst ⟨c, a5, r5, rfl, lc, bc, f1, f2, f3, rfl⟩ g
      simp only [List.length_cons] at lc
      simp -dsimp
      refine Eq.mpr (callD_eq _ _ _ _ _) (dr _ _ _ _ _ (by omega) (by omega) (by omega) (by decide) (by decide) fun x a6 r6 x0 x1 _ _ _ => ?_)
      simp -dsimp
      refine g _ _ ⟨by simp; omega, c ++ [x - 4], a6, r6, by simp, by simp; omega, fun i hi => ?_, by omega, by simp; omega, by omega, by simp⟩
      rcases List.mem_append.1 hi with hi | hi
      · exact bc i hi
      · rw [List.mem_singleton.1 hi]
        omega
    rintro acc ρ ⟨M, a5, r5, rfl, lM, bM, f1, f2, f3, rfl⟩
    simp only [List.length_nil] at lM
    have wM : Wo M := ⟨by omega, by omega, bM⟩
    subst hB
    generalize hB : (fSeq (fSet 8 _) _) = B2
    simp -dsimp
    refine Eq.mpr (callD_eq _ _ _ _ _) (faces_ok (by omega) (by omega) (by omega) wA fun a6 r6 g1 g2 g3 => ?_)
    subst hB
    generalize hB : (fSeq (fIfS _ _ _) _) = B2
    simp -dsimp
    refine Eq.mpr (callD_eq _ _ _ _ _) (lword_ok wM ?_)
    have lA' : A.length = n := by omega
    have ea : List.map D.int A ++ List.map D.int M = (A ++ M).map D.int := by simp
    have add_yes : Wo (A ++ M) → ∀ (post : Post) (xp : XP), post (wordD (A ++ M)) [none, none] → G_Word___add__ [some (wordD A), some (wordD M)] post xp := fun w post xp q => word_add_ok w q
    have add_no' : 12 < A.length + M.length → ∀ (post : Post) (xp : XP), xp ⟨"InvalidWord", []⟩ [none, none] → G_Word___add__ [some (wordD A), some (wordD M)] post xp := fun h post xp q => add_no wA wM h q
    have gd : ∀ (ds : List Int) (post : Post) (xp : XP), post (.tup (ds.map .int)) [none] → G_Word_deeds [some (wordD ds)] post xp := fun ds post xp q => word_deeds_ok q
    subst hB
    generalize hB : (fSeq (fSet 10 _) _) = B2
    have tail : ∀ (S : SPo) (x9 x10 x11 x12 : Option D), (∀ (a' r' : Int) (y9 y10 y11 y12 : Option D), a6 ≤ a' → a' ≤ a6 + 2 → 0 ≤ r' → S.nx [some (.slst (ns.map .int)), some (pen (ns.map .int) a' r'), x2, some (.int j), some (.int n), some (.lst (A.map .int)), some (wordD A), some (.lst (M.map .int)), some (wordD M), y9, y10, y11, y12]) →
        B2 [some (.slst (ns.map .int)), some (pen (ns.map .int) a6 r6), x2, some (.int j), some (.int n), some (.lst (A.map .int)), some (wordD A), some (.lst (M.map .int)), some (wordD M), x9, x10, x11, x12] S := by
      intro S x9 x10 x11 x12 hS
      subst hB
      generalize hB : (fSeq (fSet 11 _) _) = B2
      simp -dsimp
      refine Eq.mpr (callD_eq _ _ _ _ _) (dr _ _ _ _ _ (by omega) (by omega) (by omega) (by decide) (by decide) fun k a7 r7 k0 k1 i1 i2 i3 => ?_)
      simp -dsimp
      refine Eq.mpr (callD_eq _ _ _ _ _) (dr _ _ _ _ _ (by omega) (by omega) (by omega) (by decide) (by decide) fun k2 a8 r8 k20 k21 j1 j2 j3 => ?_)
      refine ix_drawn k20 (by simp; omega) fun d hd => ?_
      obtain ⟨q, rfl, q1, q2⟩ : ∃ q : Nat, d = .int q ∧ 1 ≤ q ∧ q ≤ 1000 := by
        simp only [List.mem_cons, List.not_mem_nil, or_false] at hd
        rcases hd with rfl | rfl | rfl | rfl
        · exact ⟨1, rfl, by decide, by decide⟩
        · exact ⟨2, rfl, by decide, by decide⟩
        · exact ⟨(1 + k).toNat, by rw [Int.toNat_of_nonneg (by omega)], by omega, by omega⟩
        · exact ⟨1000, rfl, by decide, by decide⟩
      have enq : (n : Int) * (q : Int) = ((q * A.length : Nat) : Int) := by rw [lA', Nat.mul_comm, Int.natCast_mul]
      have ne : A ≠ [] := fun z => by rw [z] at lA'; simp at lA'; omega
      have tn : ((q : Int)).toNat = q := by simp
      have c1 : (1 : Int) ≤ q := by omega
      have c2 : (q : Int) ≤ 1000 := by omega
      have l12 : A.length ≤ 1000 := by omega
      have mul_y : q * A.length ≤ 12 → ∀ (post : Post) (xp : XP), post (wordD (List.replicate q A).flatten) [none, none] → G_Word___mul__ [some (wordD A), some (.int q)] post xp := fun h post xp g => mul_ok wA q1 q2 h g
      have mul_n : 12 < q * A.length → ∀ (post : Post) (xp : XP), xp ⟨"InvalidWord", []⟩ [none, none] → G_Word___mul__ [some (wordD A), some (.int q)] post xp := fun h post xp g => mul_no wA q1 q2 h g
      simp -dsimp
      refine ⟨cmul_l (by omega) (by omega), ?_⟩
      rw [enq]
      have tail2 : ∀ (x9 x11 x12 : Option D), B2 [some (.slst (ns.map .int)), some (pen (ns.map .int) a8 r8), x2, some (.int j), some (.int n), some (.lst (A.map .int)), some (wordD A), some (.lst (M.map .int)), some (wordD M), x9, some (.int q), x11, x12] S := by
        intro x9 x11 x12
        subst hB
        generalize hB : (fSeq (fIfS (fOr (fTest (fBin gNeU (fEqOwnA _ _ _ _ _) (fBin gGtU _ _))) _) _ _) _) = B2
        have mul1 : ∀ (post : Post) (xp : XP), post (wordD A) [none, none] → G_Word___mul__ [some (wordD A), some (.int 1)] post xp := fun post xp g => by
          have e1 : (List.replicate 1 A).flatten = A := by simp
          have := mul_ok (n := 1) (post := post) (xp := xp) wA (by decide) (by decide) (by omega) (by rw [e1]; exact g)
          exact this
        have tail3 : ∀ (DD : List Int) (x12 : Option D), decide (A = DD) = decide (6 < (n : Int)) → B2 [some (.slst (ns.map .int)), some (pen (ns.map .int) a8 r8), x2, some (.int j), some (.int n), some (.lst (A.map .int)), some (wordD A), some (.lst (M.map .int)), some (wordD M), x9, some (.int q), some (wordD DD), x12] S := by
          intro DD x12 hD
          subst hB
          simp -dsimp
          refine eqA ?_
          rw [hD]
          simp -dsimp
          refine Eq.mpr (callD_eq _ _ _ _ _) (mul1 _ _ ⟨by simp, ?_⟩)
          refine eqA ?_
          simp -dsimp
          refine eqA ?_
          simp -dsimp [eq_lrows, ne_lrows]
          refine eqA ?_
          rw [if_pos rfl]
          refine Eq.mpr (callD_eq _ _ _ _ _) (lword_ok wA ?_)
          refine eqA ?_
          simp -dsimp
          exact hS _ _ _ _ _ _ (by omega) (by omega) (by omega)
        simp -dsimp
        by_cases h7 : (n : Int) < 7
        · rw [if_pos h7]
          have wAA : Wo (A ++ A) := ⟨by simp; omega, by simp; omega, fun i hi => (List.mem_append.1 hi).elim (bA i) (bA i)⟩
          refine Eq.mpr (callD_eq _ _ _ _ _) (word_add_ok wAA ⟨by simp, ?_⟩)
          simp -dsimp
          refine tail3 _ _ ?_
          rw [decide_eq_false (p := (6 : Int) < n) (by omega), decide_eq_false]
          intro z
          have := congrArg List.length z
          rw [List.length_append] at this
          omega
        · rw [if_neg h7]
          refine tail3 _ _ ?_
          rw [decide_eq_true (p := (6 : Int) < n) (by omega), decide_eq_true rfl]
      by_cases hs : q * A.length < 13
      · rw [if_pos (by omega)]
        simp -dsimp [ne, c1, c2, l12]
        intro f φ
        refine Eq.mpr (callD_eq _ _ _ _ _) (told_val (ds := (List.replicate q A).flatten) (fun k x hk => ?_) ?_)
        · simp -dsimp
          exact Eq.mpr (callD_eq _ _ _ _ _) (mul_y (by omega) _ _ ⟨by simp, hk⟩)
        · simp -dsimp [-List.map_flatten, rep_map, ne_rows]
          exact tail2 _ _ _
      · rw [if_neg (by omega)]
        intro f φ
        refine Eq.mpr (callD_eq _ _ _ _ _) (told_no (fun k x hk => ?_) ?_)
        · simp -dsimp
          exact Eq.mpr (callD_eq _ _ _ _ _) (mul_n (by omega) _ _ hk)
        · simp -dsimp
          exact tail2 _ _ _
    simp -dsimp
    by_cases hs : (n : Int) + (M.length : Int) < 13
    · rw [if_pos hs]
      have wAM : Wo (A ++ M) := ⟨by simp; omega, by simp; omega, fun i hi => (List.mem_append.1 hi).elim (bA i) (bM i)⟩
      refine ⟨by omega, ?_⟩
      rw [ea]
      intro f φ
      refine Eq.mpr (callD_eq _ _ _ _ _) (told_val (ds := A ++ M) (fun k x hk => ?_) ?_)
      · simp -dsimp
        exact Eq.mpr (callD_eq _ _ _ _ _) (add_yes wAM _ _ ⟨by simp, hk⟩)
      · simp -dsimp [-List.map_append, ne_rows]
        refine Eq.mpr (callD_eq _ _ _ _ _) (gd A _ _ ?_)
        simp -dsimp [ne_rows]
        refine Eq.mpr (callD_eq _ _ _ _ _) (gd M _ _ ?_)
        simp -dsimp [ne_rows]
        exact tail _ _ _ _ _ fun a' r' y9 y10 y11 y12 i1 i2 i3 => hN _ ⟨a', r', _, _, _, _, _, _, _, _, _, _, _, by omega, by omega, by omega, rfl⟩
    · rw [if_neg hs]
      intro f φ
      refine Eq.mpr (callD_eq _ _ _ _ _) (told_no (fun k x hk => ?_) ?_)
      · simp -dsimp
        exact Eq.mpr (callD_eq _ _ _ _ _) (add_no' (by omega) _ _ hk)
      · simp -dsimp
        refine Eq.mpr (callD_eq _ _ _ _ _) (gd A _ _ ?_)
        simp -dsimp [ne_rows]
        refine Eq.mpr (callD_eq _ _ _ _ _) (gd M _ _ ?_)
        simp -dsimp [ne_rows]
        exact tail _ _ _ _ _ fun a' r' y9 y10 y11 y12 i1 i2 i3 => hN _ ⟨a', r', _, _, _, _, _, _, _, _, _, _, _, by omega, by omega, by omega, rfl⟩
  · rintro ρ ⟨a, r, x2, x3, x4, x5, x6, x7, x8, x9, x10, x11, x12, h1, h2, h3, rfl⟩
    simp -dsimp
section
variable {P : Program} {w : World} {K : PySem.W.Frag} {mg : Str → Option Value} {base : Heap}
theorem sc_l_pen : FnScope ["_law_script"] ["_law_script"] (defScope s_l_pen) := ⟨rfl, rfl, rfl, by decide +kernel, rfl, by decide +kernel, by decide +kernel⟩
theorem ok_l_pen (T : Tx K mg) : FnG P w K mg base 1 T.a_l_pen (spN K 1 [] G_l_pen) :=
  okNG_of (Fd := F_l_pen) T.F_l_pen T.b_l_pen sc_l_pen rfl rfl (fun cdv A outer s H E hr hgu => by
    have hu1 := hu_of hr
    have hu65 := hu65_of hr
    have hu64 := hu64_of hr
    have hu0 := hu0_of hr
    have hu2 := hu2_of hr
    exact ⟨_, (dn_dict (dps_cons de_str (de_callTy call_list_of rv_list T.n_list (by rfl) (dao_one (deo (de_cut (de_var 0) do_none (do_some de_int))))) (dps_cons de_str de_int (dps_cons de_str de_int dps_nil))))⟩) fun _ _ _ _ h => h
theorem sc_is_entry : FnScope ["value"] ["value"] (defScope s_is_entry) := ⟨rfl, rfl, rfl, by decide +kernel, rfl, by decide +kernel, by decide +kernel⟩
theorem ok_is_entry (T : Tx K mg) : FnG P w K mg base 1 T.a_is_entry (spD K 1 [] G_is_entry) :=
  okG_of (J := []) (Fd := F_is_entry) T.F_is_entry T.b_is_entry sc_is_entry rfl (fun cdv A outer s H E hr hgu => by
    have hu1 := hu_of hr
    have hu65 := hu65_of hr
    have hu64 := hu64_of hr
    have hu0 := hu0_of hr
    have hu2 := hu2_of hr
    have tk := takes_of (X := (cxOf (L2.CX P w) P w K mg base ["value"] "is_entry" (defScope s_is_entry) T.a_is_entry cdv A outer s H E)) rfl rfl rfl rfl
    have hp := passes_of (X := (cxOf (L2.CX P w) P w K mg base ["value"] "is_entry" (defScope s_is_entry) T.a_is_entry cdv A outer s H E)) rfl
    exact (dss_one (ds_ret (J1 := []) (de_and (de_callB call_isi (rv_isi .int) T.n_isinstance (by rfl) (dao (da_cons (de_var 0) (da_cons (de_bltn T.n_int (by rfl)) da_nil)))) (de_and (de_not (de_callB call_isi (rv_isi .bool) T.n_isinstance (by rfl) (dao (da_cons (de_var 0) (da_cons (de_bltn T.n_bool (by rfl)) da_nil))))) (de_one (de_cmp (op_leU hu0) rv_le (de_callB call_abs rv_abs T.n_abs (by rfl) (dao_one (deo (de_var 0)))) (deo (de_gint T.g_GREATEST_ENTRY))))))))) fun _ _ _ _ h => h
theorem sc_Word___init__ : FnScope ["self", "deeds", "deed"] ["self", "deeds"] (defScope s_Word___init__) := ⟨rfl, rfl, rfl, by decide +kernel, rfl, by decide +kernel, by decide +kernel⟩
theorem ok_Word___init__ (T : Tx K mg) : FnG P w K mg base 2 T.a_Word___init__ (spStar 1 (spD K 2 [0] G_Word___init__)) :=
  okGS_of (ps := ["self"]) (J := []) (Fd := F_Word___init__) T.F_Word___init__ T.b_Word___init__ sc_Word___init__ (fun cdv A outer s H E hr hgu => by
    have hu1 := hu_of hr
    have hu65 := hu65_of hr
    have hu64 := hu64_of hr
    have hu0 := hu0_of hr
    have hu2 := hu2_of hr
    have tk := takes_of (X := (cxOf (L2.CX P w) P w K mg base ["self", "deeds", "deed"] "Word.__init__" (defScope s_Word___init__) T.a_Word___init__ cdv A outer s H E)) rfl rfl rfl rfl
    have hp := passes_of (X := (cxOf (L2.CX P w) P w K mg base ["self", "deeds", "deed"] "Word.__init__" (defScope s_Word___init__) T.a_Word___init__ cdv A outer s H E)) rfl
    exact (dss_cons (ds_if (J := []) (dt_w (dw_or (dt_not (dt_chain (op_leU hu0) rv_le (op_leU hu0) rv_le de_int (de_callB call_lenU rv_len T.n_len (by rfl) (dao_one (deo (de_var 1)))) (de_gint T.g_MOST_ENTRIES))) (dw_or1 (dt_not (dt_val (de_callB (cr_all (by rfl)) rv_all T.n_all (by rfl) (dao_one (deo (de_new (dn_of (dx_lc ["self", "deeds", "deed"] (defScope s_Word___init__) [("deed", 2)] [2] rfl sc_Word___init__.nd (di_seq (de_var 1)) (by decide +kernel) (fun _ _ _ _ _ => ⟨_, (dg_name 2 sc_Word___init__.nd)⟩) (fun _ _ _ _ _ => ⟨_, dts_nil⟩) (fun _ _ _ _ _ => ⟨_, (de_callG ((ok_is_entry T).mono (k := 1) (by decide)) hr hgu T.m_is_entry T.k_is_entry takes0 (do_val (de_var 2) do_nil))⟩))))))))))))
      (dss_one (ds_raise0 rfl tk T.xn_InvalidWord))
      dss_nil)
      (dss_one (ds_fld 0 "Word" T.ic_Word T.cl_Word T.na_Word_rows (de_var 1))))) fun _ _ _ _ h => h
theorem sc_Word___eq__ : FnScope ["self", "other"] ["self", "other"] (defScope s_Word___eq__) := ⟨rfl, rfl, rfl, by decide +kernel, rfl, by decide +kernel, by decide +kernel⟩
theorem ok_Word___eq__ (T : Tx K mg) : FnG P w K mg base 1 T.a_Word___eq__ (spD K 2 [] G_Word___eq__) :=
  okG_of (J := []) (Fd := F_Word___eq__) T.F_Word___eq__ T.b_Word___eq__ sc_Word___eq__ rfl (fun cdv A outer s H E hr hgu => by
    have hu1 := hu_of hr
    have hu65 := hu65_of hr
    have hu64 := hu64_of hr
    have hu0 := hu0_of hr
    have hu2 := hu2_of hr
    have tk := takes_of (X := (cxOf (L2.CX P w) P w K mg base ["self", "other"] "Word.__eq__" (defScope s_Word___eq__) T.a_Word___eq__ cdv A outer s H E)) rfl rfl rfl rfl
    have hp := passes_of (X := (cxOf (L2.CX P w) P w K mg base ["self", "other"] "Word.__eq__" (defScope s_Word___eq__) T.a_Word___eq__ cdv A outer s H E)) rfl
    exact (dss_one (ds_ret (J1 := []) (de_and (de_isiOwnA T.ic_Word T.mc_Word T.if_Word T.n_isinstance (de_var 1)) (de_one (de_cmp (op_eqU hu64) rv_eqU (de_fld "Word" T.ic_Word T.cl_Word T.na_Word_rows (deo (de_var 0))) (deo (de_fld "Word" T.ic_Word T.cl_Word T.na_Word_rows (deo (de_var 1)))))))))) fun _ _ _ _ h => h
theorem sc_l_draw : FnScope ["_law_pen_here", "_law_limit", "_law_digit", "_law_turn", "_law_cell", "_law_whole", "_law_first", "_law_second"] ["_law_pen_here", "_law_limit"] (defScope s_l_draw) := ⟨rfl, rfl, rfl, by decide +kernel, rfl, by decide +kernel, by decide +kernel⟩
theorem ok_l_draw (T : Tx K mg) : FnG P w K mg base 1 T.a_l_draw (spD K 2 [0] G_l_draw) :=
  okG_of (J := []) (Fd := F_l_draw) T.F_l_draw T.b_l_draw sc_l_draw rfl (fun cdv A outer s H E hr hgu => by
    have hu1 := hu_of hr
    have hu65 := hu65_of hr
    have hu64 := hu64_of hr
    have hu0 := hu0_of hr
    have hu2 := hu2_of hr
    have tk := takes_of (X := (cxOf (L2.CX P w) P w K mg base ["_law_pen_here", "_law_limit", "_law_digit", "_law_turn", "_law_cell", "_law_whole", "_law_first", "_law_second"] "_law_draw" (defScope s_l_draw) T.a_l_draw cdv A outer s H E)) rfl rfl rfl rfl
    have hp := passes_of (X := (cxOf (L2.CX P w) P w K mg base ["_law_pen_here", "_law_limit", "_law_digit", "_law_turn", "_law_cell", "_law_whole", "_law_first", "_law_second"] "_law_draw" (defScope s_l_draw) T.a_l_draw cdv A outer s H E)) rfl
    exact (dss_cons (ds_if (J := []) (dt_cmp (op_gtU hu0) rv_gtU (de_ixL 0 (ix_U hu1) rv_ix (deo de_str)) (deo de_int))
      (dss_cons (ds_set 2 sc_l_draw.nd (de_bin op_modN rv_fmod (de_ixL 0 (ix_U hu1) rv_ix (deo de_str)) (deo (de_var 1))))
      (dss_cons (ds_putO 0 hu1 (de_bin op_fdivG rv_fdiv (de_ixL 0 (ix_U hu1) rv_ix (deo de_str)) (deo (de_var 1))) de_str)
      (dss_one (ds_ret (J1 := []) (de_var 2)))))
      dss_nil)
      (dss_cons (ds_set 3 sc_l_draw.nd (de_ixL 0 (ix_U hu1) rv_ix (deo de_str)))
      (dss_cons (ds_putO 0 hu1 (de_bin op_addU rv_add (de_var 3) (deo de_int)) de_str)
      (dss_cons (ds_set 4 sc_l_draw.nd (de_bin op_addU rv_add (de_bin op_mulU rv_mul de_int (deo (de_var 3))) (deo de_int)))
      (dss_cons (ds_if (J := []) (dt_cmp (op_neU hu64) rv_neU (de_ixL 0 (ix_U hu1) rv_ix (deo de_str)) (deo (de_new (dn_lst da_nil))))
      (dss_one (ds_set 4 sc_l_draw.nd (de_ix (ix_U hu1) rv_ix (de_ixL 0 (ix_U hu1) rv_ix (deo de_str)) (deo (de_bin op_modN rv_fmod (de_var 3) (deo (de_callB call_lenU rv_len T.n_len (by rfl) (dao_one (deo (de_ixL 0 (ix_U hu1) rv_ix (deo de_str)))))))))))
      dss_nil)
      (dss_cons (ds_if (J := []) (dt_w (dw_and (dt_cmp (op_ltU hu0) rv_lt (de_var 3) (deo (de_callB call_lenU rv_len T.n_len (by rfl) (dao_one (deo (de_ixL 0 (ix_U hu1) rv_ix (deo de_str))))))) (dw_and1 (dt_cmp op_ge rv_ge (de_callB call_abs rv_abs T.n_abs (by rfl) (dao_one (deo (de_var 4)))) (deo (de_bin op_pow rv_pow de_int (deo de_int)))))))
      (dss_cons (ds_set 5 sc_l_draw.nd (de_bin op_addU rv_add (de_bin op_mulU rv_mul de_int (deo (de_callB call_abs rv_abs T.n_abs (by rfl) (dao_one (deo (de_var 4)))))) (deo (de_callTy call_int1 rv_int T.n_int (by rfl) (dao_one (deo (de_cmp (op_ltU hu0) rv_lt (de_var 4) (deo de_int))))))))
      (dss_cons (ds_putO 0 hu1 (de_bin op_fdivG rv_fdiv (de_var 5) (deo (de_var 1))) de_str)
      (dss_one (ds_ret (J1 := []) (de_bin op_modN rv_fmod (de_var 5) (deo (de_var 1)))))))
      dss_nil)
      (dss_cons (ds_set 6 sc_l_draw.nd (de_bin op_modN rv_fmod (de_bin op_pow rv_pow (de_bin op_addU rv_add (de_bin op_addU rv_add (de_bin op_modN rv_fmod (de_var 4) (deo de_int)) (deo (de_bin op_mulU rv_mul de_int (deo (de_var 3))))) (deo de_int)) (deo de_int)) (deo de_int)))
      (dss_cons (ds_set 7 sc_l_draw.nd (de_bin op_modN rv_fmod (de_bin op_pow rv_pow (de_bin op_addU rv_add (de_bin op_addU rv_add (de_bin op_mulU rv_mul (de_var 6) (deo (de_bin op_addU rv_add (de_bin op_mulU rv_mul de_int (deo (de_var 3))) (deo de_int)))) (deo (de_bin op_mulU rv_mul (de_bin op_mulU rv_mul de_int (deo (de_var 3))) (deo (de_var 3))))) (deo de_int)) (deo de_int)) (deo de_int)))
      (dss_one (ds_ret (J1 := []) (de_bin op_modN rv_fmod (de_bin op_fdivG rv_fdiv (de_var 7) (deo de_int)) (deo (de_var 1)))))))))))))) fun _ _ _ _ h => h
theorem sc_Word_deeds : FnScope ["self"] ["self"] (defScope s_Word_deeds) := ⟨rfl, rfl, rfl, by decide +kernel, rfl, by decide +kernel, by decide +kernel⟩
theorem ok_Word_deeds (T : Tx K mg) : FnG P w K mg base 1 T.a_Word_deeds (spD K 1 [] G_Word_deeds) :=
  okG_of (J := []) (Fd := F_Word_deeds) T.F_Word_deeds T.b_Word_deeds sc_Word_deeds rfl (fun cdv A outer s H E hr hgu => by
    have hu1 := hu_of hr
    have hu65 := hu65_of hr
    have hu64 := hu64_of hr
    have hu0 := hu0_of hr
    have hu2 := hu2_of hr
    have tk := takes_of (X := (cxOf (L2.CX P w) P w K mg base ["self"] "Word.deeds" (defScope s_Word_deeds) T.a_Word_deeds cdv A outer s H E)) rfl rfl rfl rfl
    have hp := passes_of (X := (cxOf (L2.CX P w) P w K mg base ["self"] "Word.deeds" (defScope s_Word_deeds) T.a_Word_deeds cdv A outer s H E)) rfl
    exact (dss_one (ds_ret (J1 := []) (de_fld "Word" T.ic_Word T.cl_Word T.na_Word_rows (deo (de_var 0)))))) fun _ _ _ _ h => h
theorem sc_l_told : FnScope ["_law_ask", "_law_caught", "error"] ["_law_ask"] (defScope s_l_told) := ⟨rfl, rfl, rfl, by decide +kernel, rfl, by decide +kernel, by decide +kernel⟩
theorem okL_l_told (T : Tx K mg) : FnL P w K mg base 3 T.a_l_told "_law_told" (defScope s_l_told) ["_law_ask", "_law_caught", "error"] "_law_ask" G_l_told :=
  okGL_of (J := []) (Fd := F_l_told) T.F_l_told T.b_l_told sc_l_told (fun cdv A outer s H E lf lp lh hr hgu act => by
    have hu1 := hu_of hr
    have hu65 := hu65_of hr
    have hu64 := hu64_of hr
    have hu0 := hu0_of hr
    have hu2 := hu2_of hr
    have tk := takes_of (X := (cxOf (L2.CX P w) P w K mg base ["_law_ask", "_law_caught", "error"] "_law_told" (defScope s_l_told) T.a_l_told cdv A outer s H E)) rfl rfl rfl rfl
    have hp := passes_of (X := (cxOf (L2.CX P w) P w K mg base ["_law_ask", "_law_caught", "error"] "_law_told" (defScope s_l_told) T.a_l_told cdv A outer s H E)) rfl
    exact (dss_cons (ds_set 1 sc_l_told.nd de_non)
      (dss_cons (ds_tryKeep (ts := [("InvalidWord", true)]) 2 1 rfl rfl rfl sc_l_told.nd tk ⟨rfl, by decide, .inl T.mc_PlainError⟩ T.tk_PlainError (fun W pn xe tk hp => (dss_one (ds_ret (J1 := []) (de_propG T.ic_Word T.cl_Word T.pr_Word_deeds ((ok_Word_deeds T).mono (k := 1) (by decide)) hr hgu (Classical.choose_spec (act _ _ _ tk _ _ _ _ (by decide) (by decide) (by decide))))))))
      (dss_cons (ds_if (J := []) (dt_w (dw_or (dt_val (de_isiXT (ts := [("InvalidWord", false)]) (cs := [T.C_InvalidDeed, T.C_InvalidState]) (.cons T.mc_InvalidDeed rfl (by decide) (.cons T.mc_InvalidState rfl (by decide) .nil)) T.n_isinstance T.isT_0 (de_var 1))) (dw_or1 (dt_not (dt_val (de_isiXB (ts := [("InvalidWord", true)]) (N := "ValueError") T.n_ValueError (by rfl) T.n_isinstance T.isB_ValueError (de_var 1)))))))
      (dss_one (ds_ret (J1 := []) de_str))
      dss_nil)
      (dss_one (ds_ret (J1 := []) (de_ix (ix_U hu1) rv_ix (de_new (dn_lst (da_cons de_str (da_cons de_str da_nil)))) (deo (de_callTy call_int1 rv_int T.n_int (by rfl) (dao_one (deo (de_isiX (ts := [("InvalidWord", true)]) T.mc_InvalidWord T.n_isinstance T.isX_InvalidWord (de_var 1))))))))))))) fun _ _ _ _ _ _ _ h => h
theorem sc_l_made : FnScope ["_law_acts"] ["_law_acts"] (defScope s_l_made) := ⟨rfl, rfl, rfl, by decide +kernel, rfl, by decide +kernel, by decide +kernel⟩
theorem ok_l_made (T : Tx K mg) : FnG P w K mg base 4 T.a_l_made (spD K 1 [] G_l_made) :=
  okG_of (J := []) (Fd := F_l_made) T.F_l_made T.b_l_made sc_l_made rfl (fun cdv A outer s H E hr hgu => by
    have hu1 := hu_of hr
    have hu65 := hu65_of hr
    have hu64 := hu64_of hr
    have hu0 := hu0_of hr
    have hu2 := hu2_of hr
    have tk := takes_of (X := (cxOf (L2.CX P w) P w K mg base ["_law_acts"] "_law_made" (defScope s_l_made) T.a_l_made cdv A outer s H E)) rfl rfl rfl rfl
    have hp := passes_of (X := (cxOf (L2.CX P w) P w K mg base ["_law_acts"] "_law_made" (defScope s_l_made) T.a_l_made cdv A outer s H E)) rfl
    exact (dss_cons (ds_if (J := []) (dt_cmp (op_eqU hu64) rv_eqU (de_callB call_lenU rv_len T.n_len (by rfl) (dao_one (deo (de_var 0)))) (deo de_int))
      (dss_one (ds_ret (J1 := []) (de_new (dn_makeS0 T.mk_Word T.ic_Word ((ok_Word___init__ T).mono (k := 2) (by decide)) hr hgu T.mc_Word tk))))
      dss_nil)
      (dss_cons (ds_if (J := []) (dt_cmp (op_eqU hu64) rv_eqU (de_callB call_lenU rv_len T.n_len (by rfl) (dao_one (deo (de_var 0)))) (deo de_int))
      (dss_one (ds_ret (J1 := []) (de_new (dn_makeS T.mk_Word T.ic_Word ((ok_Word___init__ T).mono (k := 2) (by decide)) hr hgu T.mc_Word tk (da_cons (de_ix (ix_U hu1) rv_ix (de_var 0) (deo de_int)) da_nil)))))
      dss_nil)
      (dss_cons (ds_if (J := []) (dt_cmp (op_eqU hu64) rv_eqU (de_callB call_lenU rv_len T.n_len (by rfl) (dao_one (deo (de_var 0)))) (deo de_int))
      (dss_one (ds_ret (J1 := []) (de_new (dn_makeS T.mk_Word T.ic_Word ((ok_Word___init__ T).mono (k := 2) (by decide)) hr hgu T.mc_Word tk (da_cons (de_ix (ix_U hu1) rv_ix (de_var 0) (deo de_int)) (da_cons (de_ix (ix_U hu1) rv_ix (de_var 0) (deo de_int)) da_nil))))))
      dss_nil)
      (dss_cons (ds_if (J := []) (dt_cmp (op_eqU hu64) rv_eqU (de_callB call_lenU rv_len T.n_len (by rfl) (dao_one (deo (de_var 0)))) (deo de_int))
      (dss_one (ds_ret (J1 := []) (de_new (dn_makeS T.mk_Word T.ic_Word ((ok_Word___init__ T).mono (k := 2) (by decide)) hr hgu T.mc_Word tk (da_cons (de_ix (ix_U hu1) rv_ix (de_var 0) (deo de_int)) (da_cons (de_ix (ix_U hu1) rv_ix (de_var 0) (deo de_int)) (da_cons (de_ix (ix_U hu1) rv_ix (de_var 0) (deo de_int)) da_nil)))))))
      dss_nil)
      (dss_one (ds_ret (J1 := []) (de_new (dn_makeS T.mk_Word T.ic_Word ((ok_Word___init__ T).mono (k := 2) (by decide)) hr hgu T.mc_Word tk (da_cons de_int (da_cons de_int (da_cons de_int (da_cons de_int (da_cons de_int (da_cons de_int (da_cons de_int (da_cons de_int (da_cons de_int (da_cons de_int (da_cons de_int (da_cons de_int (da_cons de_int da_nil)))))))))))))))))))))) fun _ _ _ _ h => h
theorem sc_l_refused : FnScope ["_law_pen_here", "_law_wrong", "_law_other", "_law_lots", "_law_acts"] ["_law_pen_here"] (defScope s_l_refused) := ⟨rfl, rfl, rfl, by decide +kernel, rfl, by decide +kernel, by decide +kernel⟩
theorem ok_l_refused (T : Tx K mg) : FnG P w K mg base 7 T.a_l_refused (spD K 1 [0] G_l_refused) :=
  okG_ofC (J := []) (Fd := F_l_refused) T.F_l_refused T.b_l_refused sc_l_refused rfl (fun A outer s H E hr hgu => by
    have hu1 := hu_of hr
    have hu65 := hu65_of hr
    have hu64 := hu64_of hr
    have hu0 := hu0_of hr
    have hu2 := hu2_of hr
    have tk := takes_of (X := (cxOf (L2.CX P w) P w K mg base ["_law_pen_here", "_law_wrong", "_law_other", "_law_lots", "_law_acts"] "_law_refused" (defScope s_l_refused) T.a_l_refused (T.fd_l_refused).code A outer s H E)) rfl rfl rfl rfl
    have hp := passes_of (X := (cxOf (L2.CX P w) P w K mg base ["_law_pen_here", "_law_wrong", "_law_other", "_law_lots", "_law_acts"] "_law_refused" (defScope s_l_refused) T.a_l_refused (T.fd_l_refused).code A outer s H E)) rfl
    exact (dss_cons (ds_set 1 sc_l_refused.nd (de_ix (ix_U hu1) rv_ix (de_new (dn_lst (da_cons de_int (da_cons (de_un un_neg rv_neg (deo de_int)) (da_cons de_bl (da_cons de_bl (da_cons de_non (da_cons de_str (da_cons (de_tup (da_cons de_int da_nil)) (da_cons (de_new (dn_lst (da_cons de_int da_nil))) (da_cons (de_new dn_dict0) (da_cons (de_bin op_pow rv_pow de_int (deo de_int)) (da_cons de_str da_nil))))))))))))) (deo (de_callG ((ok_l_draw T).mono (k := 6) (by decide)) hr hgu T.m_l_draw T.k_l_draw tk (do_own 0 (do_val de_int do_nil))))))
      (dss_cons (ds_set 2 sc_l_refused.nd (de_ix (ix_U hu1) rv_ix (de_new (dn_lst (da_cons de_int (da_cons de_int (da_cons (de_un un_neg rv_neg (deo de_int)) (da_cons de_non (da_cons de_int da_nil))))))) (deo (de_callG ((ok_l_draw T).mono (k := 6) (by decide)) hr hgu T.m_l_draw T.k_l_draw tk (do_own 0 (do_val de_int do_nil))))))
      (dss_cons (ds_set 3 sc_l_refused.nd (de_new (dn_lst (da_cons (de_new (dn_lst da_nil)) (da_cons (de_new (dn_lst (da_cons (de_var 1) da_nil))) (da_cons (de_new (dn_lst (da_cons (de_var 1) (da_cons (de_var 2) da_nil)))) (da_cons (de_new (dn_lst (da_cons de_int (da_cons (de_var 1) da_nil)))) (da_cons (de_new (dn_lst (da_cons de_int (da_cons de_int (da_cons (de_var 1) da_nil))))) (da_cons (de_new (dn_lst (da_cons (de_var 2) (da_cons (de_var 1) (da_cons (de_un un_neg rv_neg (deo de_int)) da_nil))))) (da_cons (de_new (dn_lst (da_cons (de_tup (da_cons de_int (da_cons de_int da_nil))) da_nil))) (da_cons (de_new (dn_lst (da_cons (de_new (dn_lst da_nil)) da_nil))) (da_cons (de_bin op_rep rv_repL (de_new (dn_lst (da_cons de_int da_nil))) (deo de_int)) da_nil))))))))))))
      (dss_cons (ds_for hp rfl (J := []) (di_seq (de_var 3)) (dg_name 4 sc_l_refused.nd)
      (dss_one (ds_if (J := []) (dt_cmp (op_neU hu64) rv_neU (de_callL (kb := 4) [0] ((okL_l_told T).mono (k := 6) (by decide)) hr hgu T.m_l_told T.k_l_told tk (fun j h => List.mem_append.mpr h) T.tb_l_refused (hr.mono (by decide)) (LamX.lamS_by (sc := defScope s_l_refused) (by decide +kernel)) (fun A outer s H E f c' hr hgu tk => by
      have hu1 := hu_of hr
      have hu65 := hu65_of hr
      have hu64 := hu64_of hr
      have hu0 := hu0_of hr
      have hu2 := hu2_of hr
      exact ⟨_, (de_callG ((ok_l_made T).mono (k := 4) (by decide)) hr hgu T.m_l_made T.k_l_made tk (do_val (de_var 4) do_nil))⟩)) (deo de_str))
      (dss_one (ds_ret (J1 := []) de_bl))
      dss_nil)))
      (dss_one (ds_ret (J1 := []) de_bl))))))) fun _ _ _ _ h => h
theorem sc_Word___add__ : FnScope ["self", "other", "deeds"] ["self", "other"] (defScope s_Word___add__) := ⟨rfl, rfl, rfl, by decide +kernel, rfl, by decide +kernel, by decide +kernel⟩
theorem ok_Word___add__ (T : Tx K mg) : FnG P w K mg base 4 T.a_Word___add__ (spD K 2 [] G_Word___add__) :=
  okG_of (J := []) (Fd := F_Word___add__) T.F_Word___add__ T.b_Word___add__ sc_Word___add__ rfl (fun cdv A outer s H E hr hgu => by
    have hu1 := hu_of hr
    have hu65 := hu65_of hr
    have hu64 := hu64_of hr
    have hu0 := hu0_of hr
    have hu2 := hu2_of hr
    have tk := takes_of (X := (cxOf (L2.CX P w) P w K mg base ["self", "other", "deeds"] "Word.__add__" (defScope s_Word___add__) T.a_Word___add__ cdv A outer s H E)) rfl rfl rfl rfl
    have hp := passes_of (X := (cxOf (L2.CX P w) P w K mg base ["self", "other", "deeds"] "Word.__add__" (defScope s_Word___add__) T.a_Word___add__ cdv A outer s H E)) rfl
    exact (dss_cons (ds_set 2 sc_Word___add__.nd (de_bin op_addU rv_add (de_fld "Word" T.ic_Word T.cl_Word T.na_Word_rows (deo (de_var 0))) (deo (de_fld "Word" T.ic_Word T.cl_Word T.na_Word_rows (deo (de_var 1))))))
      (dss_one (ds_ret (J1 := []) (de_new (dn_makeSS T.mk_Word T.ic_Word ((ok_Word___init__ T).mono (k := 2) (by decide)) hr hgu T.mc_Word tk (de_var 2))))))) fun _ _ _ _ h => h
theorem sc_l_word : FnScope ["_law_acts", "_law_found", "_law_act"] ["_law_acts"] (defScope s_l_word) := ⟨rfl, rfl, rfl, by decide +kernel, rfl, by decide +kernel, by decide +kernel⟩
theorem ok_l_word (T : Tx K mg) : FnG P w K mg base 5 T.a_l_word (spD K 1 [] G_l_word) :=
  okG_of (J := []) (Fd := F_l_word) T.F_l_word T.b_l_word sc_l_word rfl (fun cdv A outer s H E hr hgu => by
    have hu1 := hu_of hr
    have hu65 := hu65_of hr
    have hu64 := hu64_of hr
    have hu0 := hu0_of hr
    have hu2 := hu2_of hr
    have tk := takes_of (X := (cxOf (L2.CX P w) P w K mg base ["_law_acts", "_law_found", "_law_act"] "_law_word" (defScope s_l_word) T.a_l_word cdv A outer s H E)) rfl rfl rfl rfl
    have hp := passes_of (X := (cxOf (L2.CX P w) P w K mg base ["_law_acts", "_law_found", "_law_act"] "_law_word" (defScope s_l_word) T.a_l_word cdv A outer s H E)) rfl
    exact (dss_cons (ds_set 1 sc_l_word.nd (de_new (dn_makeS T.mk_Word T.ic_Word ((ok_Word___init__ T).mono (k := 3) (by decide)) hr hgu T.mc_Word tk (da_cons (de_ix (ix_U hu1) rv_ix (de_var 0) (deo de_int)) da_nil))))
      (dss_cons (ds_for hp rfl (J := []) (di_seq (de_cut (de_var 0) (do_some de_int) do_none)) (dg_name 2 sc_l_word.nd)
      (dss_one (ds_set 1 sc_l_word.nd (de_addOwn T.ic_Word T.sf_Word T.gs_Word___add__ T.gi_Word___add__ ((ok_Word___add__ T).mono (k := 4) (by decide)) hr hgu (de_var 1) (de_new (dn_makeS T.mk_Word T.ic_Word ((ok_Word___init__ T).mono (k := 3) (by decide)) hr hgu T.mc_Word tk (da_cons (de_var 2) da_nil)))))))
      (dss_one (ds_ret (J1 := []) (de_var 1)))))) fun _ _ _ _ h => h
theorem sc_Word___len__ : FnScope ["self"] ["self"] (defScope s_Word___len__) := ⟨rfl, rfl, rfl, by decide +kernel, rfl, by decide +kernel, by decide +kernel⟩
theorem ok_Word___len__ (T : Tx K mg) : FnG P w K mg base 1 T.a_Word___len__ (spD K 1 [] G_Word___len__) :=
  okG_of (J := []) (Fd := F_Word___len__) T.F_Word___len__ T.b_Word___len__ sc_Word___len__ rfl (fun cdv A outer s H E hr hgu => by
    have hu1 := hu_of hr
    have hu65 := hu65_of hr
    have hu64 := hu64_of hr
    have hu0 := hu0_of hr
    have hu2 := hu2_of hr
    have tk := takes_of (X := (cxOf (L2.CX P w) P w K mg base ["self"] "Word.__len__" (defScope s_Word___len__) T.a_Word___len__ cdv A outer s H E)) rfl rfl rfl rfl
    have hp := passes_of (X := (cxOf (L2.CX P w) P w K mg base ["self"] "Word.__len__" (defScope s_Word___len__) T.a_Word___len__ cdv A outer s H E)) rfl
    exact (dss_one (ds_ret (J1 := []) (de_callB call_lenU rv_len T.n_len (by rfl) (dao_one (deo (de_fld "Word" T.ic_Word T.cl_Word T.na_Word_rows (deo (de_var 0))))))))) fun _ _ _ _ h => h
theorem sc_Word___getitem__ : FnScope ["self", "number"] ["self", "number"] (defScope s_Word___getitem__) := ⟨rfl, rfl, rfl, by decide +kernel, rfl, by decide +kernel, by decide +kernel⟩
theorem ok_Word___getitem__ (T : Tx K mg) : FnG P w K mg base 1 T.a_Word___getitem__ (spD K 2 [] G_Word___getitem__) :=
  okG_of (J := []) (Fd := F_Word___getitem__) T.F_Word___getitem__ T.b_Word___getitem__ sc_Word___getitem__ rfl (fun cdv A outer s H E hr hgu => by
    have hu1 := hu_of hr
    have hu65 := hu65_of hr
    have hu64 := hu64_of hr
    have hu0 := hu0_of hr
    have hu2 := hu2_of hr
    have tk := takes_of (X := (cxOf (L2.CX P w) P w K mg base ["self", "number"] "Word.__getitem__" (defScope s_Word___getitem__) T.a_Word___getitem__ cdv A outer s H E)) rfl rfl rfl rfl
    have hp := passes_of (X := (cxOf (L2.CX P w) P w K mg base ["self", "number"] "Word.__getitem__" (defScope s_Word___getitem__) T.a_Word___getitem__ cdv A outer s H E)) rfl
    exact (dss_one (ds_ret (J1 := []) (de_ix (ix_U hu1) rv_ix (de_fld "Word" T.ic_Word T.cl_Word T.na_Word_rows (deo (de_var 0))) (deo (de_bin op_modN rv_fmod (de_var 1) (deo (de_callB call_lenU rv_len T.n_len (by rfl) (dao_one (deo (de_fld "Word" T.ic_Word T.cl_Word T.na_Word_rows (deo (de_var 0))))))))))))) fun _ _ _ _ h => h
theorem sc_l_faces_right : FnScope ["_law_pen_here", "_law_rhythm", "_law_acts", "_law_number", "_law_item"] ["_law_pen_here", "_law_rhythm", "_law_acts"] (defScope s_l_faces_right) := ⟨rfl, rfl, rfl, by decide +kernel, rfl, by decide +kernel, by decide +kernel⟩
theorem ok_l_faces_right (T : Tx K mg) : FnG P w K mg base 3 T.a_l_faces_right (spD K 3 [0] G_l_faces_right) :=
  okG_of (J := []) (Fd := F_l_faces_right) T.F_l_faces_right T.b_l_faces_right sc_l_faces_right rfl (fun cdv A outer s H E hr hgu => by
    have hu1 := hu_of hr
    have hu65 := hu65_of hr
    have hu64 := hu64_of hr
    have hu0 := hu0_of hr
    have hu2 := hu2_of hr
    have tk := takes_of (X := (cxOf (L2.CX P w) P w K mg base ["_law_pen_here", "_law_rhythm", "_law_acts", "_law_number", "_law_item"] "_law_faces_right" (defScope s_l_faces_right) T.a_l_faces_right cdv A outer s H E)) rfl rfl rfl rfl
    have hp := passes_of (X := (cxOf (L2.CX P w) P w K mg base ["_law_pen_here", "_law_rhythm", "_law_acts", "_law_number", "_law_item"] "_law_faces_right" (defScope s_l_faces_right) T.a_l_faces_right cdv A outer s H E)) rfl
    exact (dss_cons (ds_if (J := []) (dt_w (dw_or (dt_cmp (op_neU hu64) rv_neU (de_callB (call_reprD hgu hu65) rv_repr T.n_repr (by rfl) (dao_one (deo (de_propG T.ic_Word T.cl_Word T.pr_Word_deeds ((ok_Word_deeds T).mono (k := 1) (by decide)) hr hgu (de_var 1))))) (deo (de_callB (call_reprD hgu hu65) rv_repr T.n_repr (by rfl) (dao_one (deo (de_callTy call_tuple_of rv_tuple T.n_tuple (by rfl) (dao_one (deo (de_var 2))))))))) (dw_or1 (dt_cmp (op_neU hu64) rv_neU (de_callB (call_reprD hgu hu65) rv_repr T.n_repr (by rfl) (dao_one (deo (de_lenOwn T.ic_Word T.gs_Word___len__ T.gi_Word___len__ ((ok_Word___len__ T).mono (k := 1) (by decide)) hr hgu T.n_len (de_var 1))))) (deo (de_callB (call_reprD hgu hu65) rv_repr T.n_repr (by rfl) (dao_one (deo (de_callB call_lenU rv_len T.n_len (by rfl) (dao_one (deo (de_var 2))))))))))))
      (dss_one (ds_ret (J1 := []) de_bl))
      dss_nil)
      (dss_cons (ds_for hp rfl (J := []) (di_seq (de_bin op_addU rv_add (de_listRg (by rfl) T.n_list T.n_range de_int) (deo (de_new (dn_lst (da_cons (de_callG ((ok_l_draw T).mono (k := 2) (by decide)) hr hgu T.m_l_draw T.k_l_draw tk (do_own 0 (do_val (de_bin op_addU rv_add (de_bin op_pow rv_pow de_int (deo de_int)) (deo de_int)) do_nil))) (da_cons (de_bin op_pow rv_pow de_int (deo de_int)) da_nil))))))) (dg_name 3 sc_l_faces_right.nd)
      (dss_one (ds_if (J := []) (dt_cmp (op_neU hu64) rv_neU (de_callB (call_reprD hgu hu65) rv_repr T.n_repr (by rfl) (dao_one (deo (de_ixOwn T.ic_Word T.gs_Word___getitem__ T.gf_Word___getitem__ T.gi_Word___getitem__ ((ok_Word___getitem__ T).mono (k := 1) (by decide)) hr hgu (de_var 1) (de_var 3))))) (deo (de_callB (call_reprD hgu hu65) rv_repr T.n_repr (by rfl) (dao_one (deo (de_ix (ix_U hu1) rv_ix (de_var 2) (deo (de_bin op_modN rv_fmod (de_var 3) (deo (de_callB call_lenU rv_len T.n_len (by rfl) (dao_one (deo (de_var 2)))))))))))))
      (dss_one (ds_ret (J1 := []) de_bl))
      dss_nil)))
      (dss_cons (ds_for hp rfl (J := []) (di_seq (de_new (dn_lst (da_cons (de_propG T.ic_Word T.cl_Word T.pr_Word_deeds ((ok_Word_deeds T).mono (k := 1) (by decide)) hr hgu (de_var 1)) (da_cons (de_callTy call_list_of rv_list T.n_list (by rfl) (dao_one (deo (de_var 2)))) (da_cons de_non (da_cons de_int (da_cons (de_ix (ix_U hu1) rv_ix (de_var 2) (deo de_int)) (da_cons (de_callB (call_reprD hgu hu65) rv_repr T.n_repr (by rfl) (dao_one (deo (de_propG T.ic_Word T.cl_Word T.pr_Word_deeds ((ok_Word_deeds T).mono (k := 1) (by decide)) hr hgu (de_var 1))))) (da_cons (de_new dn_dict0) da_nil)))))))))) (dg_name 4 sc_l_faces_right.nd)
      (dss_one (ds_if (J := []) (dt_w (dw_or (dt_eqOwnA false (op_eqOwnA T.ef_Word ((ok_Word___eq__ T).mono (k := 1) (by decide)) hr hgu) T.ic_Word (de_var 1) (de_var 4)) (dw_or (dt_eqOwnA false (op_eqOwnA T.ef_Word ((ok_Word___eq__ T).mono (k := 1) (by decide)) hr hgu) T.ic_Word (de_var 4) (de_var 1)) (dw_or1 (dt_not (dt_eqOwnA true (op_neOwnA T.ef_Word ((ok_Word___eq__ T).mono (k := 1) (by decide)) hr hgu) T.ic_Word (de_var 1) (de_var 4)))))))
      (dss_one (ds_ret (J1 := []) de_bl))
      dss_nil)))
      (dss_one (ds_ret (J1 := []) de_bl)))))) fun _ _ _ _ h => h
theorem sc_Word___mul__ : FnScope ["self", "number", "deeds"] ["self", "number"] (defScope s_Word___mul__) := ⟨rfl, rfl, rfl, by decide +kernel, rfl, by decide +kernel, by decide +kernel⟩
theorem ok_Word___mul__ (T : Tx K mg) : FnG P w K mg base 4 T.a_Word___mul__ (spD K 2 [] G_Word___mul__) :=
  okG_of (J := []) (Fd := F_Word___mul__) T.F_Word___mul__ T.b_Word___mul__ sc_Word___mul__ rfl (fun cdv A outer s H E hr hgu => by
    have hu1 := hu_of hr
    have hu65 := hu65_of hr
    have hu64 := hu64_of hr
    have hu0 := hu0_of hr
    have hu2 := hu2_of hr
    have tk := takes_of (X := (cxOf (L2.CX P w) P w K mg base ["self", "number", "deeds"] "Word.__mul__" (defScope s_Word___mul__) T.a_Word___mul__ cdv A outer s H E)) rfl rfl rfl rfl
    have hp := passes_of (X := (cxOf (L2.CX P w) P w K mg base ["self", "number", "deeds"] "Word.__mul__" (defScope s_Word___mul__) T.a_Word___mul__ cdv A outer s H E)) rfl
    exact (dss_cons (ds_if (J := []) (dt_cmp (op_gtU hu0) rv_gtU (de_bin op_mulU rv_mul (de_var 1) (deo (de_callB call_lenU rv_len T.n_len (by rfl) (dao_one (deo (de_fld "Word" T.ic_Word T.cl_Word T.na_Word_rows (deo (de_var 0)))))))) (deo (de_gint T.g_MOST_ENTRIES)))
      (dss_one (ds_raise0 rfl tk T.xn_InvalidWord))
      dss_nil)
      (dss_cons (ds_set 2 sc_Word___mul__.nd (de_bin op_mulU rv_mul (de_fld "Word" T.ic_Word T.cl_Word T.na_Word_rows (deo (de_var 0))) (deo (de_var 1))))
      (dss_one (ds_ret (J1 := []) (de_new (dn_makeSS T.mk_Word T.ic_Word ((ok_Word___init__ T).mono (k := 2) (by decide)) hr hgu T.mc_Word tk (de_var 2)))))))) fun _ _ _ _ h => h
theorem sc_law : FnScope ["_law_script", "_law_pen_here", "_law_long", "_law_turn", "_law_size", "_law_acts", "_law_rhythm", "_law_more", "_law_other", "_law_due", "_law_many", "_law_doubled", "_law_seat"] ["_law_script"] (defScope s_law) := ⟨rfl, rfl, rfl, by decide +kernel, rfl, by decide +kernel, by decide +kernel⟩
theorem ok_law {f : Addr} {fd : FuncData} (T : Tx K mg) (F : FunG K "law" "law" s_law f fd) (B : Binds K fd ["_law_script"] []) {lc lP : Addr} (TB : TabX K mg fd.code lc lP "law.<locals>.<lambda>") : FnG P w K mg base 8 f (spD K 1 [] G_law) :=
  okG_ofC (J := [1]) (Fd := F_law) F B sc_law rfl (fun A outer s H E hr hgu => by
    have hu1 := hu_of hr
    have hu65 := hu65_of hr
    have hu64 := hu64_of hr
    have hu0 := hu0_of hr
    have hu2 := hu2_of hr
    have tk := takes_of (X := (cxOf (L2.CX P w) P w K mg base ["_law_script", "_law_pen_here", "_law_long", "_law_turn", "_law_size", "_law_acts", "_law_rhythm", "_law_more", "_law_other", "_law_due", "_law_many", "_law_doubled", "_law_seat"] "law" (defScope s_law) f (fd).code A outer s H E)) rfl rfl rfl rfl
    have hp := passes_of (X := (cxOf (L2.CX P w) P w K mg base ["_law_script", "_law_pen_here", "_law_long", "_law_turn", "_law_size", "_law_acts", "_law_rhythm", "_law_more", "_law_other", "_law_due", "_law_many", "_law_doubled", "_law_seat"] "law" (defScope s_law) f (fd).code A outer s H E)) rfl
    exact (dss_cons (ds_setN 1 sc_law.nd (dn_callG ((ok_l_pen T).mono (k := 7) (by decide)) hr hgu T.m_l_pen T.k_l_pen tk (do_val (de_var 0) do_nil)))
      (dss_cons (ds_set 2 sc_law.nd (de_new (dn_makeS T.mk_Word T.ic_Word ((ok_Word___init__ T).mono (k := 6) (by decide)) hr hgu T.mc_Word tk (da_cons de_int (da_cons de_int (da_cons de_int (da_cons de_int (da_cons (de_un un_neg rv_neg (deo de_int)) (da_cons (de_un un_neg rv_neg (deo de_int)) (da_cons (de_un un_neg rv_neg (deo de_int)) (da_cons (de_un un_neg rv_neg (deo de_int)) (da_cons de_int (da_cons de_int (da_cons de_int (da_cons de_int da_nil)))))))))))))))
      (dss_cons (ds_if (J := [1]) (dt_w (dw_or (dt_eqOwnA false (op_eqOwnA T.ef_Word ((ok_Word___eq__ T).mono (k := 6) (by decide)) hr hgu) T.ic_Word (de_new (dn_makeS T.mk_Word T.ic_Word ((ok_Word___init__ T).mono (k := 6) (by decide)) hr hgu T.mc_Word tk (da_cons de_int da_nil))) (de_new (dn_makeS T.mk_Word T.ic_Word ((ok_Word___init__ T).mono (k := 6) (by decide)) hr hgu T.mc_Word tk (da_cons de_int (da_cons de_int da_nil))))) (dw_or1 (dt_not (dt_eqOwnA true (op_neOwnA T.ef_Word ((ok_Word___eq__ T).mono (k := 6) (by decide)) hr hgu) T.ic_Word (de_new (dn_makeS T.mk_Word T.ic_Word ((ok_Word___init__ T).mono (k := 6) (by decide)) hr hgu T.mc_Word tk (da_cons (de_un un_neg rv_neg (deo de_int)) (da_cons (de_un un_neg rv_neg (deo de_int)) da_nil)))) (de_new (dn_makeS T.mk_Word T.ic_Word ((ok_Word___init__ T).mono (k := 6) (by decide)) hr hgu T.mc_Word tk (da_cons (de_un un_neg rv_neg (deo de_int)) da_nil))))))))
      (dss_one (ds_ret (J1 := [1]) de_bl))
      dss_nil)
      (dss_cons (ds_if (J := [1]) (dt_w (dw_or (dt_not (dt_val (de_callG ((ok_l_refused T).mono (k := 7) (by decide)) hr hgu T.m_l_refused T.k_l_refused tk (do_own 1 do_nil)))) (dw_or1 (dt_cmp (op_neU hu64) rv_neU (de_propG T.ic_Word T.cl_Word T.pr_Word_deeds ((ok_Word_deeds T).mono (k := 6) (by decide)) hr hgu (de_var 2)) (deo (de_tup (da_cons de_int (da_cons de_int (da_cons de_int (da_cons de_int (da_cons (de_un un_neg rv_neg (deo de_int)) (da_cons (de_un un_neg rv_neg (deo de_int)) (da_cons (de_un un_neg rv_neg (deo de_int)) (da_cons (de_un un_neg rv_neg (deo de_int)) (da_cons de_int (da_cons de_int (da_cons de_int (da_cons de_int da_nil))))))))))))))))))
      (dss_one (ds_ret (J1 := [1]) de_bl))
      dss_nil)
      (dss_cons (ds_for hp rfl (J := [1]) (di_range1 T.n_range (da_cons de_int da_nil)) (dg_name 3 sc_law.nd)
      (dss_cons (ds_set 4 sc_law.nd (de_ix (ix_U hu1) rv_ix (de_new (dn_lst (da_cons de_int (da_cons de_int (da_cons (de_bin op_addU rv_add de_int (deo (de_callG ((ok_l_draw T).mono (k := 7) (by decide)) hr hgu T.m_l_draw T.k_l_draw tk (do_own 1 (do_val de_int do_nil))))) da_nil))))) (deo (de_callG ((ok_l_draw T).mono (k := 7) (by decide)) hr hgu T.m_l_draw T.k_l_draw tk (do_own 1 (do_val de_int do_nil))))))
      (dss_cons (dx_setLc 5 ["_law_script", "_law_pen_here", "_law_long", "_law_turn", "_law_size", "_law_acts", "_law_rhythm", "_law_more", "_law_other", "_law_due", "_law_many", "_law_doubled", "_law_seat"] (defScope s_law) [("_law_seat", 12)] [12] rfl sc_law.nd (sw_true rfl rfl rfl (by decide +kernel)) (di_range1 T.n_range (da_cons (de_var 4) da_nil)) (by decide +kernel) (fun _ _ _ _ _ => ⟨_, (dg_name 12 sc_law.nd)⟩) (fun _ _ _ _ _ => ⟨_, dts_nil⟩) (fun _ _ _ _ _ => ⟨_, (de_bin op_sub rv_sub (de_callG ((ok_l_draw T).mono (k := 7) (by decide)) hr hgu T.m_l_draw T.k_l_draw takes0 (do_own 1 (do_val de_int do_nil))) (deo de_int))⟩))
      (dss_cons (ds_set 6 sc_law.nd (de_callG ((ok_l_word T).mono (k := 7) (by decide)) hr hgu T.m_l_word T.k_l_word tk (do_val (de_var 5) do_nil)))
      (dss_cons (dx_setLc 7 ["_law_script", "_law_pen_here", "_law_long", "_law_turn", "_law_size", "_law_acts", "_law_rhythm", "_law_more", "_law_other", "_law_due", "_law_many", "_law_doubled", "_law_seat"] (defScope s_law) [("_law_seat", 12)] [12] rfl sc_law.nd (sw_true rfl rfl rfl (by decide +kernel)) (di_range1 T.n_range (da_cons (de_bin op_addU rv_add de_int (deo (de_callG ((ok_l_draw T).mono (k := 7) (by decide)) hr hgu T.m_l_draw T.k_l_draw tk (do_own 1 (do_val de_int do_nil))))) da_nil)) (by decide +kernel) (fun _ _ _ _ _ => ⟨_, (dg_name 12 sc_law.nd)⟩) (fun _ _ _ _ _ => ⟨_, dts_nil⟩) (fun _ _ _ _ _ => ⟨_, (de_bin op_sub rv_sub (de_callG ((ok_l_draw T).mono (k := 7) (by decide)) hr hgu T.m_l_draw T.k_l_draw takes0 (do_own 1 (do_val de_int do_nil))) (deo de_int))⟩))
      (dss_cons (ds_if (J := [1]) (dt_not (dt_val (de_callG ((ok_l_faces_right T).mono (k := 7) (by decide)) hr hgu T.m_l_faces_right T.k_l_faces_right tk (do_own 1 (do_val (de_var 6) (do_val (de_var 5) do_nil))))))
      (dss_one (ds_ret (J1 := [1]) de_bl))
      dss_nil)
      (dss_cons (ds_set 8 sc_law.nd (de_callG ((ok_l_word T).mono (k := 7) (by decide)) hr hgu T.m_l_word T.k_l_word tk (do_val (de_var 7) do_nil)))
      (dss_cons (ds_set 9 sc_law.nd (de_if (dt_cmp (op_ltU hu0) rv_lt (de_bin op_addU rv_add (de_var 4) (deo (de_callB call_lenU rv_len T.n_len (by rfl) (dao_one (deo (de_var 7)))))) (deo de_int)) (de_callTy call_tuple_of rv_tuple T.n_tuple (by rfl) (dao_one (deo (de_bin op_addU rv_add (de_var 5) (deo (de_var 7)))))) de_str))
      (dss_cons (ds_if (J := [1]) (dt_w (dw_or (dt_cmp (op_neU hu64) rv_neU (de_callL (kb := 5) [1] ((okL_l_told T).mono (k := 7) (by decide)) hr hgu T.m_l_told T.k_l_told tk (fun j h => List.mem_append.mpr h) TB (hr.mono (by decide)) (LamX.lamS_by (sc := defScope s_law) (by decide +kernel)) (fun A outer s H E f c' hr hgu tk => by
      have hu1 := hu_of hr
      have hu65 := hu65_of hr
      have hu64 := hu64_of hr
      have hu0 := hu0_of hr
      have hu2 := hu2_of hr
      exact ⟨_, (de_addX T.ic_Word T.sf_Word T.gs_Word___add__ T.gi_Word___add__ ((ok_Word___add__ T).mono (k := 5) (by decide)) hr hgu tk (de_var 6) (de_var 8))⟩)) (deo (de_var 9))) (dw_or (dt_cmp (op_neU hu64) rv_neU (de_propG T.ic_Word T.cl_Word T.pr_Word_deeds ((ok_Word_deeds T).mono (k := 6) (by decide)) hr hgu (de_var 6)) (deo (de_callTy call_tuple_of rv_tuple T.n_tuple (by rfl) (dao_one (deo (de_var 5)))))) (dw_or1 (dt_cmp (op_neU hu64) rv_neU (de_propG T.ic_Word T.cl_Word T.pr_Word_deeds ((ok_Word_deeds T).mono (k := 6) (by decide)) hr hgu (de_var 8)) (deo (de_callTy call_tuple_of rv_tuple T.n_tuple (by rfl) (dao_one (deo (de_var 7))))))))))
      (dss_one (ds_ret (J1 := [1]) de_bl))
      dss_nil)
      (dss_cons (ds_set 10 sc_law.nd (de_ix (ix_U hu1) rv_ix (de_new (dn_lst (da_cons de_int (da_cons de_int (da_cons (de_bin op_addU rv_add de_int (deo (de_callG ((ok_l_draw T).mono (k := 7) (by decide)) hr hgu T.m_l_draw T.k_l_draw tk (do_own 1 (do_val de_int do_nil))))) (da_cons de_int da_nil)))))) (deo (de_callG ((ok_l_draw T).mono (k := 7) (by decide)) hr hgu T.m_l_draw T.k_l_draw tk (do_own 1 (do_val de_int do_nil))))))
      (dss_cons (ds_set 9 sc_law.nd (de_if (dt_cmp (op_ltU hu0) rv_lt (de_bin op_mulU rv_mul (de_var 4) (deo (de_var 10))) (deo de_int)) (de_bin op_mulU rv_mul (de_callTy call_tuple_of rv_tuple T.n_tuple (by rfl) (dao_one (deo (de_var 5)))) (deo (de_var 10))) de_str))
      (dss_cons (ds_if (J := [1]) (dt_cmp (op_neU hu64) rv_neU (de_callL (kb := 5) [1] ((okL_l_told T).mono (k := 7) (by decide)) hr hgu T.m_l_told T.k_l_told tk (fun j h => List.mem_append.mpr h) TB (hr.mono (by decide)) (LamX.lamS_by (sc := defScope s_law) (by decide +kernel)) (fun A outer s H E f c' hr hgu tk => by
      have hu1 := hu_of hr
      have hu65 := hu65_of hr
      have hu64 := hu64_of hr
      have hu0 := hu0_of hr
      have hu2 := hu2_of hr
      exact ⟨_, (de_mulX T.ic_Word T.sf_Word T.gs_Word___mul__ T.rm_Word T.gi_Word___mul__ ((ok_Word___mul__ T).mono (k := 5) (by decide)) hr hgu tk (de_var 6) (de_var 10))⟩)) (deo (de_var 9)))
      (dss_one (ds_ret (J1 := [1]) de_bl))
      dss_nil)
      (dss_cons (ds_set 11 sc_law.nd (de_if (dt_cmp (op_ltU hu0) rv_lt (de_var 4) (deo de_int)) (de_addX T.ic_Word T.sf_Word T.gs_Word___add__ T.gi_Word___add__ ((ok_Word___add__ T).mono (k := 7) (by decide)) hr hgu tk (de_var 6) (de_var 6)) (de_var 6)))
      (dss_cons (ds_if (J := [1]) (dt_w (dw_or (dt_cmp (op_neU hu64) rv_neU (de_eqOwnA T.ic_Word T.ef_Word ((ok_Word___eq__ T).mono (k := 6) (by decide)) hr hgu (de_var 6) (de_var 11)) (deo (de_cmp (op_gtU hu0) rv_gtU (de_var 4) (deo de_int)))) (dw_or1 (dt_eqOwnA true (op_neOwnA T.ef_Word ((ok_Word___eq__ T).mono (k := 6) (by decide)) hr hgu) T.ic_Word (de_var 6) (de_mulX T.ic_Word T.sf_Word T.gs_Word___mul__ T.rm_Word T.gi_Word___mul__ ((ok_Word___mul__ T).mono (k := 7) (by decide)) hr hgu tk (de_var 6) de_int)))))
      (dss_one (ds_ret (J1 := [1]) de_bl))
      dss_nil)
      (dss_one (ds_if (J := [1]) (dt_w (dw_or (dt_cmp (op_neU hu64) rv_neU (de_eqOwnA T.ic_Word T.ef_Word ((ok_Word___eq__ T).mono (k := 6) (by decide)) hr hgu (de_var 6) (de_var 8)) (deo (de_cmp (op_eqU hu64) rv_eqU (de_var 5) (deo (de_var 7))))) (dw_or (dt_cmp (op_neU hu64) rv_neU (de_neOwnA T.ic_Word T.ef_Word ((ok_Word___eq__ T).mono (k := 6) (by decide)) hr hgu (de_var 6) (de_var 8)) (deo (de_cmp (op_neU hu64) rv_neU (de_var 5) (deo (de_var 7))))) (dw_or1 (dt_eqOwnA true (op_neOwnA T.ef_Word ((ok_Word___eq__ T).mono (k := 6) (by decide)) hr hgu) T.ic_Word (de_var 6) (de_callG ((ok_l_word T).mono (k := 7) (by decide)) hr hgu T.m_l_word T.k_l_word tk (do_val (de_var 5) do_nil)))))))
      (dss_one (ds_ret (J1 := [1]) de_bl))
      dss_nil))))))))))))))))
      (dss_one (ds_ret (J1 := [1]) de_bl)))))))) fun _ _ _ _ h => h
end
theorem all_mk {l : PySem.W.OpenLaw} {w : World} {K : PySem.W.Frag} {h : Heap} {mg : Str → Option Value} {fa : Addr} (X : K.In h) (G : h.Ns mainGlobals mg) (hfa : mg "law" = some (.ref fa))
    {C0 : Addr}
    {f0 : Addr} {od0 an0 : Option Addr} {sl0 : Array (Option Value)} {oc0 kV0 dc0 pm0 cd0 ct0 : Value}
    {f1 : Addr} {od1 an1 : Option Addr} {sl1 : Array (Option Value)} {oc1 kV1 dc1 pm1 cd1 ct1 : Value}
    {f2 : Addr} {od2 an2 : Option Addr} {sl2 : Array (Option Value)} {oc2 kV2 dc2 pm2 cd2 ct2 : Value}
    {f3 : Addr} {od3 an3 : Option Addr} {sl3 : Array (Option Value)} {oc3 kV3 dc3 pm3 cd3 ct3 : Value}
    {f4 : Addr} {od4 an4 : Option Addr} {sl4 : Array (Option Value)} {oc4 kV4 dc4 pm4 cd4 ct4 : Value}
    {f5 : Addr} {od5 an5 : Option Addr} {sl5 : Array (Option Value)} {oc5 kV5 dc5 pm5 cd5 ct5 : Value}
    {q5 : Addr} {rr5 : List Value}
    {f6 : Addr} {od6 an6 : Option Addr} {sl6 : Array (Option Value)} {oc6 kV6 dc6 pm6 cd6 ct6 : Value}
    {f7 : Addr} {od7 an7 : Option Addr} {sl7 : Array (Option Value)} {oc7 kV7 dc7 pm7 cd7 ct7 : Value}
    {f8 : Addr} {od8 an8 : Option Addr} {sl8 : Array (Option Value)} {oc8 kV8 dc8 pm8 cd8 ct8 : Value}
    {f9 : Addr} {od9 an9 : Option Addr} {sl9 : Array (Option Value)} {oc9 kV9 dc9 pm9 cd9 ct9 : Value}
    {f10 : Addr} {od10 an10 : Option Addr} {sl10 : Array (Option Value)} {oc10 kV10 dc10 pm10 cd10 ct10 : Value}
    {f11 : Addr} {od11 an11 : Option Addr} {sl11 : Array (Option Value)} {oc11 kV11 dc11 pm11 cd11 ct11 : Value}
    {f12 : Addr} {od12 an12 : Option Addr} {sl12 : Array (Option Value)} {oc12 kV12 dc12 pm12 cd12 ct12 : Value}
    {f13 : Addr} {od13 an13 : Option Addr} {sl13 : Array (Option Value)} {oc13 kV13 dc13 pm13 cd13 ct13 : Value}
    {f14 : Addr} {od14 an14 : Option Addr} {sl14 : Array (Option Value)} {oc14 kV14 dc14 pm14 cd14 ct14 : Value}
    {f15 : Addr} {od15 an15 : Option Addr} {sl15 : Array (Option Value)} {oc15 kV15 dc15 pm15 cd15 ct15 : Value}
    (aC0 : PySem.W.nsIn K mainGlobals "Word" = some (some (.ref C0)))
    (pg0 : PySem.W.plainGet K C0 Str.empty = true)
    (hd0 : PySem.W.hasDictIn K C0 = true)
    (po0 : PySem.W.plainOver K C0 = true)
    (sa0 : PySem.W.findIn K (.ref C0) "__setattr__" = some (some (.builtin "object.__setattr__")))
    (mk0 : PySem.W.makesIn K C0 = true)
    (kc0 : PySem.W.keepIn K (.ref C0) = true)
    (sf0 : PySem.W.selfFirst K C0 = true)
    (rm0 : PySem.W.findIn K (.ref C0) "__rmul__" = some none)
    (mo0 : PySem.W.mroIn K C0 (.type "object") = some true)
    (ne0 : PySem.W.findIn K (.ref C0) "__ne__" = some (some (.builtin "object.__ne__")))
    (mN0 : PySem.W.mroIn K C0 (.type "NoneType") = some false)
    (mI0 : PySem.W.mroIn K C0 (.type "int") = some false)
    (mT0 : PySem.W.mroIn K C0 (.type "tuple") = some false)
    (mL0 : PySem.W.mroIn K C0 (.type "list") = some false)
    (mS0 : PySem.W.mroIn K C0 (.type "str") = some false)
    (mD0 : PySem.W.mroIn K C0 (.type "dict") = some false)
    (qa0 : PySem.W.findIn K (.ref C0) "__class__" = some (some (.builtin "object.__class__")))
    (qn0 : PySem.W.specialIn K (.builtin "object.__class__") "__get__" = some (some (.builtin "getset_descriptor.__get__")))
    (qt0 : PySem.W.takesIn K (.builtin "object.__class__") = some true)
    (kN0 : PySem.W.kitOne K (.type "NoneType") (.ref C0) = some false)
    (kI0 : PySem.W.kitOne K (.type "int") (.ref C0) = some false)
    (kT0 : PySem.W.kitOne K (.type "tuple") (.ref C0) = some false)
    (kL0 : PySem.W.kitOne K (.type "list") (.ref C0) = some false)
    (kS0 : PySem.W.kitOne K (.type "str") (.ref C0) = some false)
    (kD0 : PySem.W.kitOne K (.type "dict") (.ref C0) = some false)
    (na0_rows : PySem.W.findIn K (.ref C0) "rows" = some none)
    {E0 : Addr}
    {E1 : Addr}
    {E2 : Addr}
    {E3 : Addr}
    (eC0 : PySem.W.nsIn K mainGlobals "PlainError" = some (some (.ref E0)))
    (eC1 : PySem.W.nsIn K mainGlobals "InvalidState" = some (some (.ref E1)))
    (eC2 : PySem.W.nsIn K mainGlobals "InvalidWord" = some (some (.ref E2)))
    (eC3 : PySem.W.nsIn K mainGlobals "InvalidDeed" = some (some (.ref E3)))
    (eqn : PySem.W.specialIn K (.builtin "object.__class__") "__get__" = some (some (.builtin "getset_descriptor.__get__")))
    (eqt : PySem.W.takesIn K (.builtin "object.__class__") = some true)
    (es0 : PySem.W.subIn K (.ref E0) (.type "BaseException") = some true)
    (et0 : PySem.W.typeIn K (.ref E0) = some (.type "type"))
    (ed0 : PySem.W.hasDictIn K E0 = true)
    (es2 : PySem.W.subIn K (.ref E2) (.type "BaseException") = some true)
    (et2 : PySem.W.typeIn K (.ref E2) = some (.type "type"))
    (ek2 : PySem.W.keepIn K (.ref E2) = true)
    (ex2 : PySem.W.excIn K E2 PySem.HandSPX.veTail "ValueError.__new__" = true)
    (ed2 : PySem.W.hasDictIn K E2 = true)
    (eg2 : PySem.W.findIn K (.ref E2) "__getattribute__" = some (some (.builtin "BaseException.__getattribute__")))
    (eh2 : PySem.W.findIn K (.ref E2) "__getattr__" = some none)
    (eq2 : PySem.W.findIn K (.ref E2) "__class__" = some (some (.builtin "object.__class__")))
    (eo2 : PySem.W.mroIn K E2 (.type "object") = some true)
    (eu2_PlainError : PySem.W.subIn K (.ref E2) (.ref E0) = some true)
    (kX2_InvalidWord : PySem.W.kitOne K (.ref E2) (.ref E2) = some true)
    (kX2_ValueError : PySem.W.kitOne K (.ref E2) (.type "ValueError") = some true)
    (kX2_InvalidDeed : PySem.W.kitOne K (.ref E2) (.ref E3) = some false)
    (kX2_InvalidState : PySem.W.kitOne K (.ref E2) (.ref E1) = some false)
    (a0 : PySem.W.nsIn K mainGlobals "_law_pen" = some (some (.ref f0)))
    (l0 : K.lookup f0 = some ⟨oc0, od0, .func (PySem.W.fnOf "_law_pen" "_law_pen" (defArgs s_l_pen) (defBody s_l_pen) (defScope s_l_pen) .none kV0 dc0 pm0 an0 cd0 ct0), sl0⟩)
    (c0 : PySem.W.codeIn K cd0 "_law_pen" = true)
    (k0 : PySem.W.keepIn K (.ref f0) = true)
    (a1 : PySem.W.nsIn K mainGlobals "is_entry" = some (some (.ref f1)))
    (l1 : K.lookup f1 = some ⟨oc1, od1, .func (PySem.W.fnOf "is_entry" "is_entry" (defArgs s_is_entry) (defBody s_is_entry) (defScope s_is_entry) .none kV1 dc1 pm1 an1 cd1 ct1), sl1⟩)
    (c1 : PySem.W.codeIn K cd1 "is_entry" = true)
    (k1 : PySem.W.keepIn K (.ref f1) = true)
    (a2 : PySem.W.findIn K (.ref C0) "__init__" = some (some (.ref f2)))
    (i2 : PySem.W.isFn K (.ref f2) = true)
    (l2 : K.lookup f2 = some ⟨oc2, od2, .func (PySem.W.fnOf "__init__" "Word.__init__" (defArgs s_Word___init__) (defBody s_Word___init__) (defScope s_Word___init__) .none kV2 dc2 pm2 an2 cd2 ct2), sl2⟩)
    (c2 : PySem.W.codeIn K cd2 "Word.__init__" = true)
    (k2 : PySem.W.keepIn K (.ref f2) = true)
    (a3 : PySem.W.findIn K (.ref C0) "__eq__" = some (some (.ref f3)))
    (i3 : PySem.W.isFn K (.ref f3) = true)
    (l3 : K.lookup f3 = some ⟨oc3, od3, .func (PySem.W.fnOf "__eq__" "Word.__eq__" (defArgs s_Word___eq__) (defBody s_Word___eq__) (defScope s_Word___eq__) .none kV3 dc3 pm3 an3 cd3 ct3), sl3⟩)
    (c3 : PySem.W.codeIn K cd3 "Word.__eq__" = true)
    (k3 : PySem.W.keepIn K (.ref f3) = true)
    (a4 : PySem.W.nsIn K mainGlobals "_law_draw" = some (some (.ref f4)))
    (l4 : K.lookup f4 = some ⟨oc4, od4, .func (PySem.W.fnOf "_law_draw" "_law_draw" (defArgs s_l_draw) (defBody s_l_draw) (defScope s_l_draw) .none kV4 dc4 pm4 an4 cd4 ct4), sl4⟩)
    (c4 : PySem.W.codeIn K cd4 "_law_draw" = true)
    (k4 : PySem.W.keepIn K (.ref f4) = true)
    (a5 : PySem.W.findIn K (.ref C0) "deeds" = some (some (.ref q5)))
    (g5 : PySem.W.specialIn K (.ref q5) "__get__" = some (some (.builtin "property.__get__")))
    (t5 : PySem.W.takesIn K (.ref q5) = some true)
    (r5 : PySem.W.recIn K q5 "property" = some (.ref f5 :: rr5))
    (l5 : K.lookup f5 = some ⟨oc5, od5, .func (PySem.W.fnOf "deeds" "Word.deeds" (defArgs s_Word_deeds) (defBody s_Word_deeds) (defScope s_Word_deeds) .none kV5 dc5 pm5 an5 cd5 ct5), sl5⟩)
    (c5 : PySem.W.codeIn K cd5 "Word.deeds" = true)
    (k5 : PySem.W.keepIn K (.ref f5) = true)
    (a6 : PySem.W.nsIn K mainGlobals "_law_told" = some (some (.ref f6)))
    (l6 : K.lookup f6 = some ⟨oc6, od6, .func (PySem.W.fnOf "_law_told" "_law_told" (defArgs s_l_told) (defBody s_l_told) (defScope s_l_told) .none kV6 dc6 pm6 an6 cd6 ct6), sl6⟩)
    (c6 : PySem.W.codeIn K cd6 "_law_told" = true)
    (k6 : PySem.W.keepIn K (.ref f6) = true)
    (a7 : PySem.W.nsIn K mainGlobals "_law_made" = some (some (.ref f7)))
    (l7 : K.lookup f7 = some ⟨oc7, od7, .func (PySem.W.fnOf "_law_made" "_law_made" (defArgs s_l_made) (defBody s_l_made) (defScope s_l_made) .none kV7 dc7 pm7 an7 cd7 ct7), sl7⟩)
    (c7 : PySem.W.codeIn K cd7 "_law_made" = true)
    (k7 : PySem.W.keepIn K (.ref f7) = true)
    (a8 : PySem.W.nsIn K mainGlobals "_law_refused" = some (some (.ref f8)))
    (l8 : K.lookup f8 = some ⟨oc8, od8, .func (PySem.W.fnOf "_law_refused" "_law_refused" (defArgs s_l_refused) (defBody s_l_refused) (defScope s_l_refused) .none kV8 dc8 pm8 an8 cd8 ct8), sl8⟩)
    (tf8 : DH.tabB K f8 "_law_refused.<locals>.<lambda>" = true)
    (c8 : PySem.W.codeIn K cd8 "_law_refused" = true)
    (k8 : PySem.W.keepIn K (.ref f8) = true)
    (a9 : PySem.W.findIn K (.ref C0) "__add__" = some (some (.ref f9)))
    (i9 : PySem.W.isFn K (.ref f9) = true)
    (l9 : K.lookup f9 = some ⟨oc9, od9, .func (PySem.W.fnOf "__add__" "Word.__add__" (defArgs s_Word___add__) (defBody s_Word___add__) (defScope s_Word___add__) .none kV9 dc9 pm9 an9 cd9 ct9), sl9⟩)
    (c9 : PySem.W.codeIn K cd9 "Word.__add__" = true)
    (k9 : PySem.W.keepIn K (.ref f9) = true)
    (a10 : PySem.W.nsIn K mainGlobals "_law_word" = some (some (.ref f10)))
    (l10 : K.lookup f10 = some ⟨oc10, od10, .func (PySem.W.fnOf "_law_word" "_law_word" (defArgs s_l_word) (defBody s_l_word) (defScope s_l_word) .none kV10 dc10 pm10 an10 cd10 ct10), sl10⟩)
    (c10 : PySem.W.codeIn K cd10 "_law_word" = true)
    (k10 : PySem.W.keepIn K (.ref f10) = true)
    (a11 : PySem.W.findIn K (.ref C0) "__len__" = some (some (.ref f11)))
    (i11 : PySem.W.isFn K (.ref f11) = true)
    (l11 : K.lookup f11 = some ⟨oc11, od11, .func (PySem.W.fnOf "__len__" "Word.__len__" (defArgs s_Word___len__) (defBody s_Word___len__) (defScope s_Word___len__) .none kV11 dc11 pm11 an11 cd11 ct11), sl11⟩)
    (c11 : PySem.W.codeIn K cd11 "Word.__len__" = true)
    (k11 : PySem.W.keepIn K (.ref f11) = true)
    (a12 : PySem.W.findIn K (.ref C0) "__getitem__" = some (some (.ref f12)))
    (i12 : PySem.W.isFn K (.ref f12) = true)
    (n12 : PySem.W.fnIn K f12 = true)
    (l12 : K.lookup f12 = some ⟨oc12, od12, .func (PySem.W.fnOf "__getitem__" "Word.__getitem__" (defArgs s_Word___getitem__) (defBody s_Word___getitem__) (defScope s_Word___getitem__) .none kV12 dc12 pm12 an12 cd12 ct12), sl12⟩)
    (c12 : PySem.W.codeIn K cd12 "Word.__getitem__" = true)
    (k12 : PySem.W.keepIn K (.ref f12) = true)
    (a13 : PySem.W.nsIn K mainGlobals "_law_faces_right" = some (some (.ref f13)))
    (l13 : K.lookup f13 = some ⟨oc13, od13, .func (PySem.W.fnOf "_law_faces_right" "_law_faces_right" (defArgs s_l_faces_right) (defBody s_l_faces_right) (defScope s_l_faces_right) .none kV13 dc13 pm13 an13 cd13 ct13), sl13⟩)
    (c13 : PySem.W.codeIn K cd13 "_law_faces_right" = true)
    (k13 : PySem.W.keepIn K (.ref f13) = true)
    (a14 : PySem.W.findIn K (.ref C0) "__mul__" = some (some (.ref f14)))
    (i14 : PySem.W.isFn K (.ref f14) = true)
    (l14 : K.lookup f14 = some ⟨oc14, od14, .func (PySem.W.fnOf "__mul__" "Word.__mul__" (defArgs s_Word___mul__) (defBody s_Word___mul__) (defScope s_Word___mul__) .none kV14 dc14 pm14 an14 cd14 ct14), sl14⟩)
    (c14 : PySem.W.codeIn K cd14 "Word.__mul__" = true)
    (k14 : PySem.W.keepIn K (.ref f14) = true)
    (a15 : PySem.W.nsIn K mainGlobals "law" = some (some (.ref f15)))
    (l15 : K.lookup f15 = some ⟨oc15, od15, .func (PySem.W.fnOf "law" "law" (defArgs s_law) (defBody s_law) (defScope s_law) .none kV15 dc15 pm15 an15 cd15 ct15), sl15⟩)
    (tf15 : DH.tabB K f15 "law.<locals>.<lambda>" = true)
    (c15 : PySem.W.codeIn K cd15 "law" = true)
    (k15 : PySem.W.keepIn K (.ref f15) = true)
    {tg_GREATEST_ENTRY : Tok}
    (gi_GREATEST_ENTRY : PySem.W.nsIn K mainGlobals "GREATEST_ENTRY" = some (some (.int 4 tg_GREATEST_ENTRY)))
    {tg_MOST_ENTRIES : Tok}
    (gi_MOST_ENTRIES : PySem.W.nsIn K mainGlobals "MOST_ENTRIES" = some (some (.int 12 tg_MOST_ENTRIES)))
    (z_ValueError : PySem.W.nsIn K mainGlobals "ValueError" = some none)
    (z_abs : PySem.W.nsIn K mainGlobals "abs" = some none)
    (z_all : PySem.W.nsIn K mainGlobals "all" = some none)
    (z_bool : PySem.W.nsIn K mainGlobals "bool" = some none)
    (z_int : PySem.W.nsIn K mainGlobals "int" = some none)
    (z_isinstance : PySem.W.nsIn K mainGlobals "isinstance" = some none)
    (z_len : PySem.W.nsIn K mainGlobals "len" = some none)
    (z_list : PySem.W.nsIn K mainGlobals "list" = some none)
    (z_range : PySem.W.nsIn K mainGlobals "range" = some none)
    (z_repr : PySem.W.nsIn K mainGlobals "repr" = some none)
    (z_tuple : PySem.W.nsIn K mainGlobals "tuple" = some none)
    (hlaw : ∀ ns : List Int, ns.length ≤ 63 → G_law [some (.slst (ns.map D.int))] (fun d _ => d = .bl true) fun _ _ => False) :
    ∀ base : Heap, K.In base → base.Ns mainGlobals mg → FnG l.prog w K mg base 8 fa (spLaw K) := by
  have e := hfa.symm.trans (PySem.W.mg_of X G a15)
  cases e
  have F0 := funG_mk (st := s_l_pen) l0 c0 k0
  have b0 := binds_none (K := K) (ps := ["_law_script"]) (fd := PySem.W.fnOf "_law_pen" "_law_pen" (defArgs s_l_pen) (defBody s_l_pen) (defScope s_l_pen) .none kV0 dc0 pm0 an0 cd0 ct0) fun us hl => match us, hl with | [_], _ => rfl
  have F1 := funG_mk (st := s_is_entry) l1 c1 k1
  have b1 := binds_none (K := K) (ps := ["value"]) (fd := PySem.W.fnOf "is_entry" "is_entry" (defArgs s_is_entry) (defBody s_is_entry) (defScope s_is_entry) .none kV1 dc1 pm1 an1 cd1 ct1) fun us hl => match us, hl with | [_], _ => rfl
  have F2 := funG_mk (st := s_Word___init__) l2 c2 k2
  have b2 : ∀ us rest : List Value, us.length = (["self"] : List Str).length → bindArgs (PySem.W.fnOf "__init__" "Word.__init__" (defArgs s_Word___init__) (defBody s_Word___init__) (defScope s_Word___init__) .none kV2 dc2 pm2 an2 cd2 ct2) ⟨us ++ rest, []⟩ = (newTuple rest >>= fun t => pure (List.zip (["self"] : List Str) us ++ [(("deeds" : Str), t)])) := fun us rest hl => match us, rest, hl with | [_], [], _ => rfl | [_], _ :: _, _ => rfl
  have F3 := funG_mk (st := s_Word___eq__) l3 c3 k3
  have b3 := binds_none (K := K) (ps := ["self", "other"]) (fd := PySem.W.fnOf "__eq__" "Word.__eq__" (defArgs s_Word___eq__) (defBody s_Word___eq__) (defScope s_Word___eq__) .none kV3 dc3 pm3 an3 cd3 ct3) fun us hl => match us, hl with | [_, _], _ => rfl
  have F4 := funG_mk (st := s_l_draw) l4 c4 k4
  have b4 := binds_none (K := K) (ps := ["_law_pen_here", "_law_limit"]) (fd := PySem.W.fnOf "_law_draw" "_law_draw" (defArgs s_l_draw) (defBody s_l_draw) (defScope s_l_draw) .none kV4 dc4 pm4 an4 cd4 ct4) fun us hl => match us, hl with | [_, _], _ => rfl
  have F5 := funG_mk (st := s_Word_deeds) l5 c5 k5
  have b5 := binds_none (K := K) (ps := ["self"]) (fd := PySem.W.fnOf "deeds" "Word.deeds" (defArgs s_Word_deeds) (defBody s_Word_deeds) (defScope s_Word_deeds) .none kV5 dc5 pm5 an5 cd5 ct5) fun us hl => match us, hl with | [_], _ => rfl
  have F6 := funG_mk (st := s_l_told) l6 c6 k6
  have b6 := binds_none (K := K) (ps := ["_law_ask"]) (fd := PySem.W.fnOf "_law_told" "_law_told" (defArgs s_l_told) (defBody s_l_told) (defScope s_l_told) .none kV6 dc6 pm6 an6 cd6 ct6) fun us hl => match us, hl with | [_], _ => rfl
  have F7 := funG_mk (st := s_l_made) l7 c7 k7
  have b7 := binds_none (K := K) (ps := ["_law_acts"]) (fd := PySem.W.fnOf "_law_made" "_law_made" (defArgs s_l_made) (defBody s_l_made) (defScope s_l_made) .none kV7 dc7 pm7 an7 cd7 ct7) fun us hl => match us, hl with | [_], _ => rfl
  have F8 := funG_mk (st := s_l_refused) l8 c8 k8
  obtain ⟨tc8, tp8, tb8⟩ := tab_get X G l8 tf8
  have b8 := binds_none (K := K) (ps := ["_law_pen_here"]) (fd := PySem.W.fnOf "_law_refused" "_law_refused" (defArgs s_l_refused) (defBody s_l_refused) (defScope s_l_refused) .none kV8 dc8 pm8 an8 cd8 ct8) fun us hl => match us, hl with | [_], _ => rfl
  have F9 := funG_mk (st := s_Word___add__) l9 c9 k9
  have b9 := binds_none (K := K) (ps := ["self", "other"]) (fd := PySem.W.fnOf "__add__" "Word.__add__" (defArgs s_Word___add__) (defBody s_Word___add__) (defScope s_Word___add__) .none kV9 dc9 pm9 an9 cd9 ct9) fun us hl => match us, hl with | [_, _], _ => rfl
  have F10 := funG_mk (st := s_l_word) l10 c10 k10
  have b10 := binds_none (K := K) (ps := ["_law_acts"]) (fd := PySem.W.fnOf "_law_word" "_law_word" (defArgs s_l_word) (defBody s_l_word) (defScope s_l_word) .none kV10 dc10 pm10 an10 cd10 ct10) fun us hl => match us, hl with | [_], _ => rfl
  have F11 := funG_mk (st := s_Word___len__) l11 c11 k11
  have b11 := binds_none (K := K) (ps := ["self"]) (fd := PySem.W.fnOf "__len__" "Word.__len__" (defArgs s_Word___len__) (defBody s_Word___len__) (defScope s_Word___len__) .none kV11 dc11 pm11 an11 cd11 ct11) fun us hl => match us, hl with | [_], _ => rfl
  have F12 := funG_mk (st := s_Word___getitem__) l12 c12 k12
  have b12 := binds_none (K := K) (ps := ["self", "number"]) (fd := PySem.W.fnOf "__getitem__" "Word.__getitem__" (defArgs s_Word___getitem__) (defBody s_Word___getitem__) (defScope s_Word___getitem__) .none kV12 dc12 pm12 an12 cd12 ct12) fun us hl => match us, hl with | [_, _], _ => rfl
  have F13 := funG_mk (st := s_l_faces_right) l13 c13 k13
  have b13 := binds_none (K := K) (ps := ["_law_pen_here", "_law_rhythm", "_law_acts"]) (fd := PySem.W.fnOf "_law_faces_right" "_law_faces_right" (defArgs s_l_faces_right) (defBody s_l_faces_right) (defScope s_l_faces_right) .none kV13 dc13 pm13 an13 cd13 ct13) fun us hl => match us, hl with | [_, _, _], _ => rfl
  have F14 := funG_mk (st := s_Word___mul__) l14 c14 k14
  have b14 := binds_none (K := K) (ps := ["self", "number"]) (fd := PySem.W.fnOf "__mul__" "Word.__mul__" (defArgs s_Word___mul__) (defBody s_Word___mul__) (defScope s_Word___mul__) .none kV14 dc14 pm14 an14 cd14 ct14) fun us hl => match us, hl with | [_, _], _ => rfl
  have F15 := funG_mk (st := s_law) l15 c15 k15
  obtain ⟨tc15, tp15, tb15⟩ := tab_get X G l15 tf15
  have b15 := binds_none (K := K) (ps := ["_law_script"]) (fd := PySem.W.fnOf "law" "law" (defArgs s_law) (defBody s_law) (defScope s_law) .none kV15 dc15 pm15 an15 cd15 ct15) fun us hl => match us, hl with | [_], _ => rfl
  have T : Tx K mg := ⟨C0, aC0, ⟨pg0, hd0, po0, sa0⟩, PySem.W.mg_of X G aC0, sf0, rm0, ⟨⟨fun _ _ _ _ e => .base (.ins e ⟨pg0, hd0, po0, sa0⟩ qa0 qn0 qt0 mo0), kN0, kI0, kT0⟩, kL0, kS0, kD0⟩, na0_rows, E0, eC0, PySem.W.mg_of X G eC0, E1, eC1, PySem.W.mg_of X G eC1, E2, eC2, PySem.W.mg_of X G eC2, E3, eC3, PySem.W.mg_of X G eC3, ⟨⟨eC2, PySem.W.mg_of X G eC2, ek2, es2, et2⟩, ex2⟩, ⟨eg2, eh2, es2, ed2, eq2, eqn, eqt, eo2⟩, (ts_cons eC2 (PySem.W.exm_ref es0 ed0 et0 eu2_PlainError) ts_nil), (ts_cons eC2 ⟨⟨eg2, eh2, es2, ed2, eq2, eqn, eqt, eo2⟩, kX2_InvalidWord⟩ ts_nil), (ts_cons eC2 ⟨⟨eg2, eh2, es2, ed2, eq2, eqn, eqt, eo2⟩, kX2_ValueError⟩ ts_nil), (ts_cons eC2 ⟨⟨eg2, eh2, es2, ed2, eq2, eqn, eqt, eo2⟩, (kitAny_cons kX2_InvalidDeed (fun h => (kitAny_cons kX2_InvalidState (fun h => kitAny_nil) (fun h => by cases h))) (fun h => by cases h))⟩ ts_nil), f0, _, F0, b0, PySem.W.mg_of X G a0, k0, f1, _, F1, b1, PySem.W.mg_of X G a1, k1, f2, _, F2, b2, ⟨mk0, a2, i2, kc0⟩, f3, _, F3, b3, ⟨a3, i3, k3⟩, ⟨⟨a3, i3, ne0, mo0, mN0, mI0, mT0⟩, mL0, mS0, mD0⟩, f4, _, F4, b4, PySem.W.mg_of X G a4, k4, f5, _, F5, b5, q5, ⟨a5, g5, t5, _, r5⟩, f6, _, F6, b6, PySem.W.mg_of X G a6, k6, f7, _, F7, b7, PySem.W.mg_of X G a7, k7, f8, _, F8, b8, PySem.W.mg_of X G a8, k8, f9, _, F9, b9, ⟨a9, i9, k9⟩, a9, i9, f10, _, F10, b10, PySem.W.mg_of X G a10, k10, f11, _, F11, b11, ⟨a11, i11, k11⟩, a11, i11, f12, _, F12, b12, ⟨a12, i12, k12⟩, a12, n12, i12, f13, _, F13, b13, PySem.W.mg_of X G a13, k13, f14, _, F14, b14, ⟨a14, i14, k14⟩, a14, i14, tc8, tp8, tb8, ⟨_, PySem.W.mg_of X G gi_GREATEST_ENTRY⟩, ⟨_, PySem.W.mg_of X G gi_MOST_ENTRIES⟩, PySem.W.mg_none_of X G z_ValueError, PySem.W.mg_none_of X G z_abs, PySem.W.mg_none_of X G z_all, PySem.W.mg_none_of X G z_bool, PySem.W.mg_none_of X G z_int, PySem.W.mg_none_of X G z_isinstance, PySem.W.mg_none_of X G z_len, PySem.W.mg_none_of X G z_list, PySem.W.mg_none_of X G z_range, PySem.W.mg_none_of X G z_repr, PySem.W.mg_none_of X G z_tuple⟩
  exact fun base _ _ => okG_law (ok_law T F15 b15 tb15) hlaw
theorem hp0 {K : PySem.W.Frag} (c : DH.Says hfa hds K) : (PySem.W.nsIn K mainGlobals "Word" = some (some (.ref (hC0 K)))) ∧ (PySem.W.plainGet K (hC0 K) Str.empty = true) ∧ (PySem.W.hasDictIn K (hC0 K) = true) ∧ (PySem.W.plainOver K (hC0 K) = true) ∧ (PySem.W.findIn K (.ref (hC0 K)) "__setattr__" = some (some (.builtin "object.__setattr__"))) ∧ (PySem.W.makesIn K (hC0 K) = true) ∧ (PySem.W.keepIn K (.ref (hC0 K)) = true) ∧ (PySem.W.selfFirst K (hC0 K) = true) := of_decide_eq_true (show decide ((PySem.W.nsIn K mainGlobals "Word" = some (some (.ref (hC0 K)))) ∧ (PySem.W.plainGet K (hC0 K) Str.empty = true) ∧ (PySem.W.hasDictIn K (hC0 K) = true) ∧ (PySem.W.plainOver K (hC0 K) = true) ∧ (PySem.W.findIn K (.ref (hC0 K)) "__setattr__" = some (some (.builtin "object.__setattr__"))) ∧ (PySem.W.makesIn K (hC0 K) = true) ∧ (PySem.W.keepIn K (.ref (hC0 K)) = true) ∧ (PySem.W.selfFirst K (hC0 K) = true)) = true from c.fact 0 rfl)
theorem hp1 {K : PySem.W.Frag} (c : DH.Says hfa hds K) : (PySem.W.findIn K (.ref (hC0 K)) "__rmul__" = some none) ∧ (PySem.W.mroIn K (hC0 K) (.type "object") = some true) ∧ (PySem.W.findIn K (.ref (hC0 K)) "__ne__" = some (some (.builtin "object.__ne__"))) ∧ (PySem.W.mroIn K (hC0 K) (.type "NoneType") = some false) ∧ (PySem.W.mroIn K (hC0 K) (.type "int") = some false) ∧ (PySem.W.mroIn K (hC0 K) (.type "tuple") = some false) ∧ (PySem.W.mroIn K (hC0 K) (.type "list") = some false) ∧ (PySem.W.mroIn K (hC0 K) (.type "str") = some false) := of_decide_eq_true (show decide ((PySem.W.findIn K (.ref (hC0 K)) "__rmul__" = some none) ∧ (PySem.W.mroIn K (hC0 K) (.type "object") = some true) ∧ (PySem.W.findIn K (.ref (hC0 K)) "__ne__" = some (some (.builtin "object.__ne__"))) ∧ (PySem.W.mroIn K (hC0 K) (.type "NoneType") = some false) ∧ (PySem.W.mroIn K (hC0 K) (.type "int") = some false) ∧ (PySem.W.mroIn K (hC0 K) (.type "tuple") = some false) ∧ (PySem.W.mroIn K (hC0 K) (.type "list") = some false) ∧ (PySem.W.mroIn K (hC0 K) (.type "str") = some false)) = true from c.fact 1 rfl)
theorem hp2 {K : PySem.W.Frag} (c : DH.Says hfa hds K) : (PySem.W.mroIn K (hC0 K) (.type "dict") = some false) ∧ (PySem.W.findIn K (.ref (hC0 K)) "__class__" = some (some (.builtin "object.__class__"))) ∧ (PySem.W.specialIn K (.builtin "object.__class__") "__get__" = some (some (.builtin "getset_descriptor.__get__"))) ∧ (PySem.W.takesIn K (.builtin "object.__class__") = some true) ∧ (PySem.W.kitOne K (.type "NoneType") (.ref (hC0 K)) = some false) ∧ (PySem.W.kitOne K (.type "int") (.ref (hC0 K)) = some false) ∧ (PySem.W.kitOne K (.type "tuple") (.ref (hC0 K)) = some false) ∧ (PySem.W.kitOne K (.type "list") (.ref (hC0 K)) = some false) := of_decide_eq_true (show decide ((PySem.W.mroIn K (hC0 K) (.type "dict") = some false) ∧ (PySem.W.findIn K (.ref (hC0 K)) "__class__" = some (some (.builtin "object.__class__"))) ∧ (PySem.W.specialIn K (.builtin "object.__class__") "__get__" = some (some (.builtin "getset_descriptor.__get__"))) ∧ (PySem.W.takesIn K (.builtin "object.__class__") = some true) ∧ (PySem.W.kitOne K (.type "NoneType") (.ref (hC0 K)) = some false) ∧ (PySem.W.kitOne K (.type "int") (.ref (hC0 K)) = some false) ∧ (PySem.W.kitOne K (.type "tuple") (.ref (hC0 K)) = some false) ∧ (PySem.W.kitOne K (.type "list") (.ref (hC0 K)) = some false)) = true from c.fact 2 rfl)
theorem hp3 {K : PySem.W.Frag} (c : DH.Says hfa hds K) : (PySem.W.kitOne K (.type "str") (.ref (hC0 K)) = some false) ∧ (PySem.W.kitOne K (.type "dict") (.ref (hC0 K)) = some false) ∧ (PySem.W.findIn K (.ref (hC0 K)) "rows" = some none) ∧ (PySem.W.nsIn K mainGlobals "PlainError" = some (some (.ref (hE0 K)))) ∧ (PySem.W.nsIn K mainGlobals "InvalidState" = some (some (.ref (hE1 K)))) ∧ (PySem.W.nsIn K mainGlobals "InvalidWord" = some (some (.ref (hE2 K)))) ∧ (PySem.W.nsIn K mainGlobals "InvalidDeed" = some (some (.ref (hE3 K)))) ∧ (PySem.W.specialIn K (.builtin "object.__class__") "__get__" = some (some (.builtin "getset_descriptor.__get__"))) := of_decide_eq_true (show decide ((PySem.W.kitOne K (.type "str") (.ref (hC0 K)) = some false) ∧ (PySem.W.kitOne K (.type "dict") (.ref (hC0 K)) = some false) ∧ (PySem.W.findIn K (.ref (hC0 K)) "rows" = some none) ∧ (PySem.W.nsIn K mainGlobals "PlainError" = some (some (.ref (hE0 K)))) ∧ (PySem.W.nsIn K mainGlobals "InvalidState" = some (some (.ref (hE1 K)))) ∧ (PySem.W.nsIn K mainGlobals "InvalidWord" = some (some (.ref (hE2 K)))) ∧ (PySem.W.nsIn K mainGlobals "InvalidDeed" = some (some (.ref (hE3 K)))) ∧ (PySem.W.specialIn K (.builtin "object.__class__") "__get__" = some (some (.builtin "getset_descriptor.__get__")))) = true from c.fact 3 rfl)
theorem hp4 {K : PySem.W.Frag} (c : DH.Says hfa hds K) : (PySem.W.takesIn K (.builtin "object.__class__") = some true) ∧ (PySem.W.subIn K (.ref (hE0 K)) (.type "BaseException") = some true) ∧ (PySem.W.typeIn K (.ref (hE0 K)) = some (.type "type")) ∧ (PySem.W.hasDictIn K (hE0 K) = true) ∧ (PySem.W.subIn K (.ref (hE2 K)) (.type "BaseException") = some true) ∧ (PySem.W.typeIn K (.ref (hE2 K)) = some (.type "type")) ∧ (PySem.W.keepIn K (.ref (hE2 K)) = true) ∧ (PySem.W.excIn K (hE2 K) PySem.HandSPX.veTail "ValueError.__new__" = true) := of_decide_eq_true (show decide ((PySem.W.takesIn K (.builtin "object.__class__") = some true) ∧ (PySem.W.subIn K (.ref (hE0 K)) (.type "BaseException") = some true) ∧ (PySem.W.typeIn K (.ref (hE0 K)) = some (.type "type")) ∧ (PySem.W.hasDictIn K (hE0 K) = true) ∧ (PySem.W.subIn K (.ref (hE2 K)) (.type "BaseException") = some true) ∧ (PySem.W.typeIn K (.ref (hE2 K)) = some (.type "type")) ∧ (PySem.W.keepIn K (.ref (hE2 K)) = true) ∧ (PySem.W.excIn K (hE2 K) PySem.HandSPX.veTail "ValueError.__new__" = true)) = true from c.fact 4 rfl)
theorem hp5 {K : PySem.W.Frag} (c : DH.Says hfa hds K) : (PySem.W.hasDictIn K (hE2 K) = true) ∧ (PySem.W.findIn K (.ref (hE2 K)) "__getattribute__" = some (some (.builtin "BaseException.__getattribute__"))) ∧ (PySem.W.findIn K (.ref (hE2 K)) "__getattr__" = some none) ∧ (PySem.W.findIn K (.ref (hE2 K)) "__class__" = some (some (.builtin "object.__class__"))) ∧ (PySem.W.mroIn K (hE2 K) (.type "object") = some true) ∧ (PySem.W.subIn K (.ref (hE2 K)) (.ref (hE0 K)) = some true) ∧ (PySem.W.kitOne K (.ref (hE2 K)) (.ref (hE2 K)) = some true) ∧ (PySem.W.kitOne K (.ref (hE2 K)) (.type "ValueError") = some true) := of_decide_eq_true (show decide ((PySem.W.hasDictIn K (hE2 K) = true) ∧ (PySem.W.findIn K (.ref (hE2 K)) "__getattribute__" = some (some (.builtin "BaseException.__getattribute__"))) ∧ (PySem.W.findIn K (.ref (hE2 K)) "__getattr__" = some none) ∧ (PySem.W.findIn K (.ref (hE2 K)) "__class__" = some (some (.builtin "object.__class__"))) ∧ (PySem.W.mroIn K (hE2 K) (.type "object") = some true) ∧ (PySem.W.subIn K (.ref (hE2 K)) (.ref (hE0 K)) = some true) ∧ (PySem.W.kitOne K (.ref (hE2 K)) (.ref (hE2 K)) = some true) ∧ (PySem.W.kitOne K (.ref (hE2 K)) (.type "ValueError") = some true)) = true from c.fact 5 rfl)
theorem hp6 {K : PySem.W.Frag} (c : DH.Says hfa hds K) : (PySem.W.kitOne K (.ref (hE2 K)) (.ref (hE3 K)) = some false) ∧ (PySem.W.kitOne K (.ref (hE2 K)) (.ref (hE1 K)) = some false) ∧ (PySem.W.nsIn K mainGlobals "_law_pen" = some (some (.ref (hf0 K)))) := of_decide_eq_true (show decide ((PySem.W.kitOne K (.ref (hE2 K)) (.ref (hE3 K)) = some false) ∧ (PySem.W.kitOne K (.ref (hE2 K)) (.ref (hE1 K)) = some false) ∧ (PySem.W.nsIn K mainGlobals "_law_pen" = some (some (.ref (hf0 K))))) = true from c.fact 6 rfl)
theorem hp9 {K : PySem.W.Frag} (c : DH.Says hfa hds K) : (PySem.W.keepIn K (.ref (hf0 K)) = true) ∧ (PySem.W.nsIn K mainGlobals "is_entry" = some (some (.ref (hf1 K)))) := of_decide_eq_true (show decide ((PySem.W.keepIn K (.ref (hf0 K)) = true) ∧ (PySem.W.nsIn K mainGlobals "is_entry" = some (some (.ref (hf1 K))))) = true from c.fact 9 rfl)
theorem hp12 {K : PySem.W.Frag} (c : DH.Says hfa hds K) : (PySem.W.keepIn K (.ref (hf1 K)) = true) ∧ (PySem.W.findIn K (.ref (hC0 K)) "__init__" = some (some (.ref (hf2 K)))) ∧ (PySem.W.isFn K (.ref (hf2 K)) = true) := of_decide_eq_true (show decide ((PySem.W.keepIn K (.ref (hf1 K)) = true) ∧ (PySem.W.findIn K (.ref (hC0 K)) "__init__" = some (some (.ref (hf2 K)))) ∧ (PySem.W.isFn K (.ref (hf2 K)) = true)) = true from c.fact 12 rfl)
theorem hp15 {K : PySem.W.Frag} (c : DH.Says hfa hds K) : (PySem.W.keepIn K (.ref (hf2 K)) = true) ∧ (PySem.W.findIn K (.ref (hC0 K)) "__eq__" = some (some (.ref (hf3 K)))) ∧ (PySem.W.isFn K (.ref (hf3 K)) = true) := of_decide_eq_true (show decide ((PySem.W.keepIn K (.ref (hf2 K)) = true) ∧ (PySem.W.findIn K (.ref (hC0 K)) "__eq__" = some (some (.ref (hf3 K)))) ∧ (PySem.W.isFn K (.ref (hf3 K)) = true)) = true from c.fact 15 rfl)
theorem hp18 {K : PySem.W.Frag} (c : DH.Says hfa hds K) : (PySem.W.keepIn K (.ref (hf3 K)) = true) ∧ (PySem.W.nsIn K mainGlobals "_law_draw" = some (some (.ref (hf4 K)))) := of_decide_eq_true (show decide ((PySem.W.keepIn K (.ref (hf3 K)) = true) ∧ (PySem.W.nsIn K mainGlobals "_law_draw" = some (some (.ref (hf4 K))))) = true from c.fact 18 rfl)
theorem hp21 {K : PySem.W.Frag} (c : DH.Says hfa hds K) : (PySem.W.keepIn K (.ref (hf4 K)) = true) ∧ (PySem.W.findIn K (.ref (hC0 K)) "deeds" = some (some (.ref (hq5 K)))) ∧ (PySem.W.specialIn K (.ref (hq5 K)) "__get__" = some (some (.builtin "property.__get__"))) ∧ (PySem.W.takesIn K (.ref (hq5 K)) = some true) := of_decide_eq_true (show decide ((PySem.W.keepIn K (.ref (hf4 K)) = true) ∧ (PySem.W.findIn K (.ref (hC0 K)) "deeds" = some (some (.ref (hq5 K)))) ∧ (PySem.W.specialIn K (.ref (hq5 K)) "__get__" = some (some (.builtin "property.__get__"))) ∧ (PySem.W.takesIn K (.ref (hq5 K)) = some true)) = true from c.fact 21 rfl)
theorem hp25 {K : PySem.W.Frag} (c : DH.Says hfa hds K) : (PySem.W.keepIn K (.ref (hf5 K)) = true) ∧ (PySem.W.nsIn K mainGlobals "_law_told" = some (some (.ref (hf6 K)))) := of_decide_eq_true (show decide ((PySem.W.keepIn K (.ref (hf5 K)) = true) ∧ (PySem.W.nsIn K mainGlobals "_law_told" = some (some (.ref (hf6 K))))) = true from c.fact 25 rfl)
theorem hp28 {K : PySem.W.Frag} (c : DH.Says hfa hds K) : (PySem.W.keepIn K (.ref (hf6 K)) = true) ∧ (PySem.W.nsIn K mainGlobals "_law_made" = some (some (.ref (hf7 K)))) := of_decide_eq_true (show decide ((PySem.W.keepIn K (.ref (hf6 K)) = true) ∧ (PySem.W.nsIn K mainGlobals "_law_made" = some (some (.ref (hf7 K))))) = true from c.fact 28 rfl)
theorem hp31 {K : PySem.W.Frag} (c : DH.Says hfa hds K) : (PySem.W.keepIn K (.ref (hf7 K)) = true) ∧ (PySem.W.nsIn K mainGlobals "_law_refused" = some (some (.ref (hf8 K)))) := of_decide_eq_true (show decide ((PySem.W.keepIn K (.ref (hf7 K)) = true) ∧ (PySem.W.nsIn K mainGlobals "_law_refused" = some (some (.ref (hf8 K))))) = true from c.fact 31 rfl)
theorem hp34 {K : PySem.W.Frag} (c : DH.Says hfa hds K) : (DH.tabB K (hf8 K) "_law_refused.<locals>.<lambda>" = true) ∧ (PySem.W.keepIn K (.ref (hf8 K)) = true) ∧ (PySem.W.findIn K (.ref (hC0 K)) "__add__" = some (some (.ref (hf9 K)))) ∧ (PySem.W.isFn K (.ref (hf9 K)) = true) := of_decide_eq_true (show decide ((DH.tabB K (hf8 K) "_law_refused.<locals>.<lambda>" = true) ∧ (PySem.W.keepIn K (.ref (hf8 K)) = true) ∧ (PySem.W.findIn K (.ref (hC0 K)) "__add__" = some (some (.ref (hf9 K)))) ∧ (PySem.W.isFn K (.ref (hf9 K)) = true)) = true from c.fact 34 rfl)
theorem hp37 {K : PySem.W.Frag} (c : DH.Says hfa hds K) : (PySem.W.keepIn K (.ref (hf9 K)) = true) ∧ (PySem.W.nsIn K mainGlobals "_law_word" = some (some (.ref (hf10 K)))) := of_decide_eq_true (show decide ((PySem.W.keepIn K (.ref (hf9 K)) = true) ∧ (PySem.W.nsIn K mainGlobals "_law_word" = some (some (.ref (hf10 K))))) = true from c.fact 37 rfl)
theorem hp40 {K : PySem.W.Frag} (c : DH.Says hfa hds K) : (PySem.W.keepIn K (.ref (hf10 K)) = true) ∧ (PySem.W.findIn K (.ref (hC0 K)) "__len__" = some (some (.ref (hf11 K)))) ∧ (PySem.W.isFn K (.ref (hf11 K)) = true) := of_decide_eq_true (show decide ((PySem.W.keepIn K (.ref (hf10 K)) = true) ∧ (PySem.W.findIn K (.ref (hC0 K)) "__len__" = some (some (.ref (hf11 K)))) ∧ (PySem.W.isFn K (.ref (hf11 K)) = true)) = true from c.fact 40 rfl)
theorem hp43 {K : PySem.W.Frag} (c : DH.Says hfa hds K) : (PySem.W.keepIn K (.ref (hf11 K)) = true) ∧ (PySem.W.findIn K (.ref (hC0 K)) "__getitem__" = some (some (.ref (hf12 K)))) ∧ (PySem.W.isFn K (.ref (hf12 K)) = true) ∧ (PySem.W.fnIn K (hf12 K) = true) := of_decide_eq_true (show decide ((PySem.W.keepIn K (.ref (hf11 K)) = true) ∧ (PySem.W.findIn K (.ref (hC0 K)) "__getitem__" = some (some (.ref (hf12 K)))) ∧ (PySem.W.isFn K (.ref (hf12 K)) = true) ∧ (PySem.W.fnIn K (hf12 K) = true)) = true from c.fact 43 rfl)
theorem hp46 {K : PySem.W.Frag} (c : DH.Says hfa hds K) : (PySem.W.keepIn K (.ref (hf12 K)) = true) ∧ (PySem.W.nsIn K mainGlobals "_law_faces_right" = some (some (.ref (hf13 K)))) := of_decide_eq_true (show decide ((PySem.W.keepIn K (.ref (hf12 K)) = true) ∧ (PySem.W.nsIn K mainGlobals "_law_faces_right" = some (some (.ref (hf13 K))))) = true from c.fact 46 rfl)
theorem hp49 {K : PySem.W.Frag} (c : DH.Says hfa hds K) : (PySem.W.keepIn K (.ref (hf13 K)) = true) ∧ (PySem.W.findIn K (.ref (hC0 K)) "__mul__" = some (some (.ref (hf14 K)))) ∧ (PySem.W.isFn K (.ref (hf14 K)) = true) := of_decide_eq_true (show decide ((PySem.W.keepIn K (.ref (hf13 K)) = true) ∧ (PySem.W.findIn K (.ref (hC0 K)) "__mul__" = some (some (.ref (hf14 K)))) ∧ (PySem.W.isFn K (.ref (hf14 K)) = true)) = true from c.fact 49 rfl)
theorem hp52 {K : PySem.W.Frag} (c : DH.Says hfa hds K) : (PySem.W.keepIn K (.ref (hf14 K)) = true) ∧ (PySem.W.nsIn K mainGlobals "law" = some (some (.ref (hf15 K)))) := of_decide_eq_true (show decide ((PySem.W.keepIn K (.ref (hf14 K)) = true) ∧ (PySem.W.nsIn K mainGlobals "law" = some (some (.ref (hf15 K))))) = true from c.fact 52 rfl)
theorem hp55 {K : PySem.W.Frag} (c : DH.Says hfa hds K) : (DH.tabB K (hf15 K) "law.<locals>.<lambda>" = true) ∧ (PySem.W.keepIn K (.ref (hf15 K)) = true) := of_decide_eq_true (show decide ((DH.tabB K (hf15 K) "law.<locals>.<lambda>" = true) ∧ (PySem.W.keepIn K (.ref (hf15 K)) = true)) = true from c.fact 55 rfl)
theorem hp58 {K : PySem.W.Frag} (c : DH.Says hfa hds K) : (PySem.W.nsIn K mainGlobals "ValueError" = some none) ∧ (PySem.W.nsIn K mainGlobals "abs" = some none) ∧ (PySem.W.nsIn K mainGlobals "all" = some none) ∧ (PySem.W.nsIn K mainGlobals "bool" = some none) ∧ (PySem.W.nsIn K mainGlobals "int" = some none) ∧ (PySem.W.nsIn K mainGlobals "isinstance" = some none) ∧ (PySem.W.nsIn K mainGlobals "len" = some none) ∧ (PySem.W.nsIn K mainGlobals "list" = some none) := of_decide_eq_true (show decide ((PySem.W.nsIn K mainGlobals "ValueError" = some none) ∧ (PySem.W.nsIn K mainGlobals "abs" = some none) ∧ (PySem.W.nsIn K mainGlobals "all" = some none) ∧ (PySem.W.nsIn K mainGlobals "bool" = some none) ∧ (PySem.W.nsIn K mainGlobals "int" = some none) ∧ (PySem.W.nsIn K mainGlobals "isinstance" = some none) ∧ (PySem.W.nsIn K mainGlobals "len" = some none) ∧ (PySem.W.nsIn K mainGlobals "list" = some none)) = true from c.fact 58 rfl)
theorem hp59 {K : PySem.W.Frag} (c : DH.Says hfa hds K) : (PySem.W.nsIn K mainGlobals "range" = some none) ∧ (PySem.W.nsIn K mainGlobals "repr" = some none) ∧ (PySem.W.nsIn K mainGlobals "tuple" = some none) := of_decide_eq_true (show decide ((PySem.W.nsIn K mainGlobals "range" = some none) ∧ (PySem.W.nsIn K mainGlobals "repr" = some none) ∧ (PySem.W.nsIn K mainGlobals "tuple" = some none)) = true from c.fact 59 rfl)
theorem head_ok {l : PySem.W.OpenLaw} {w : World} {K : PySem.W.Frag} {h : Heap} {mg : Str → Option Value} {fa : Addr} (X : K.In h) (G : h.Ns mainGlobals mg) (hfa0 : mg "law" = some (.ref fa)) (c : DH.Says hfa hds K)
    (hlaw : ∀ ns : List Int, ns.length ≤ 63 → G_law [some (.slst (ns.map D.int))] (fun d _ => d = .bl true) fun _ _ => False) : ∀ base : Heap, K.In base → base.Ns mainGlobals mg → FnG l.prog w K mg base 8 fa (spLaw K) := by
  obtain ⟨oc0, od0, sl0, kV0, dc0, pm0, an0, cd0, ct0, l0, c0⟩ := DH.def_none (c.def_ 0 rfl) (c.fact 7 rfl) (c.fact 8 rfl)
  obtain ⟨oc1, od1, sl1, kV1, dc1, pm1, an1, cd1, ct1, l1, c1⟩ := DH.def_none (c.def_ 1 rfl) (c.fact 10 rfl) (c.fact 11 rfl)
  obtain ⟨oc2, od2, sl2, kV2, dc2, pm2, an2, cd2, ct2, l2, c2⟩ := DH.def_none (c.def_ 2 rfl) (c.fact 13 rfl) (c.fact 14 rfl)
  obtain ⟨oc3, od3, sl3, kV3, dc3, pm3, an3, cd3, ct3, l3, c3⟩ := DH.def_none (c.def_ 3 rfl) (c.fact 16 rfl) (c.fact 17 rfl)
  obtain ⟨oc4, od4, sl4, kV4, dc4, pm4, an4, cd4, ct4, l4, c4⟩ := DH.def_none (c.def_ 4 rfl) (c.fact 19 rfl) (c.fact 20 rfl)
  obtain ⟨rr5, r5⟩ := DH.rec_get (c.fact 22 rfl)
  obtain ⟨oc5, od5, sl5, kV5, dc5, pm5, an5, cd5, ct5, l5, c5⟩ := DH.def_none (c.def_ 5 rfl) (c.fact 23 rfl) (c.fact 24 rfl)
  obtain ⟨oc6, od6, sl6, kV6, dc6, pm6, an6, cd6, ct6, l6, c6⟩ := DH.def_none (c.def_ 6 rfl) (c.fact 26 rfl) (c.fact 27 rfl)
  obtain ⟨oc7, od7, sl7, kV7, dc7, pm7, an7, cd7, ct7, l7, c7⟩ := DH.def_none (c.def_ 7 rfl) (c.fact 29 rfl) (c.fact 30 rfl)
  obtain ⟨oc8, od8, sl8, kV8, dc8, pm8, an8, cd8, ct8, l8, c8⟩ := DH.def_none (c.def_ 8 rfl) (c.fact 32 rfl) (c.fact 33 rfl)
  obtain ⟨oc9, od9, sl9, kV9, dc9, pm9, an9, cd9, ct9, l9, c9⟩ := DH.def_none (c.def_ 9 rfl) (c.fact 35 rfl) (c.fact 36 rfl)
  obtain ⟨oc10, od10, sl10, kV10, dc10, pm10, an10, cd10, ct10, l10, c10⟩ := DH.def_none (c.def_ 10 rfl) (c.fact 38 rfl) (c.fact 39 rfl)
  obtain ⟨oc11, od11, sl11, kV11, dc11, pm11, an11, cd11, ct11, l11, c11⟩ := DH.def_none (c.def_ 11 rfl) (c.fact 41 rfl) (c.fact 42 rfl)
  obtain ⟨oc12, od12, sl12, kV12, dc12, pm12, an12, cd12, ct12, l12, c12⟩ := DH.def_none (c.def_ 12 rfl) (c.fact 44 rfl) (c.fact 45 rfl)
  obtain ⟨oc13, od13, sl13, kV13, dc13, pm13, an13, cd13, ct13, l13, c13⟩ := DH.def_none (c.def_ 13 rfl) (c.fact 47 rfl) (c.fact 48 rfl)
  obtain ⟨oc14, od14, sl14, kV14, dc14, pm14, an14, cd14, ct14, l14, c14⟩ := DH.def_none (c.def_ 14 rfl) (c.fact 50 rfl) (c.fact 51 rfl)
  obtain ⟨oc15, od15, sl15, kV15, dc15, pm15, an15, cd15, ct15, l15, c15⟩ := DH.def_none (c.def_ 15 rfl) (c.fact 53 rfl) (c.fact 54 rfl)
  obtain ⟨tg_GREATEST_ENTRY, gi_GREATEST_ENTRY⟩ := DH.gi_get (c.fact 56 rfl)
  obtain ⟨tg_MOST_ENTRIES, gi_MOST_ENTRIES⟩ := DH.gi_get (c.fact 57 rfl)
  exact all_mk X G hfa0 (hp0 c).1 (hp0 c).2.1 (hp0 c).2.2.1 (hp0 c).2.2.2.1 (hp0 c).2.2.2.2.1 (hp0 c).2.2.2.2.2.1 (hp0 c).2.2.2.2.2.2.1 (hp0 c).2.2.2.2.2.2.2 (hp1 c).1 (hp1 c).2.1 (hp1 c).2.2.1 (hp1 c).2.2.2.1 (hp1 c).2.2.2.2.1 (hp1 c).2.2.2.2.2.1 (hp1 c).2.2.2.2.2.2.1 (hp1 c).2.2.2.2.2.2.2 (hp2 c).1 (hp2 c).2.1 (hp2 c).2.2.1 (hp2 c).2.2.2.1 (hp2 c).2.2.2.2.1 (hp2 c).2.2.2.2.2.1 (hp2 c).2.2.2.2.2.2.1 (hp2 c).2.2.2.2.2.2.2 (hp3 c).1 (hp3 c).2.1 (hp3 c).2.2.1 (hp3 c).2.2.2.1 (hp3 c).2.2.2.2.1 (hp3 c).2.2.2.2.2.1 (hp3 c).2.2.2.2.2.2.1 (hp3 c).2.2.2.2.2.2.2 (hp4 c).1 (hp4 c).2.1 (hp4 c).2.2.1 (hp4 c).2.2.2.1 (hp4 c).2.2.2.2.1 (hp4 c).2.2.2.2.2.1 (hp4 c).2.2.2.2.2.2.1 (hp4 c).2.2.2.2.2.2.2 (hp5 c).1 (hp5 c).2.1 (hp5 c).2.2.1 (hp5 c).2.2.2.1 (hp5 c).2.2.2.2.1 (hp5 c).2.2.2.2.2.1 (hp5 c).2.2.2.2.2.2.1 (hp5 c).2.2.2.2.2.2.2 (hp6 c).1 (hp6 c).2.1 (hp6 c).2.2 l0 c0 (hp9 c).1 (hp9 c).2 l1 c1 (hp12 c).1 (hp12 c).2.1 (hp12 c).2.2 l2 c2 (hp15 c).1 (hp15 c).2.1 (hp15 c).2.2 l3 c3 (hp18 c).1 (hp18 c).2 l4 c4 (hp21 c).1 (hp21 c).2.1 (hp21 c).2.2.1 (hp21 c).2.2.2 r5 l5 c5 (hp25 c).1 (hp25 c).2 l6 c6 (hp28 c).1 (hp28 c).2 l7 c7 (hp31 c).1 (hp31 c).2 l8 (hp34 c).1 c8 (hp34 c).2.1 (hp34 c).2.2.1 (hp34 c).2.2.2 l9 c9 (hp37 c).1 (hp37 c).2 l10 c10 (hp40 c).1 (hp40 c).2.1 (hp40 c).2.2 l11 c11 (hp43 c).1 (hp43 c).2.1 (hp43 c).2.2.1 (hp43 c).2.2.2 l12 c12 (hp46 c).1 (hp46 c).2 l13 c13 (hp49 c).1 (hp49 c).2.1 (hp49 c).2.2 l14 c14 (hp52 c).1 (hp52 c).2 l15 (hp55 c).1 c15 (hp55 c).2 gi_GREATEST_ENTRY gi_MOST_ENTRIES (hp58 c).1 (hp58 c).2.1 (hp58 c).2.2.1 (hp58 c).2.2.2.1 (hp58 c).2.2.2.2.1 (hp58 c).2.2.2.2.2.1 (hp58 c).2.2.2.2.2.2.1 (hp58 c).2.2.2.2.2.2.2 (hp59 c).1 (hp59 c).2.1 (hp59 c).2.2 hlaw
end LAW
open PySem PySem.W PyProof.Rows in
set_option maxRecDepth 100000 in
set_option maxHeartbeats 0 in
theorem PySem.Challenge.cw_pullplain_k16_words_made_holds : PySem.Challenge.rw_pullplain_k16_words_made.Holds := by
  w_on; refine LAW.hopen fun said => ?_
  refine HandSHeadRun.head_any (r := OpenLaw.row PySem.Challenge.rw_pullplain_k16_words_made) (q := LAW.hqv) (H := LAW.hhk) (ob := LAW.hob) (M := 15000) (loose := LAW.hnames) (d := HandSHeadRun.topDef (OpenLaw.row PySem.Challenge.rw_pullplain_k16_words_made).prog 29) (kwd := []) LAW.hob_eq (by kernel_rfl) (fun s => by kernel_rfl) LAW.hrun (by kernel_rfl) (by kernel_rfl) (by kernel_rfl) (by rfl) (by first | assumption | decide +kernel) (by decide +kernel) ⟨rfl, rfl, rfl, rfl, rfl, by decide +kernel⟩ ?hw ?hc
  case hw => w_witness2
  case hc =>
    refine DL.walk_ofGE (l := PySem.Challenge.rw_pullplain_k16_words_made) (k := 8) rfl (by kernel_rfl) ⟨rfl, by decide, by decide⟩ ?F
    intro w mg fa h Y G hmg0
    obtain ⟨K, KX, hT, c⟩ := Y
    have hmg : mg ("law" : PySem.Str) = some (.ref fa) := by
      have e : (HandSHeadRun.topDef (OpenLaw.row PySem.Challenge.rw_pullplain_k16_words_made).prog 29).name = ("law" : PySem.Str) := by kernel_rfl
      rw [← e]
      exact hmg0
    exact ⟨K, KX, hT, LAW.head_ok (l := PySem.Challenge.rw_pullplain_k16_words_made) (w := w) KX G hmg c LAW.law_ok⟩
