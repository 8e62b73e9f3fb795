import PyProof.Rows.All
import HandS.Base
import HandS.Call
import HandS.List
import HandS.Comp
import HandS.Dict
import HandS.Exc
import HandS.Wide
import HandS.TupLe
import HandS.TupAny
import HandS.IsInst
import HandS.Deep
import HandS.TupMul
import HandS.TupLen
import HandS.WordsDict
import HandS.Text
import HandS.ForExc
import HandS.Small
import HandS.Ends
import HandS.RaiseMore
import HandS.Defaults
import HandS.More
import HandS.Star
import HandS.Property
import OpenK.KMeth
import HandS.ClsMeth
import HandS.OwnEq
import HandS.Zip
import HandS.SortRule
import HandS.Iter
import HandS.DictTup
import HandS.DictComp
import HandS.ExcValue
import PyProof.ReprLen
import HandS.ExcInit
import HandS.ExcField
import HandS.ExcIs
import KE.KExcIs
import KE.KRevSl
import KE.GoesEnum
import KE.KDictKeyed
import KE.KDictCopyH
import PyProof.WalkInts
import PyProof.SeqI3
import HandS.Style
import HandS.WordsExc
import HandS.ForMost
import Wide.FinOn
import KE.RegKIsAll
import PySem.Challenge.RW_pullplain_k04_states_of_parts
set_option Elab.async false
set_option linter.all false
set_option maxRecDepth 100000
set_option maxHeartbeats 4000000
/-! DL0: data over the abstract heap: D, Is, the environment's invariant EnvOk, how it is carried. -/
namespace DL
open PySem L2

/-- an exception object that is known: its class, its dict -/
def XcO (cls : Value) (d : Option Addr) (a : Addr) : HO := .ext fun h => ∃ (oe : Obj) (vs : Array Value), h.get? a = some oe ∧ Zc cls d oe ∧ oe.data = .fields vs
/-- the class of that name -/
def IsCl (K : PySem.W.Frag) (n : Str) (C : Addr) : Prop := PySem.W.nsIn K mainGlobals n = some (some (.ref C))
theorem IsCl.eq {K : PySem.W.Frag} {n : Str} {C C' : Addr} (h : IsCl K n C) (h' : IsCl K n C') : C = C' := by
  unfold IsCl at h h'
  rw [h] at h'
  cases h'; rfl
/-- plain data -/
inductive D where
  | non | bl (b : Bool) | int (i : Int) | str (s : Str) | ty (n : String) | fn (a : Addr)
  /-- a class of the module -/
  | cl (n : Str)
  | tup (ds : List D) | lst (ds : List D)
  /-- a tuple of the module's own, the script: read only -/
  | ktp (ds : List D) | slst (ds : List D)
  | dk (kvs : List (Key × D)) | dt (kvs : List (List Key × D))
  | obj (C : Str) (fs : List (Str × D))
  /-- a dict, an object, one of whose parts is a cell of its own: the one at k, at m -/
  | nest (k : Key) (kvs : List (Key × D))
  | nobj (C : Str) (m : Str) (fs : List (Str × D))
  /-- an exception that was caught -/
  | xc (C : Str) (fs : List (Str × D))

mutual
/-- the value v stands for the data d, read in H -/
inductive Is (K : PySem.W.Frag) (H : Hp) : V → D → Prop
  | non : Is K H .non .non
  | bl (b : Bool) : Is K H (.bl b) (.bl b)
  | int (i : Int) : Is K H (.int i) (.int i)
  | str (s : Str) : Is K H (.str s) (.str s)
  | ty (n : String) : Is K H (.ty n) (.ty n)
  | fn (a : Addr) : Is K H (.ref a) (.fn a)
  | cl {n : Str} {C : Addr} : IsCl K n C → Is K H (.ref C) (.cl n)
  | tup {a : Addr} {vs : List V} {ds : List D} : H a = some (.tup vs) → IsL K H vs ds → Is K H (.ref a) (.tup ds)
  | lst {a : Addr} {vs : List V} {ds : List D} : H a = some (.lst vs) → IsL K H vs ds → Is K H (.ref a) (.lst ds)
  | ktp {a : Addr} {vs : List V} {ds : List D} : SqT K H a vs → IsL K H vs ds → Is K H (.ref a) (.ktp ds)
  | slst {a : Addr} {vs : List V} {ds : List D} : SqL K H a vs → IsL K H vs ds → Is K H (.ref a) (.slst ds)
  | dk {a : Addr} {vs : List (Key × V)} {kvs : List (Key × D)} : Rd H a (.dK vs) → vs.map (·.1) = kvs.map (·.1) → IsL K H (vs.map (·.2)) (kvs.map (·.2)) → Is K H (.ref a) (.dk kvs)
  | dt {a : Addr} {vs : List (List Key × V)} {kvs : List (List Key × D)} : Rd H a (.dT vs) → vs.map (·.1) = kvs.map (·.1) → IsL K H (vs.map (·.2)) (kvs.map (·.2)) → Is K H (.ref a) (.dt kvs)
  | obj {a C dx : Addr} {n : Str} {vs : List (Str × V)} {fs : List (Str × D)} : IsCl K n C → H a = some (.ins C dx vs) → vs.map (·.1) = fs.map (·.1) → IsL K H (vs.map (·.2)) (fs.map (·.2)) → Is K H (.ref a) (.obj n fs)
  | nest {a : Addr} {k : Key} {vs : List (Key × V)} {kvs : List (Key × D)} : Rd H a (.dK vs) → vs.map (·.1) = kvs.map (·.1) → IsL K H (vs.map (·.2)) (kvs.map (·.2)) → Is K H (.ref a) (.nest k kvs)
  | nobj {a C dx : Addr} {n m : Str} {vs : List (Str × V)} {fs : List (Str × D)} : IsCl K n C → H a = some (.ins C dx vs) → vs.map (·.1) = fs.map (·.1) → IsL K H (vs.map (·.2)) (fs.map (·.2)) → Is K H (.ref a) (.nobj n m fs)
  | xc0 {a C : Addr} {n : Str} : IsCl K n C → H a = some (XcO (.ref C) none a) → Is K H (.ref a) (.xc n [])
  | xcd {a C d : Addr} {n : Str} {vs : List (Str × V)} {fs : List (Str × D)} : IsCl K n C → H a = some (XcO (.ref C) (some d) a) → H d = some (.xd vs) → vs.map (·.1) = fs.map (·.1) → IsL K H (vs.map (·.2)) (fs.map (·.2)) → Is K H (.ref a) (.xc n fs)
inductive IsL (K : PySem.W.Frag) (H : Hp) : List V → List D → Prop
  | nil : IsL K H [] []
  | cons {v : V} {d : D} {vs : List V} {ds : List D} : Is K H v d → IsL K H vs ds → IsL K H (v :: vs) (d :: ds)
end

/-- a dict -/
def isDO : HO → Bool
  | .dK _ => true
  | .dT _ => true
  | _ => false
/-- the same object, or the same dict locked -/
def Fz (o o' : HO) : Prop := o' = o ∨ (isDO o = true ∧ ∃ od, o' = .frz od o)
theorem Fz.trans {a b c : HO} (x : Fz a b) (y : Fz b c) : Fz a c := by
  rcases x with rfl | ⟨d, od, rfl⟩
  · exact y
  · rcases y with rfl | ⟨e, _⟩
    · exact .inr ⟨d, od, rfl⟩
    · cases e
def Sub (H H' : Hp) : Prop := ∀ a o, H a = some o → ∃ o', H' a = some o' ∧ Fz o o'
theorem Sub.refl (H : Hp) : Sub H H := fun _ o h => ⟨o, h, .inl rfl⟩
theorem Sub.trans {H H1 H2 : Hp} (a : Sub H H1) (b : Sub H1 H2) : Sub H H2 := fun x o h => by
  obtain ⟨o1, h1, f1⟩ := a x o h
  obtain ⟨o2, h2, f2⟩ := b x o1 h1
  exact ⟨o2, h2, f1.trans f2⟩
theorem Sub.of {H H' : Hp} (s : ∀ a o, H a = some o → H' a = some o) : Sub H H' := fun a o h => ⟨o, s a o h, .inl rfl⟩
/-- what is no dict stands as it stood -/
theorem Sub.at {H H' : Hp} {a : Addr} {o : HO} (s : Sub H H') (h : H a = some o) (n : isDO o = false := by rfl) : H' a = some o := by
  obtain ⟨o', h', f⟩ := s a o h
  rcases f with rfl | ⟨d, _⟩
  · exact h'
  · rw [n] at d; cases d
theorem Sub.new {H : Hp} {p : Addr} {o : HO} (h : H p = none) : Sub H (upd H p o) := .of fun a u e => by
  rw [upd_ne (ne_of_none e h)]; exact e
theorem Sub.rd {H H' : Hp} {a : Addr} {u : HO} (s : Sub H H') (h : Rd H a u) : Rd H' a u := by
  rcases h with h | ⟨o, h⟩
  · obtain ⟨o', h', f⟩ := s _ _ h
    rcases f with rfl | ⟨_, od, rfl⟩
    · exact .inl h'
    · exact .inr ⟨od, h'⟩
  · exact .inr ⟨o, s.at h⟩
theorem Sub.sqL {K : PySem.W.Frag} {H H' : Hp} {a : Addr} {xs : List V} (s : Sub H H') (h : SqL K H a xs) : SqL K H' a xs := by
  rcases h with h | h
  · exact .inl (s.rd h)
  · exact .inr h
theorem Sub.sqT {K : PySem.W.Frag} {H H' : Hp} {a : Addr} {xs : List V} (s : Sub H H') (h : SqT K H a xs) : SqT K H' a xs := by
  rcases h with h | h
  · exact .inl (s.rd h)
  · exact .inr h
theorem Sub.none {H H' : Hp} (s : Sub H H') {p : Addr} (h : H' p = none) : H p = none := by
  cases e : H p with
  | none => rfl
  | some o =>
    obtain ⟨_, h', _⟩ := s p o e
    rw [h'] at h; cases h

mutual
theorem Is.mono {K : PySem.W.Frag} {H H' : Hp} (s : Sub H H') : ∀ {v : V} {d : D}, Is K H v d → Is K H' v d
  | _, _, .non => .non
  | _, _, .bl b => .bl b
  | _, _, .int i => .int i
  | _, _, .str x => .str x
  | _, _, .ty n => .ty n
  | _, _, .fn a => .fn a
  | _, _, .cl c => .cl c
  | _, _, .tup h l => .tup (s.at h) (IsL.mono s l)
  | _, _, .lst h l => .lst (s.at h) (IsL.mono s l)
  | _, _, .ktp h l => .ktp (s.sqT h) (IsL.mono s l)
  | _, _, .slst h l => .slst (s.sqL h) (IsL.mono s l)
  | _, _, .dk h e l => .dk (s.rd h) e (IsL.mono s l)
  | _, _, .dt h e l => .dt (s.rd h) e (IsL.mono s l)
  | _, _, .obj c h e l => .obj c (s.at h) e (IsL.mono s l)
  | _, _, .nest h e l => .nest (s.rd h) e (IsL.mono s l)
  | _, _, .nobj c h e l => .nobj c (s.at h) e (IsL.mono s l)
  | _, _, .xc0 c h => .xc0 c (s.at h)
  | _, _, .xcd c h g e l => .xcd c (s.at h) (s.at g) e (IsL.mono s l)
theorem IsL.mono {K : PySem.W.Frag} {H H' : Hp} (s : Sub H H') : ∀ {vs : List V} {ds : List D}, IsL K H vs ds → IsL K H' vs ds
  | _, _, .nil => .nil
  | _, _, .cons a l => .cons (Is.mono s a) (IsL.mono s l)
end
section
variable {K : PySem.W.Frag} {H : Hp}
theorem IsL.length : ∀ {vs : List V} {ds : List D}, IsL K H vs ds → vs.length = ds.length
  | _, _, .nil => rfl
  | _, _, .cons _ l => congrArg (· + 1) (IsL.length l)
theorem IsL.get : ∀ {vs : List V} {ds : List D} {i : Nat} {d : D}, IsL K H vs ds → ds[i]? = some d → ∃ v, vs[i]? = some v ∧ Is K H v d
  | _, _, _, _, .nil, e => by simp at e
  | _, _, 0, _, .cons a l, e => by simp at e; subst e; exact ⟨_, rfl, a⟩
  | _, _, i + 1, _, .cons a l, e => by
    obtain ⟨v, h1, h2⟩ := IsL.get (i := i) l (by simpa using e)
    exact ⟨v, by simpa using h1, h2⟩
theorem IsL.getV : ∀ {vs : List V} {ds : List D} {i : Nat} {v : V}, IsL K H vs ds → vs[i]? = some v → ∃ d, ds[i]? = some d ∧ Is K H v d
  | _, _, _, _, .nil, e => by simp at e
  | _, _, 0, _, .cons a l, e => by simp at e; subst e; exact ⟨_, rfl, a⟩
  | _, _, i + 1, _, .cons a l, e => by
    obtain ⟨v, h1, h2⟩ := IsL.getV (i := i) l (by simpa using e)
    exact ⟨v, by simpa using h1, h2⟩
theorem IsL.append : ∀ {vs ws : List V} {ds es : List D}, IsL K H vs ds → IsL K H ws es → IsL K H (vs ++ ws) (ds ++ es)
  | _, _, _, _, .nil, l => l
  | _, _, _, _, .cons a l, m => .cons a (IsL.append l m)
theorem IsL.take : ∀ {vs : List V} {ds : List D} (n : Nat), IsL K H vs ds → IsL K H (vs.take n) (ds.take n)
  | _, _, 0, _ => .nil
  | _, _, _ + 1, .nil => .nil
  | _, _, n + 1, .cons a l => .cons a (IsL.take n l)
theorem IsL.drop : ∀ {vs : List V} {ds : List D} (n : Nat), IsL K H vs ds → IsL K H (vs.drop n) (ds.drop n)
  | _, _, 0, l => l
  | _, _, _ + 1, .nil => .nil
  | _, _, n + 1, .cons a l => IsL.drop n l
theorem IsL.reverse : ∀ {vs : List V} {ds : List D}, IsL K H vs ds → IsL K H vs.reverse ds.reverse
  | _, _, .nil => .nil
  | _, _, .cons a l => by rw [List.reverse_cons, List.reverse_cons]; exact IsL.append (IsL.reverse l) (.cons a .nil)
theorem IsL.set : ∀ {vs : List V} {ds : List D} {v : V} {d : D} (i : Nat), IsL K H vs ds → Is K H v d → IsL K H (vs.set i v) (ds.set i d)
  | _, _, _, _, _, .nil, _ => .nil
  | _, _, _, _, 0, .cons a l, b => .cons b l
  | _, _, _, _, i + 1, .cons a l, b => .cons a (IsL.set i l b)
theorem IsL.snoc {vs : List V} {ds : List D} {v : V} {d : D} (l : IsL K H vs ds) (a : Is K H v d) : IsL K H (vs ++ [v]) (ds ++ [d]) := l.append (.cons a .nil)
end

/-! ### environments of data -/
abbrev Env := List (Option D)
def get : Env → Nat → Option D
  | [], _ => none
  | x :: _, 0 => x
  | _ :: r, n + 1 => get r n
def put : Env → Nat → Option D → Env
  | [], _, _ => []
  | _ :: r, 0, d => d :: r
  | x :: r, n + 1, d => x :: put r n d
theorem put_length : ∀ (ρ : Env) (i : Nat) (d : Option D), (put ρ i d).length = ρ.length
  | [], _, _ => rfl
  | _ :: _, 0, _ => rfl
  | _ :: r, n + 1, d => congrArg (· + 1) (put_length r n d)
theorem get_put_ne : ∀ (ρ : Env) (i j : Nat) (d : Option D), i ≠ j → get (put ρ i d) j = get ρ j
  | [], _, _, _, _ => rfl
  | _ :: _, 0, 0, _, h => absurd rfl h
  | _ :: _, 0, _ + 1, _, _ => rfl
  | _ :: _, _ + 1, 0, _, _ => rfl
  | _ :: r, i + 1, j + 1, d, h => get_put_ne r i j d (fun e => h (congrArg (· + 1) e))
theorem get_put_same : ∀ (ρ : Env) (i : Nat) (d : Option D), i < ρ.length → get (put ρ i d) i = d
  | [], _, _, h => absurd h (by simp)
  | _ :: _, 0, _, _ => rfl
  | _ :: r, i + 1, d, h => get_put_same r i d (by simpa using h)
theorem get_lt : ∀ {ρ : Env} {i : Nat} {d : D}, get ρ i = some d → i < ρ.length
  | [], _, _, h => by simp [get] at h
  | _ :: _, 0, _, _ => by simp
  | _ :: r, i + 1, d, h => by have := get_lt (ρ := r) (i := i) (d := d) h; simp; omega
theorem get_put {ρ : Env} {i j : Nat} {d : Option D} {x : D} (h : get (put ρ i d) j = some x) : (j = i ∧ d = some x) ∨ (j ≠ i ∧ get ρ j = some x) := by
  by_cases e : i = j
  · subst e
    have hl : i < ρ.length := by have := get_lt h; rw [put_length] at this; exact this
    rw [get_put_same _ _ _ hl] at h
    exact .inl ⟨rfl, h⟩
  · rw [get_put_ne _ _ _ _ e] at h
    exact .inr ⟨fun q => e q.symm, h⟩

/-! ### a cell that one slot owns -/
/-- a cell whose parts are plain -/
def Cell0 (K : PySem.W.Frag) (Hb H : Hp) (p : Addr) : D → Prop
  | .lst ds => ∃ vs, H p = some (.lst vs) ∧ IsL K Hb vs ds
  | .dk kvs => ∃ vs : List (Key × V), H p = some (.dK vs) ∧ vs.map (·.1) = kvs.map (·.1) ∧ IsL K Hb (vs.map (·.2)) (kvs.map (·.2))
  | .dt kvs => ∃ vs : List (List Key × V), H p = some (.dT vs) ∧ vs.map (·.1) = kvs.map (·.1) ∧ IsL K Hb (vs.map (·.2)) (kvs.map (·.2))
  | .obj n fs => ∃ (C dx : Addr) (vs : List (Str × V)), IsCl K n C ∧ H p = some (.ins C dx vs) ∧ vs.map (·.1) = fs.map (·.1) ∧ IsL K Hb (vs.map (·.2)) (fs.map (·.2))
  | _ => False
/-- the parts of a dict, of an object at p, of which the one at k is a cell -/
def ER {κ : Type} [DecidableEq κ] (K : PySem.W.Frag) (Hb H : Hp) (p : Addr) (k : κ) : List (κ × V) → List (κ × D) → Prop
  | [], [] => True
  | v :: vs, d :: ds => v.1 = d.1 ∧ (if d.1 = k then (∃ q, v.2 = .ref q ∧ q ≠ p ∧ Cell0 K Hb H q d.2) ∧ k ∉ ds.map (·.1) else Is K Hb v.2 d.2) ∧ ER K Hb H p k vs ds
  | _, _ => False
def Cell (K : PySem.W.Frag) (Hb H : Hp) (p : Addr) : D → Prop
  | .lst ds => ∃ vs, H p = some (.lst vs) ∧ IsL K Hb vs ds
  | .dk kvs => ∃ vs : List (Key × V), H p = some (.dK vs) ∧ vs.map (·.1) = kvs.map (·.1) ∧ IsL K Hb (vs.map (·.2)) (kvs.map (·.2))
  | .dt kvs => ∃ vs : List (List Key × V), H p = some (.dT vs) ∧ vs.map (·.1) = kvs.map (·.1) ∧ IsL K Hb (vs.map (·.2)) (kvs.map (·.2))
  | .obj n fs => ∃ (C dx : Addr) (vs : List (Str × V)), IsCl K n C ∧ H p = some (.ins C dx vs) ∧ vs.map (·.1) = fs.map (·.1) ∧ IsL K Hb (vs.map (·.2)) (fs.map (·.2))
  | .nest k kvs => ∃ vs : List (Key × V), H p = some (.dK vs) ∧ ER K Hb H p k vs kvs
  | .nobj n m fs => ∃ (C dx : Addr) (vs : List (Str × V)), IsCl K n C ∧ H p = some (.ins C dx vs) ∧ ER K Hb H p m vs fs
  | _ => False
/-- where the part at k stands -/
def partAt {κ : Type} [DecidableEq κ] (k : κ) : List (κ × V) → Option Addr
  | [] => none
  | v :: vs => if v.1 = k then (match v.2 with
    | .ref q => some q
    | _ => none) else partAt k vs
def partOf : Option HO → D → Option Addr
  | some (.dK vs), .nest k _ => partAt k vs
  | some (.ins _ _ vs), .nobj _ m _ => partAt m vs
  | _, _ => none
/-- the addresses of a cell -/
def foot (H : Hp) (p : Addr) (d : D) (a : Addr) : Prop := a = p ∨ partOf (H p) d = some a
theorem foot.root {H : Hp} {p : Addr} {d : D} : foot H p d p := .inl rfl
theorem foot.cong {H H' : Hp} {p a : Addr} {d : D} (e : H' p = H p) (h : foot H' p d a) : foot H p d a := by unfold foot at h ⊢; rw [e] at h; exact h
theorem Cell0.cell {K : PySem.W.Frag} {Hb H : Hp} {p : Addr} : ∀ {d : D}, Cell0 K Hb H p d → Cell K Hb H p d
  | .lst _, c => c
  | .dk _, c => c
  | .dt _, c => c
  | .obj _ _, c => c
theorem Cell0.somE {K : PySem.W.Frag} {Hb H : Hp} {p : Addr} : ∀ {d : D}, Cell0 K Hb H p d → ∃ o, H p = Option.some o ∧ ∀ vs : List V, o ≠ .tup vs
  | .lst _, ⟨_, h, _⟩ => ⟨_, h, fun _ z => by cases z⟩
  | .dk _, ⟨_, h, _⟩ => ⟨_, h, fun _ z => by cases z⟩
  | .dt _, ⟨_, h, _⟩ => ⟨_, h, fun _ z => by cases z⟩
  | .obj _ _, ⟨_, _, _, _, h, _⟩ => ⟨_, h, fun _ z => by cases z⟩
theorem Cell0.mono {K : PySem.W.Frag} {Hb Hb' H H' : Hp} {p : Addr} (s : Sub Hb Hb') (e : ∀ o, H p = Option.some o → H' p = Option.some o) : ∀ {d : D}, Cell0 K Hb H p d → Cell0 K Hb' H' p d
  | .lst _, ⟨vs, h, l⟩ => ⟨vs, e _ h, l.mono s⟩
  | .dk _, ⟨vs, h, k, l⟩ => ⟨vs, e _ h, k, l.mono s⟩
  | .dt _, ⟨vs, h, k, l⟩ => ⟨vs, e _ h, k, l.mono s⟩
  | .obj _ _, ⟨C, dx, vs, c, h, k, l⟩ => ⟨C, dx, vs, c, e _ h, k, l.mono s⟩
theorem Cell0.is {K : PySem.W.Frag} {Hb H : Hp} {p : Addr} (s : Sub Hb H) : ∀ {d : D}, Cell0 K Hb H p d → Is K H (.ref p) d
  | .lst _, ⟨_, h, l⟩ => .lst h (l.mono s)
  | .dk _, ⟨_, h, k, l⟩ => .dk (.inl h) k (l.mono s)
  | .dt _, ⟨_, h, k, l⟩ => .dt (.inl h) k (l.mono s)
  | .obj _ _, ⟨_, _, _, c, h, k, l⟩ => .obj c h k (l.mono s)
section
variable {κ : Type} [DecidableEq κ] {K : PySem.W.Frag} {Hb Hb' H H' : Hp} {p : Addr} {k : κ}
theorem ER.keys : ∀ {vs : List (κ × V)} {ds : List (κ × D)}, ER K Hb H p k vs ds → vs.map (·.1) = ds.map (·.1)
  | [], [], _ => rfl
  | v :: vs, d :: ds, h => by rw [List.map_cons, List.map_cons, h.1, ER.keys h.2.2]
theorem ER.mono (s : Sub Hb Hb') : ∀ {vs : List (κ × V)} {ds : List (κ × D)}, (∀ q o, partAt k vs = some q → H q = some o → H' q = some o) → ER K Hb H p k vs ds → ER K Hb' H' p k vs ds
  | [], [], _, _ => trivial
  | v :: vs, d :: ds, e, h => by
    obtain ⟨h1, h2, h3⟩ := h
    by_cases z : d.1 = k
    · rw [if_pos z] at h2
      obtain ⟨⟨q, eq, ne, c⟩, nk⟩ := h2
      refine ⟨h1, ?_, ER.mono s (fun q' o e' => ?_) h3⟩
      · rw [if_pos z]
        refine ⟨⟨q, eq, ne, Cell0.mono s (fun o ho => e q o ?_ ho) c⟩, nk⟩
        unfold partAt
        rw [if_pos (h1.trans z), eq]
      · -- there is no other part at k
        exfalso
        have : ∀ {vs : List (κ × V)}, k ∉ vs.map (·.1) → partAt k vs = none := by
          intro vs
          induction vs with
          | nil => intro _; rfl
          | cons w ws ih =>
            intro n
            rw [List.map_cons, List.mem_cons] at n
            unfold partAt
            rw [if_neg (fun z => n (.inl z.symm)), ih (fun z => n (.inr z))]
        rw [this (by rw [ER.keys h3]; exact nk)] at e'
        cases e'
    · rw [if_neg z] at h2
      refine ⟨h1, ?_, ER.mono s (fun q' o e' => e q' o ?_) h3⟩
      · rw [if_neg z]; exact h2.mono s
      · unfold partAt
        rw [if_neg (by rw [h1]; exact z)]; exact e'
theorem ER.part : ∀ {vs : List (κ × V)} {ds : List (κ × D)} {q : Addr}, ER K Hb H p k vs ds → partAt k vs = some q → q ≠ p ∧ ∃ d, (k, d) ∈ ds ∧ Cell0 K Hb H q d
  | v :: vs, d :: ds, q, h, e => by
    obtain ⟨h1, h2, h3⟩ := h
    unfold partAt at e
    by_cases z : d.1 = k
    · rw [if_pos z] at h2
      obtain ⟨⟨q', eq, ne, c⟩, nk⟩ := h2
      rw [if_pos (h1.trans z), eq] at e
      cases e
      exact ⟨ne, d.2, by rw [← z]; exact List.mem_cons_self, c⟩
    · rw [if_neg (by rw [h1]; exact z)] at e
      obtain ⟨a, x, m, c⟩ := ER.part h3 e
      exact ⟨a, x, List.mem_cons_of_mem _ m, c⟩
theorem ER.is (s : Sub Hb H) : ∀ {vs : List (κ × V)} {ds : List (κ × D)}, ER K Hb H p k vs ds → IsL K H (vs.map (·.2)) (ds.map (·.2))
  | [], [], _ => .nil
  | v :: vs, d :: ds, h => by
    obtain ⟨h1, h2, h3⟩ := h
    refine .cons ?_ (ER.is s h3)
    split at h2
    · obtain ⟨⟨q, eq, _, c⟩, _⟩ := h2
      show Is K H v.2 d.2
      rw [eq]; exact Cell0.is s c
    · exact h2.mono s
end
theorem Cell.mono {K : PySem.W.Frag} {Hb Hb' H H' : Hp} {p : Addr} (s : Sub Hb Hb') : ∀ {d : D}, (∀ a o, foot H p d a → H a = some o → H' a = some o) → Cell K Hb H p d → Cell K Hb' H' p d
  | .lst _, e, ⟨vs, h, l⟩ => ⟨vs, e _ _ foot.root h, l.mono s⟩
  | .dk _, e, ⟨vs, h, k, l⟩ => ⟨vs, e _ _ foot.root h, k, l.mono s⟩
  | .dt _, e, ⟨vs, h, k, l⟩ => ⟨vs, e _ _ foot.root h, k, l.mono s⟩
  | .obj _ _, e, ⟨C, dx, vs, c, h, k, l⟩ => ⟨C, dx, vs, c, e _ _ foot.root h, k, l.mono s⟩
  | .nest k kvs, e, ⟨vs, h, r⟩ => ⟨vs, e _ _ foot.root h, r.mono s fun q o z => e q o (.inr (by rw [h]; exact z))⟩
  | .nobj n m fs, e, ⟨C, dx, vs, c, h, r⟩ => ⟨C, dx, vs, c, e _ _ foot.root h, r.mono s fun q o z => e q o (.inr (by rw [h]; exact z))⟩
theorem Cell.some {K : PySem.W.Frag} {Hb H : Hp} {p : Addr} : ∀ {d : D}, Cell K Hb H p d → ∃ o, H p = Option.some o
  | .lst _, ⟨_, h, _⟩ => ⟨_, h⟩
  | .dk _, ⟨_, h, _⟩ => ⟨_, h⟩
  | .dt _, ⟨_, h, _⟩ => ⟨_, h⟩
  | .obj _ _, ⟨_, _, _, _, h, _⟩ => ⟨_, h⟩
  | .nest _ _, ⟨_, h, _⟩ => ⟨_, h⟩
  | .nobj _ _ _, ⟨_, _, _, _, h, _⟩ => ⟨_, h⟩
/-- what stands in a cell's addresses -/
theorem Cell.footS {K : PySem.W.Frag} {Hb H : Hp} {p a : Addr} : ∀ {d : D}, Cell K Hb H p d → foot H p d a → ∃ o, H a = Option.some o ∧ ∀ vs : List V, o ≠ .tup vs
  | .lst _, ⟨_, h, _⟩, .inl e => by subst e; exact ⟨_, h, fun _ z => by cases z⟩
  | .dk _, ⟨_, h, _⟩, .inl e => by subst e; exact ⟨_, h, fun _ z => by cases z⟩
  | .dt _, ⟨_, h, _⟩, .inl e => by subst e; exact ⟨_, h, fun _ z => by cases z⟩
  | .obj _ _, ⟨_, _, _, _, h, _⟩, .inl e => by subst e; exact ⟨_, h, fun _ z => by cases z⟩
  | .nest _ _, ⟨_, h, _⟩, .inl e => by subst e; exact ⟨_, h, fun _ z => by cases z⟩
  | .nobj _ _ _, ⟨_, _, _, _, h, _⟩, .inl e => by subst e; exact ⟨_, h, fun _ z => by cases z⟩
  | .lst _, ⟨_, h, _⟩, .inr e => by rw [h] at e; cases e
  | .dk _, ⟨_, h, _⟩, .inr e => by rw [h] at e; cases e
  | .dt _, ⟨_, h, _⟩, .inr e => by rw [h] at e; cases e
  | .obj _ _, ⟨_, _, _, _, h, _⟩, .inr e => by rw [h] at e; cases e
  | .nest _ _, ⟨_, h, r⟩, .inr e => by rw [h] at e; exact (r.part e).2.choose_spec.2.somE
  | .nobj _ _ _, ⟨_, _, _, _, h, r⟩, .inr e => by rw [h] at e; exact (r.part e).2.choose_spec.2.somE
/-- frozen: what a cell holds as plain data -/
theorem Cell.is {K : PySem.W.Frag} {Hb H : Hp} {p : Addr} (s : Sub Hb H) : ∀ {d : D}, Cell K Hb H p d → Is K H (.ref p) d
  | .lst _, ⟨_, h, l⟩ => .lst h (l.mono s)
  | .dk _, ⟨_, h, k, l⟩ => .dk (.inl h) k (l.mono s)
  | .dt _, ⟨_, h, k, l⟩ => .dt (.inl h) k (l.mono s)
  | .obj _ _, ⟨_, _, _, c, h, k, l⟩ => .obj c h k (l.mono s)
  | .nest _ _, ⟨_, h, r⟩ => .nest (.inl h) r.keys (r.is s)
  | .nobj _ _ _, ⟨_, _, _, c, h, r⟩ => .nobj c h r.keys (r.is s)

/-! ### the world at an entry; steps from it -/
structure Wd where
  Hb : Hp
  H : Hp
  ps : Nat → Addr → Prop
  rt : Nat → Addr → Prop
structure Stp (W : Wd) (Hb H : Hp) : Prop where
  hb : Sub W.Hb Hb
  fr : ∀ a o, W.H a = some o → (∀ i, ¬ W.ps i a) → H a = some o ∨ (W.Hb a ≠ none ∧ isDO o = true ∧ ∃ od, H a = some (.frz od o))
  fs : ∀ a o, Hb a = some o → W.Hb a ≠ none ∨ W.H a = none ∨ ∃ vs, W.H a = some (.tup vs)
  al : ∀ a, H a = none → W.H a = none
  tp : ∀ a vs, H a = some (.tup vs) → W.H a = none ∨ W.H a = some (.tup vs)

theorem Cell.nt {K : PySem.W.Frag} {Hb H : Hp} {p : Addr} {d : D} (c : Cell K Hb H p d) (vs : List V) : H p ≠ Option.some (HO.tup vs) := fun z => by
  obtain ⟨o, h, n⟩ := c.footS foot.root
  rw [h] at z; cases z
  exact n vs rfl
structure EnvOk (K : PySem.W.Frag) (W : Wd) (P I : List Nat) (ρ : Env) (σ : St) (Hb H : Hp) : Prop where
  sub : Sub Hb H
  stp : Stp W Hb H
  len : σ.length = ρ.length
  val : ∀ i d, get ρ i = some d → i ∉ P → i ∉ I → ∃ v, σ[i]? = some (some v) ∧ Is K Hb v d
  celF : ∀ i d, (i ∈ P ∨ i ∈ I) → get ρ i = some d → ∃ p, σ[i]? = some (some (.ref p)) ∧ Cell K Hb H p d ∧ (i ∈ P → W.rt i p) ∧ ∀ a, foot H p d a → Hb a = none ∧ (i ∈ P → W.ps i a ∨ W.H a = none) ∧ (i ∈ I → W.H a = none)
  sepF : ∀ i j p q di dj a, (i ∈ P ∨ i ∈ I) → (j ∈ P ∨ j ∈ I) → get ρ i = some di → get ρ j = some dj → σ[i]? = some (some (.ref p)) → σ[j]? = some (some (.ref q)) → foot H p di a → foot H q dj a → i = j
theorem EnvOk.cel {K : PySem.W.Frag} {W : Wd} {P I : List Nat} {ρ : Env} {σ : St} {Hb H : Hp} (E : EnvOk K W P I ρ σ Hb H) : ∀ i d, (i ∈ P ∨ i ∈ I) → get ρ i = some d → ∃ p, σ[i]? = some (some (.ref p)) ∧ Hb p = none ∧ Cell K Hb H p d ∧ (i ∈ P → W.rt i p) ∧ (i ∈ I → W.H p = none) := fun i d hi g => by
  obtain ⟨p, e, c, hp, f⟩ := E.celF i d hi g
  exact ⟨p, e, (f p foot.root).1, c, hp, (f p foot.root).2.2⟩
theorem EnvOk.sep {K : PySem.W.Frag} {W : Wd} {P I : List Nat} {ρ : Env} {σ : St} {Hb H : Hp} (E : EnvOk K W P I ρ σ Hb H) : ∀ i j p, (i ∈ P ∨ i ∈ I) → (j ∈ P ∨ j ∈ I) → get ρ i ≠ none → get ρ j ≠ none → σ[i]? = some (some (.ref p)) → σ[j]? = some (some (.ref p)) → i = j := fun i j p hi hj gi gj ei ej => by
  cases a : get ρ i with
  | none => exact absurd a gi
  | some d => cases b : get ρ j with
    | none => exact absurd b gj
    | some d' => exact E.sepF i j p p d d' p hi hj a b ei ej foot.root foot.root

section
variable {K : PySem.W.Frag} {W : Wd} {P I : List Nat} {ρ : Env} {σ : St} {Hb H : Hp}
theorem Stp.refl (Hb H : Hp) (ps rt : Nat → Addr → Prop) : Stp ⟨Hb, H, ps, rt⟩ Hb H := ⟨Sub.refl _, fun _ _ h _ => .inl h, fun a _ h => .inl (fun z => by have z : Hb a = none := z; rw [h] at z; cases z), fun _ h => h, fun _ _ h => .inr h⟩

theorem Stp.own {p : Addr} {o : HO} (S : Stp W Hb H) (wb : W.Hb p = none) (h : W.H p = some o) (n : ∀ i, ¬ W.ps i p) : H p = some o :=
  (S.fr p o h n).elim id fun r => absurd wb r.1
theorem Stp.nb {p : Addr} {o : HO} (S : Stp W Hb H) (wb : W.Hb p = none) (h : W.H p = some o) (nt : ∀ vs : List V, o ≠ .tup vs) : Hb p = none := by
  cases z : Hb p with
  | none => rfl
  | some u =>
    rcases S.fs p u z with r | r | ⟨vs, r⟩
    · exact absurd wb r
    · rw [h] at r; cases r
    · rw [h] at r; cases r; exact absurd rfl (nt vs)
/-- the owned addresses as they stand -/
def owned (P I : List Nat) (ρ : Env) (σ : St) (H : Hp) : Nat → Addr → Prop := fun i a => (i ∈ P ∨ i ∈ I) ∧ ∃ d p, get ρ i = some d ∧ σ[i]? = some (some (.ref p)) ∧ foot H p d a
/-- the world as it stands here: all owned cells are lent -/
def here (P I : List Nat) (ρ : Env) (σ : St) (Hb H : Hp) : Wd := ⟨Hb, H, owned P I ρ σ H, fun i p => (i ∈ P ∨ i ∈ I) ∧ get ρ i ≠ none ∧ σ[i]? = some (some (.ref p))⟩
theorem EnvOk.lent (E : EnvOk K W P I ρ σ Hb H) : EnvOk K (here P I ρ σ Hb H) (P ++ I) [] ρ σ Hb H where
  sub := E.sub
  stp := Stp.refl _ _ _ _
  len := E.len
  val := fun i d h n _ => E.val i d h (fun q => n (List.mem_append_left _ q)) fun q => n (List.mem_append_right _ q)
  celF := fun i d h g => by
    have hi : i ∈ P ∨ i ∈ I := by
      rcases h with h | h
      · exact List.mem_append.mp h
      · cases h
    obtain ⟨p, e, c, _, f⟩ := E.celF i d hi g
    exact ⟨p, e, c, fun _ => ⟨hi, by rw [g]; simp, e⟩, fun a ha => ⟨(f a ha).1, fun _ => .inl ⟨hi, d, p, g, e, ha⟩, fun q => by cases q⟩⟩
  sepF := fun i j p q di dj a hi hj => E.sepF i j p q di dj a (by simpa using hi) (by simpa using hj)
/-- two steps -/
theorem Stp.trans {W : Wd} {Hb1 H1 Hb2 H2 : Hp} {ps rt : Nat → Addr → Prop} (a : Stp W Hb1 H1) (b : Stp ⟨Hb1, H1, ps, rt⟩ Hb2 H2) (hps : ∀ i p, ps i p → (∃ j, W.ps j p) ∨ W.H p = none) : Stp W Hb2 H2 where
  hb := a.hb.trans b.hb
  fr := fun x o h n => by
    have nl : ∀ i, ¬ ps i x := fun i q => by
      rcases hps i x q with ⟨j, r⟩ | r
      · exact n j r
      · rw [h] at r; cases r
    rcases a.fr x o h n with h1 | ⟨h1, h2, od, h3⟩
    · rcases b.fr x o h1 nl with h4 | ⟨h4, h5, h6⟩
      · exact .inl h4
      · refine .inr ⟨?_, h5, h6⟩
        have h4 : Hb1 x ≠ none := h4
        cases e : Hb1 x with
        | none => exact absurd e h4
        | some u =>
          rcases a.fs x u e with r | r | ⟨vs, r⟩
          · exact r
          · rw [h] at r; cases r
          · rw [h] at r; cases r; cases h5
    · rcases b.fr x _ h3 nl with h4 | ⟨_, h5, _⟩
      · exact .inr ⟨h1, h2, od, h4⟩
      · cases h5
  fs := fun x o h => by
    rcases b.fs x o h with q | q | ⟨vs, q⟩
    · have q : Hb1 x ≠ none := q
      cases e : Hb1 x with
      | none => exact absurd e q
      | some u => exact a.fs x u e
    · exact .inr (.inl (a.al x q))
    · rcases a.tp x vs q with r | r
      · exact .inr (.inl r)
      · exact .inr (.inr ⟨vs, r⟩)
  al := fun x h => a.al x (b.al x h)
  tp := fun x vs h => by
    rcases b.tp x vs h with r | r
    · exact .inl (a.al x r)
    · exact a.tp x vs r
theorem EnvOk.ownedW (E : EnvOk K W P I ρ σ Hb H) : ∀ i p, owned P I ρ σ H i p → (∃ j, W.ps j p) ∨ W.H p = none := fun i a ⟨hi, d, p, g, e, ha⟩ => by
  obtain ⟨p', e', _, _, f⟩ := E.celF i d hi g
  rw [e] at e'; cases e'
  obtain ⟨_, h1, h2⟩ := f a ha
  rcases hi with hi | hi
  · exact (h1 hi).imp (fun h => ⟨i, h⟩) id
  · exact .inr (h2 hi)
/-- back from the lent world: nothing was assigned (the slots are as they were) -/
theorem EnvOk.back {ρ' : Env} {Hb' H' : Hp} (E : EnvOk K W P I ρ σ Hb H) (E' : EnvOk K (here P I ρ σ Hb H) (P ++ I) [] ρ' σ Hb' H') : EnvOk K W P I ρ' σ Hb' H' where
  sub := E'.sub
  stp := E.stp.trans E'.stp E.ownedW
  len := E'.len
  val := fun i d h n m => E'.val i d h (fun q => (List.mem_append.mp q).elim n m) (by simp)
  celF := fun i d h g => by
    obtain ⟨p, e, c, h1, f⟩ := E'.celF i d (.inl (List.mem_append.mpr h)) g
    have hm : i ∈ P ++ I := List.mem_append.mpr h
    obtain ⟨_, g00, e0⟩ := h1 hm
    obtain ⟨d0, g0⟩ : ∃ d0, get ρ i = some d0 := by
      cases z : get ρ i with
      | none => exact absurd z g00
      | some d0 => exact ⟨d0, rfl⟩
    obtain ⟨p', e', _, k1, f0⟩ := E.celF i d0 h g0
    rw [e] at e'; cases e'
    refine ⟨p, e, c, k1, fun a ha => ⟨(f a ha).1, fun hi => ?_, fun hi => ?_⟩⟩
    · rcases (f a ha).2.1 hm with ⟨_, d1, p1, g1, e1, ft1⟩ | r
      · rw [g0] at g1; cases g1
        rw [e] at e1; cases e1
        exact (f0 a ft1).2.1 hi
      · exact .inr (E.stp.al a r)
    · rcases (f a ha).2.1 hm with ⟨_, d1, p1, g1, e1, ft1⟩ | r
      · rw [g0] at g1; cases g1
        rw [e] at e1; cases e1
        exact (f0 a ft1).2.2 hi
      · exact E.stp.al a r
  sepF := fun i j p q di dj a hi hj => E'.sepF i j p q di dj a (.inl (List.mem_append.mpr hi)) (.inl (List.mem_append.mpr hj))

/-- the owned cells, carried to another heap in which all that they hold stands as it stood -/
theorem EnvOk.cells {Hb' H' : Hp} {W' : Wd} (E : EnvOk K W P I ρ σ Hb H) (sb : Sub Hb Hb') (keep : ∀ i d p a o, (i ∈ P ∨ i ∈ I) → get ρ i = some d → σ[i]? = some (some (.ref p)) → foot H p d a → H a = some o → H' a = some o ∧ Hb' a = none)
    (ps : ∀ i a d p, i ∈ P → get ρ i = some d → σ[i]? = some (some (.ref p)) → foot H p d a → (W.ps i a → W'.ps i a) ∧ (W.H a = none → W'.H a = none)) (wn : ∀ i a d p, i ∈ I → get ρ i = some d → σ[i]? = some (some (.ref p)) → foot H p d a → W.H a = none → W'.H a = none) (rt : ∀ i p, W.rt i p → W'.rt i p := by exact fun _ _ h => h) :
    (∀ i d, (i ∈ P ∨ i ∈ I) → get ρ i = some d → ∃ p, σ[i]? = some (some (.ref p)) ∧ Cell K Hb' H' p d ∧ (i ∈ P → W'.rt i p) ∧ ∀ a, foot H' p d a → Hb' a = none ∧ (i ∈ P → W'.ps i a ∨ W'.H a = none) ∧ (i ∈ I → W'.H a = none)) ∧
    (∀ i j p q di dj a, (i ∈ P ∨ i ∈ I) → (j ∈ P ∨ j ∈ I) → get ρ i = some di → get ρ j = some dj → σ[i]? = some (some (.ref p)) → σ[j]? = some (some (.ref q)) → foot H' p di a → foot H' q dj a → i = j) := by
  have rtt := rt
  have root : ∀ i d p, (i ∈ P ∨ i ∈ I) → get ρ i = some d → σ[i]? = some (some (.ref p)) → H' p = H p := fun i d p hi g e => by
    obtain ⟨p', e', c, _⟩ := E.celF i d hi g
    rw [e] at e'; cases e'
    obtain ⟨o, ho, _⟩ := c.footS foot.root
    rw [ho, (keep i d p p o hi g e foot.root ho).1]
  refine ⟨fun i d hi g => ?_, fun i j p q di dj a hi hj gi gj ei ej fi fj => ?_⟩
  · obtain ⟨p, e, c, h1, f⟩ := E.celF i d hi g
    refine ⟨p, e, c.mono sb fun a o ha ho => (keep i d p a o hi g e ha ho).1, fun q => rtt i p (h1 q), fun a ha => ?_⟩
    have ha := foot.cong (root i d p hi g e) ha
    obtain ⟨o, ho, _⟩ := c.footS ha
    exact ⟨(keep i d p a o hi g e ha ho).2, fun q => ((f a ha).2.1 q).imp (ps i a d p q g e ha).1 (ps i a d p q g e ha).2, fun q => wn i a d p q g e ha ((f a ha).2.2 q)⟩
  · exact E.sepF i j p q di dj a hi hj gi gj ei ej (foot.cong (root i di p hi gi ei) fi) (foot.cong (root j dj q hj gj ej) fj)
/-- a new frozen object -/
theorem EnvOk.alloc {p : Addr} {o : HO} (E : EnvOk K W P I ρ σ Hb H) (h : H p = none) : EnvOk K W P I ρ σ (upd Hb p o) (upd H p o) := by
  have hb : Hb p = none := E.sub.none h
  have sb : Sub Hb (upd Hb p o) := Sub.new hb
  have up : ∀ a u, H a = some u → upd H p o a = some u := fun a u e => by rw [upd_ne (ne_of_none e h)]; exact e
  obtain ⟨k1, k2⟩ := E.cells (H' := upd H p o) (W' := W) sb (fun i d q a u hi g e ha hu => ⟨up a u hu, by
    obtain ⟨q', e', _, _, f⟩ := E.celF i d hi g
    rw [e] at e'; cases e'
    rw [upd_ne (ne_of_none hu h)]; exact (f a ha).1⟩) (fun _ _ _ _ _ _ _ _ => ⟨id, id⟩) (fun _ _ _ _ _ _ _ _ => id)
  refine ⟨fun a u e => ?_, ⟨E.stp.hb.trans sb, fun a u e n => (E.stp.fr a u e n).imp (up a u) fun ⟨h1, h2, od, h3⟩ => ⟨h1, h2, od, up _ _ h3⟩, fun a u e => ?_, fun a e => ?_, fun a vs e => ?_⟩, E.len, fun i d g n m => ?_, k1, k2⟩
  · by_cases ha : a = p
    · subst ha; rw [upd_same] at e ⊢; exact ⟨_, e, .inl rfl⟩
    · rw [upd_ne ha] at e ⊢; exact E.sub a u e
  · by_cases ha : a = p
    · subst ha; exact .inr (.inl (E.stp.al a h))
    · rw [upd_ne ha] at e; exact E.stp.fs a u e
  · by_cases ha : a = p
    · subst ha; rw [upd_same] at e; cases e
    · rw [upd_ne ha] at e; exact E.stp.al a e
  · by_cases ha : a = p
    · subst ha; exact .inl (E.stp.al a h)
    · rw [upd_ne ha] at e; exact E.stp.tp a vs e
  · obtain ⟨v, e, q⟩ := E.val i d g n m
    exact ⟨v, e, q.mono sb⟩
/-- the heap may know more (a new object that nothing here speaks of) -/
theorem EnvOk.more {p : Addr} {o : HO} (E : EnvOk K W P I ρ σ Hb H) (h : H p = none) : EnvOk K W P I ρ σ Hb (upd H p o) := by
  have up : ∀ a u, H a = some u → upd H p o a = some u := fun a u e => by rw [upd_ne (ne_of_none e h)]; exact e
  obtain ⟨k1, k2⟩ := E.cells (H' := upd H p o) (W' := W) (Sub.refl Hb) (fun i d q a u hi g e ha hu => ⟨up a u hu, by
    obtain ⟨q', e', _, _, f⟩ := E.celF i d hi g
    rw [e] at e'; cases e'
    exact (f a ha).1⟩) (fun _ _ _ _ _ _ _ _ => ⟨id, id⟩) (fun _ _ _ _ _ _ _ _ => id)
  refine ⟨E.sub.trans (Sub.new h), ⟨E.stp.hb, fun a u e n => (E.stp.fr a u e n).imp (up a u) fun ⟨h1, h2, od, h3⟩ => ⟨h1, h2, od, up _ _ h3⟩, E.stp.fs, fun a e => ?_, fun a vs e => ?_⟩, E.len, E.val, k1, k2⟩
  · by_cases ha : a = p
    · subst ha; rw [upd_same] at e; cases e
    · rw [upd_ne ha] at e; exact E.stp.al a e
  · by_cases ha : a = p
    · subst ha; exact .inl (E.stp.al a h)
    · rw [upd_ne ha] at e; exact E.stp.tp a vs e
/-- a tuple that stands may be known from here on -/
theorem EnvOk.know {p : Addr} {vs : List V} (E : EnvOk K W P I ρ σ Hb H) (h : H p = some (.tup vs)) : EnvOk K W P I ρ σ (upd Hb p (.tup vs)) H ∧ Sub Hb (upd Hb p (.tup vs)) := by
  have sb : Sub Hb (upd Hb p (.tup vs)) := fun a o e => by
    by_cases ha : a = p
    · subst ha
      obtain ⟨o', h', f⟩ := E.sub a o e
      rw [h] at h'; cases h'
      exact ⟨_, upd_same, f⟩
    · rw [upd_ne ha]; exact ⟨o, e, .inl rfl⟩
  obtain ⟨k1, k2⟩ := E.cells (H' := H) (W' := W) sb (fun i d q a u hi g e ha hu => ⟨hu, by
    obtain ⟨q', e', c, _, f⟩ := E.celF i d hi g
    rw [e] at e'; cases e'
    have nqp : a ≠ p := fun z => by
      subst z
      obtain ⟨o, ho, nt⟩ := c.footS ha
      rw [h] at ho; cases ho
      exact nt vs rfl
    rw [upd_ne nqp]; exact (f a ha).1⟩) (fun _ _ _ _ _ _ _ _ => ⟨id, id⟩) (fun _ _ _ _ _ _ _ _ => id)
  refine ⟨⟨fun a u e => ?_, ⟨E.stp.hb.trans sb, E.stp.fr, fun a u e => ?_, E.stp.al, E.stp.tp⟩, E.len, fun i d g n m => ?_, k1, k2⟩, sb⟩
  · by_cases ha : a = p
    · subst ha; rw [upd_same] at e; cases e; exact ⟨_, h, .inl rfl⟩
    · rw [upd_ne ha] at e; exact E.sub a u e
  · by_cases ha : a = p
    · subst ha
      rcases E.stp.tp a vs h with r | r
      · exact .inr (.inl r)
      · exact .inr (.inr ⟨vs, r⟩)
    · rw [upd_ne ha] at e; exact E.stp.fs a u e
  · obtain ⟨v, e, q⟩ := E.val i d g n m
    exact ⟨v, e, q.mono sb⟩
/-- a frozen dict is locked -/
theorem EnvOk.lockD {p : Addr} {u : HO} {od : Obj} (E : EnvOk K W P I ρ σ Hb H) (hb : Hb p = some u) (du : isDO u = true) (h : H p = some u ∨ H p = some (.frz od u)) :
    EnvOk K W P I ρ σ (upd Hb p (.frz od u)) (upd H p (.frz od u)) ∧ Sub Hb (upd Hb p (.frz od u)) := by
  have sb : Sub Hb (upd Hb p (.frz od u)) := fun a o e => by
    by_cases ha : a = p
    · subst ha
      rw [hb] at e; cases e
      exact ⟨_, upd_same, .inr ⟨du, od, rfl⟩⟩
    · rw [upd_ne ha]; exact ⟨o, e, .inl rfl⟩
  have wb : ∀ o, W.H p = some o → isDO o = true → W.Hb p ≠ none := fun o e d => by
    rcases E.stp.fs p u hb with r | r | ⟨vs, r⟩
    · exact r
    · rw [e] at r; cases r
    · rw [e] at r; cases r; cases d
  obtain ⟨k1, k2⟩ := E.cells (H' := upd H p (.frz od u)) (W' := W) sb (fun i d q a x hi g e ha hu => by
    obtain ⟨q', e', c, _, f⟩ := E.celF i d hi g
    rw [e] at e'; cases e'
    have nqp : a ≠ p := fun z => by subst z; rw [(f a ha).1] at hb; cases hb
    exact ⟨by rw [upd_ne nqp]; exact hu, by rw [upd_ne nqp]; exact (f a ha).1⟩) (fun _ _ _ _ _ _ _ _ => ⟨id, id⟩) (fun _ _ _ _ _ _ _ _ => id)
  refine ⟨⟨fun a x e => ?_, ⟨E.stp.hb.trans sb, fun a x e n => ?_, fun a x e => ?_, fun a e => ?_, fun a vs e => ?_⟩, E.len, fun i d g n m => ?_, k1, k2⟩, sb⟩
  · by_cases ha : a = p
    · subst ha; rw [upd_same] at e ⊢; exact ⟨_, e, .inl rfl⟩
    · rw [upd_ne ha] at e ⊢; exact E.sub a x e
  · by_cases ha : a = p
    · subst ha
      rw [upd_same]
      rcases E.stp.fr a x e n with r | ⟨r1, r2, od', r3⟩
      · rcases h with h | h
        · rw [h] at r; cases r
          exact .inr ⟨wb _ e du, du, od, rfl⟩
        · rw [h] at r; cases r; exact .inl rfl
      · rcases h with h | h
        · rw [h] at r3; cases r3; cases du
        · rw [h] at r3; cases r3
          exact .inr ⟨r1, r2, _, rfl⟩
    · rw [upd_ne ha]; exact E.stp.fr a x e n
  · by_cases ha : a = p
    · subst ha; exact E.stp.fs a u hb
    · rw [upd_ne ha] at e; exact E.stp.fs a x e
  · by_cases ha : a = p
    · subst ha; rw [upd_same] at e; cases e
    · rw [upd_ne ha] at e; exact E.stp.al a e
  · by_cases ha : a = p
    · subst ha; rw [upd_same] at e; cases e
    · rw [upd_ne ha] at e; exact E.stp.tp a vs e
  · obtain ⟨v, e, q⟩ := E.val i d g n m
    exact ⟨v, e, q.mono sb⟩
end
end DL

/-! DL1: the judgements over data; names, constants, operators, tests, displays, subscripts. -/
namespace DL
open PySem L2

/-- an own exception: its class, its fields -/
structure Exc where
  C : Str
  fs : List (Str × D)
abbrev Post := D → Env → Prop
abbrev XP := Exc → Env → Prop
abbrev FE := Env → Post → XP → Prop
abbrev FT := Env → (Bool → Env → Prop) → XP → Prop
abbrev FA := Env → (List D → Env → Prop) → XP → Prop
abbrev G1 := D → (D → Prop) → Prop
abbrev G2 := D → D → (D → Prop) → Prop
abbrev GN := List D → (D → Prop) → Prop

def XIs (K : PySem.W.Frag) (Hb : Hp) (cls : Value) (dx : Option Addr) (c : Exc) : Prop :=
  (∃ C, IsCl K c.C C ∧ cls = .ref C) ∧ ((c.fs = [] ∧ dx = none) ∨ ∃ (d : Addr) (vs : List (Str × V)), dx = some d ∧ Hb d = some (.xd vs) ∧ vs.map (·.1) = c.fs.map (·.1) ∧ IsL K Hb (vs.map (·.2)) (c.fs.map (·.2)))
/-- what is wanted of an exception follows -/
def XOk (X : Cx) (Wx : WX) (W : Wd) (P : List Nat) (σ : St) (xp : XP) : Prop :=
  ∀ c ρ' cls dx Hb' H', xp c ρ' → EnvOk X.K W P [] ρ' σ Hb' H' → XIs X.K Hb' cls dx c → Wx cls dx σ H'

/-- an expression over data: from I (the slots that own their cells) to J -/
structure DE (X : Cx) (Wx : WX) (P I : List Nat) (e : Expr) (t : TE) (F : FE) (J : List Nat) : Prop where
  pe : PE X e t
  ev : ∀ (W : Wd) (ρ : Env) (σ : St) (Hb H : Hp) (Q : VK) (post : Post) (xp : XP), EnvOk X.K W P I ρ σ Hb H → F ρ post xp → XOk X Wx W P σ xp →
    (∀ d ρ' v Hb' H', post d ρ' → EnvOk X.K W P J ρ' σ Hb' H' → Sub Hb Hb' → Is X.K Hb' v d → Q v H') → t σ H Q
/-- a test -/
structure DT (X : Cx) (Wx : WX) (P I : List Nat) (e : Expr) (t : TT) (F : FT) (J : List Nat) : Prop where
  pe : PT X e t
  ev : ∀ (W : Wd) (ρ : Env) (σ : St) (Hb H : Hp) (Q : Bool → Hp → Prop) (post : Bool → Env → Prop) (xp : XP), EnvOk X.K W P I ρ σ Hb H → F ρ post xp → XOk X Wx W P σ xp →
    (∀ b ρ' Hb' H', post b ρ' → EnvOk X.K W P J ρ' σ Hb' H' → Sub Hb Hb' → Q b H') → t σ H Q
/-- a part of and, or -/
structure DW (X : Cx) (Wx : WX) (P I : List Nat) (e : Expr) (t : TT) (F : FT) (J : List Nat) : Prop where
  pe : PW X e t
  ev : ∀ (W : Wd) (ρ : Env) (σ : St) (Hb H : Hp) (Q : Bool → Hp → Prop) (post : Bool → Env → Prop) (xp : XP), EnvOk X.K W P I ρ σ Hb H → F ρ post xp → XOk X Wx W P σ xp →
    (∀ b ρ' Hb' H', post b ρ' → EnvOk X.K W P J ρ' σ Hb' H' → Sub Hb Hb' → Q b H') → t σ H Q
/-- arguments -/
structure DA (X : Cx) (Wx : WX) (P I : List Nat) (es : List Expr) (t : TA) (F : FA) (J : List Nat) : Prop where
  pe : PA X es t
  ev : ∀ (W : Wd) (ρ : Env) (σ : St) (Hb H : Hp) (Q : List V → Hp → Prop) (post : List D → Env → Prop) (xp : XP), EnvOk X.K W P I ρ σ Hb H → F ρ post xp → XOk X Wx W P σ xp →
    (∀ ds ρ' vs Hb' H', post ds ρ' → EnvOk X.K W P J ρ' σ Hb' H' → Sub Hb Hb' → IsL X.K Hb' vs ds → Q vs H') → t σ H Q
/-- an expression whose value may be a cell that a slot owns: it is only looked at -/
structure DEo (X : Cx) (Wx : WX) (P I : List Nat) (e : Expr) (t : TE) (F : FE) (J : List Nat) : Prop where
  pe : PE X e t
  ev : ∀ (W : Wd) (ρ : Env) (σ : St) (Hb H : Hp) (Q : VK) (post : Post) (xp : XP), EnvOk X.K W P I ρ σ Hb H → F ρ post xp → XOk X Wx W P σ xp →
    (∀ d ρ' v Hb' H', post d ρ' → EnvOk X.K W P J ρ' σ Hb' H' → Sub Hb Hb' → (Is X.K Hb' v d ∨ ∃ p, v = .ref p ∧ Cell X.K Hb' H' p d) → Q v H') → t σ H Q
structure DAo (X : Cx) (Wx : WX) (P I : List Nat) (es : List Expr) (t : TA) (F : FA) (J : List Nat) : Prop where
  pe : PA X es t
  ev : ∀ (W : Wd) (ρ : Env) (σ : St) (Hb H : Hp) (Q : List V → Hp → Prop) (post : List D → Env → Prop) (xp : XP), EnvOk X.K W P I ρ σ Hb H → F ρ post xp → XOk X Wx W P σ xp →
    (∀ ds ρ' vs Hb' H', post ds ρ' → EnvOk X.K W P J ρ' σ Hb' H' → Sub Hb Hb' → Paired (fun v d => Is X.K Hb' v d ∨ ∃ p, v = .ref p ∧ Cell X.K Hb' H' p d) vs ds → Q vs H') → t σ H Q

/-! ### heaps that grow by frozen objects -/
inductive Grow (Hb H : Hp) : Hp → Hp → Prop
  | refl : Grow Hb H Hb H
  | step {Hb' H' : Hp} {p : Addr} {o : HO} : Grow Hb H Hb' H' → H' p = none → Grow Hb H (upd Hb' p o) (upd H' p o)
  | know {Hb' H' : Hp} {p : Addr} {vs : List V} : Grow Hb H Hb' H' → H' p = some (.tup vs) → Grow Hb H (upd Hb' p (.tup vs)) H'
theorem Grow.one {Hb H : Hp} {p : Addr} {o : HO} (h : H p = none) : Grow Hb H (upd Hb p o) (upd H p o) := .step .refl h
theorem Grow.env {K : PySem.W.Frag} {W : Wd} {P I : List Nat} {ρ : Env} {σ : St} {Hb H Hb' H' : Hp} (E : EnvOk K W P I ρ σ Hb H) (g : Grow Hb H Hb' H') : EnvOk K W P I ρ σ Hb' H' ∧ Sub Hb Hb' := by
  induction g with
  | refl => exact ⟨E, Sub.refl _⟩
  | step g h ih => exact ⟨ih.1.alloc h, ih.2.trans (Sub.new (ih.1.sub.none h))⟩
  | know g h ih => exact ⟨(ih.1.know h).1, ih.2.trans (ih.1.know h).2⟩

/-- a value whose parts are frozen: data, or a cell that stands -/
def IsO (K : PySem.W.Frag) (Hb H : Hp) (v : V) (d : D) : Prop := Is K Hb v d ∨ ∃ p, v = .ref p ∧ Cell K Hb H p d
theorem IsO.is {K : PySem.W.Frag} {Hb H : Hp} {v : V} {d : D} (h : IsO K Hb H v d) (s : Sub Hb H) : Is K H v d := by
  rcases h with h | ⟨p, rfl, c⟩
  · exact h.mono s
  · exact c.is s
abbrev IsOL (K : PySem.W.Frag) (Hb H : Hp) : List V → List D → Prop := Paired (IsO K Hb H)
theorem IsL.o {K : PySem.W.Frag} {Hb H : Hp} : ∀ {vs : List V} {ds : List D}, IsL K Hb vs ds → IsOL K Hb H vs ds
  | _, _, .nil => .nil
  | _, _, .cons a l => .cons (.inl a) (IsL.o l)
/-- operations on values, over data -/
def RV1 (K : PySem.W.Frag) (r : V → Hp → VK → Prop) (G : G1) : Prop := ∀ (Hb H : Hp) (x : V) (dx : D) (k : D → Prop) (Q : VK), Sub Hb H → IsO K Hb H x dx → G dx k →
  (∀ v d Hb' H', k d → Grow Hb H Hb' H' → Is K Hb' v d → Q v H') → r x H Q
def RV2 (K : PySem.W.Frag) (r : R2) (G : G2) : Prop := ∀ (Hb H : Hp) (x y : V) (dx dy : D) (k : D → Prop) (Q : VK), Sub Hb H → IsO K Hb H x dx → IsO K Hb H y dy → G dx dy k →
  (∀ v d Hb' H', k d → Grow Hb H Hb' H' → Is K Hb' v d → Q v H') → r x y H Q
def RVN (K : PySem.W.Frag) (r : List V → Hp → VK → Prop) (G : GN) : Prop := ∀ (Hb H : Hp) (xs : List V) (ds : List D) (k : D → Prop) (Q : VK), Sub Hb H → IsOL K Hb H xs ds → G ds k →
  (∀ v d Hb' H', k d → Grow Hb H Hb' H' → Is K Hb' v d → Q v H') → r xs H Q
theorem RV2.or {K : PySem.W.Frag} {r r' : R2} {g g' : G2} (h : RV2 K r g) (h' : RV2 K r' g') : RV2 K (fun x y H Q => r x y H Q ∨ r' x y H Q) (fun x y k => g x y k ∨ g' x y k) :=
  fun Hb H x y dx dy k Q s ix iy g q => g.elim (fun g => .inl (h Hb H x y dx dy k Q s ix iy g q)) fun g => .inr (h' Hb H x y dx dy k Q s ix iy g q)
theorem RV2.imp {K : PySem.W.Frag} {r : R2} {g g' : G2} (h : RV2 K r g) (i : ∀ x y k, g' x y k → g x y k) : RV2 K r g' :=
  fun Hb H x y dx dy k Q s ix iy g q => h Hb H x y dx dy k Q s ix iy (i _ _ _ g) q
theorem RVN.or {K : PySem.W.Frag} {r r' : List V → Hp → VK → Prop} {g g' : GN} (h : RVN K r g) (h' : RVN K r' g') : RVN K (fun xs H Q => r xs H Q ∨ r' xs H Q) (fun xs k => g xs k ∨ g' xs k) :=
  fun Hb H xs ds k Q s l g q => g.elim (fun g => .inl (h Hb H xs ds k Q s l g q)) fun g => .inr (h' Hb H xs ds k Q s l g q)
theorem RVN.imp {K : PySem.W.Frag} {r : List V → Hp → VK → Prop} {g g' : GN} (h : RVN K r g) (i : ∀ x k, g' x k → g x k) : RVN K r g' :=
  fun Hb H xs ds k Q s l g q => h Hb H xs ds k Q s l (i _ _ g) q

/-! ### data-level readings -/
def fVar (i : Nat) : FE := fun ρ post _ => match get ρ i with
  | some d => post d ρ
  | none => False
@[simp ↓] theorem fVar_ap (i : Nat) (ρ : Env) (post : Post) (z_2 : XP) : fVar i ρ post z_2 = (match get ρ i with
  | some d => post d ρ
  | none => False) := (rfl)
def fC (d : D) : FE := fun ρ post _ => post d ρ
@[simp ↓] theorem fC_ap (d : D) (ρ : Env) (post : Post) (z_2 : XP) : fC d ρ post z_2 = (post d ρ) := (rfl)
def fUn (G : G1) (a : FE) : FE := fun ρ post xp => a ρ (fun x ρ1 => G x fun z => post z ρ1) xp
@[simp ↓] theorem fUn_ap (G : G1) (a : FE) (ρ : Env) (post : Post) (xp : XP) : fUn G a ρ post xp = (a ρ (fun x ρ1 => G x fun z => post z ρ1) xp) := (rfl)
def fBin (G : G2) (a b : FE) : FE := fun ρ post xp => a ρ (fun x ρ1 => b ρ1 (fun y ρ2 => G x y fun z => post z ρ2) xp) xp
@[simp ↓] theorem fBin_ap (G : G2) (a b : FE) (ρ : Env) (post : Post) (xp : XP) : fBin G a b ρ post xp = (a ρ (fun x ρ1 => b ρ1 (fun y ρ2 => G x y fun z => post z ρ2) xp) xp) := (rfl)
/-- the left operand a slot's own cell, looked at once the right one is known -/
def fBinL (G : G2) (i : Nat) (b : FE) : FE := fun ρ post xp => (match get ρ i with
    | some _ => True
    | none => False) ∧ b ρ (fun y ρ1 => match get ρ1 i with
    | some x => G x y fun z => post z ρ1
    | none => False) xp
@[simp ↓] theorem fBinL_ap (G : G2) (i : Nat) (b : FE) (ρ : Env) (post : Post) (xp : XP) : fBinL G i b ρ post xp = ((match get ρ i with
    | some _ => True
    | none => False) ∧ b ρ (fun y ρ1 => match get ρ1 i with
    | some x => G x y fun z => post z ρ1
    | none => False) xp) := (rfl)
def fNil : FA := fun ρ post _ => post [] ρ
@[simp ↓] theorem fNil_ap (ρ : Env) (post : List D → Env → Prop) (z_2 : XP) : fNil  ρ post z_2 = (post [] ρ) := (rfl)
def fCons (a : FE) (b : FA) : FA := fun ρ post xp => a ρ (fun x ρ1 => b ρ1 (fun xs ρ2 => post (x :: xs) ρ2) xp) xp
@[simp ↓] theorem fCons_ap (a : FE) (b : FA) (ρ : Env) (post : List D → Env → Prop) (xp : XP) : fCons a b ρ post xp = (a ρ (fun x ρ1 => b ρ1 (fun xs ρ2 => post (x :: xs) ρ2) xp) xp) := (rfl)
def fN (G : GN) (a : FA) : FE := fun ρ post xp => a ρ (fun xs ρ1 => G xs fun z => post z ρ1) xp
@[simp ↓] theorem fN_ap (G : GN) (a : FA) (ρ : Env) (post : Post) (xp : XP) : fN G a ρ post xp = (a ρ (fun xs ρ1 => G xs fun z => post z ρ1) xp) := (rfl)
def fTup (a : FA) : FE := fun ρ post xp => a ρ (fun xs ρ1 => post (.tup xs) ρ1) xp
def fLst (a : FA) : FE := fun ρ post xp => a ρ (fun xs ρ1 => post (.lst xs) ρ1) xp
/-- a value that is True or False -/
@[simp ↓] def gB (d : D) (k : Bool → Prop) : Prop := match d with
  | .bl b => k b
  | _ => False
def fTest (a : FE) : FT := fun ρ post xp => a ρ (fun x ρ1 => gB x fun b => post b ρ1) xp
@[simp ↓] theorem fTest_ap (a : FE) (ρ : Env) (post : Bool → Env → Prop) (xp : XP) : fTest a ρ post xp = (a ρ (fun x ρ1 => gB x fun b => post b ρ1) xp) := (rfl)
def fAnd (a b : FT) : FT := fun ρ post xp => a ρ (fun c ρ1 => if c = true then b ρ1 post xp else post false ρ1) xp
@[simp ↓] theorem fAnd_ap (a b : FT) (ρ : Env) (post : Bool → Env → Prop) (xp : XP) : fAnd a b ρ post xp = (a ρ (fun c ρ1 => if c = true then b ρ1 post xp else post false ρ1) xp) := (rfl)
def fOr (a b : FT) : FT := fun ρ post xp => a ρ (fun c ρ1 => if c = true then post true ρ1 else b ρ1 post xp) xp
@[simp ↓] theorem fOr_ap (a b : FT) (ρ : Env) (post : Bool → Env → Prop) (xp : XP) : fOr a b ρ post xp = (a ρ (fun c ρ1 => if c = true then post true ρ1 else b ρ1 post xp) xp) := (rfl)
def fNot (a : FT) : FT := fun ρ post xp => a ρ (fun c ρ1 => post (!c) ρ1) xp
@[simp ↓] theorem fNot_ap (a : FT) (ρ : Env) (post : Bool → Env → Prop) (xp : XP) : fNot a ρ post xp = (a ρ (fun c ρ1 => post (!c) ρ1) xp) := (rfl)
def fAndV (a b : FE) : FE := fun ρ post xp => a ρ (fun x ρ1 => gB x fun c => if c = true then b ρ1 post xp else post (.bl false) ρ1) xp
@[simp ↓] theorem fAndV_ap (a b : FE) (ρ : Env) (post : Post) (xp : XP) : fAndV a b ρ post xp = (a ρ (fun x ρ1 => gB x fun c => if c = true then b ρ1 post xp else post (.bl false) ρ1) xp) := (rfl)
def fOrV (a b : FE) : FE := fun ρ post xp => a ρ (fun x ρ1 => gB x fun c => if c = true then post (.bl true) ρ1 else b ρ1 post xp) xp
@[simp ↓] theorem fOrV_ap (a b : FE) (ρ : Env) (post : Post) (xp : XP) : fOrV a b ρ post xp = (a ρ (fun x ρ1 => gB x fun c => if c = true then post (.bl true) ρ1 else b ρ1 post xp) xp) := (rfl)
def fNotV (a : FE) : FE := fun ρ post xp => a ρ (fun x ρ1 => gB x fun c => post (.bl (!c)) ρ1) xp
@[simp ↓] theorem fNotV_ap (a : FE) (ρ : Env) (post : Post) (xp : XP) : fNotV a ρ post xp = (a ρ (fun x ρ1 => gB x fun c => post (.bl (!c)) ρ1) xp) := (rfl)
def fIf (c : FT) (a b : FE) : FE := fun ρ post xp => c ρ (fun t ρ1 => if t = true then a ρ1 post xp else b ρ1 post xp) xp
@[simp ↓] theorem fIf_ap (c : FT) (a b : FE) (ρ : Env) (post : Post) (xp : XP) : fIf c a b ρ post xp = (c ρ (fun t ρ1 => if t = true then a ρ1 post xp else b ρ1 post xp) xp) := (rfl)

section
variable {X : Cx} {Wx : WX} {P I J J1 J2 J3 : List Nat} {e a b c : Expr} {es : List Expr} {F G : FE} {T U : FT} {A : FA} {pos p2 : Pos} {ta tb : TE} {tA : TA}

theorem de_of {t : TE} (h : PE X e t) (k : ∀ (W : Wd) (ρ : Env) (σ : St) (Hb H : Hp) (Q : VK) (post : Post) (xp : XP), EnvOk X.K W P I ρ σ Hb H → F ρ post xp → XOk X Wx W P σ xp →
    (∀ d ρ' v Hb' H', post d ρ' → EnvOk X.K W P J ρ' σ Hb' H' → Sub Hb Hb' → Is X.K Hb' v d → Q v H') → t σ H Q) : DE X Wx P I e t F J := ⟨h, k⟩
theorem dt_of {t : TT} (h : PT X e t) (k : ∀ (W : Wd) (ρ : Env) (σ : St) (Hb H : Hp) (Q : Bool → Hp → Prop) (post : Bool → Env → Prop) (xp : XP), EnvOk X.K W P I ρ σ Hb H → T ρ post xp → XOk X Wx W P σ xp →
    (∀ b ρ' Hb' H', post b ρ' → EnvOk X.K W P J ρ' σ Hb' H' → Sub Hb Hb' → Q b H') → t σ H Q) : DT X Wx P I e t T J := ⟨h, k⟩

theorem de_var (i : Nat) {x : Str} (hp : i ∉ P := by decide) (hi : i ∉ I := by decide) (hN : X.N[i]? = some x := by rfl) (hv : Vis X.env.scope x := by first | exact Or.inl rfl | exact Or.inr (Or.inl rfl) | exact Or.inr (Or.inr rfl)) (hd : (x == ("__debug__" : Str)) = false := by decide)
    (hcd : (x == ("__classdict__" : Str)) = false := by decide) : DE X Wx P I (.Name x pos) (tVar i) (fVar i) I :=
  de_of (pe_var hN hv hd hcd) fun W ρ σ Hb H Q post xp E f _ q => by
    unfold fVar at f
    split at f
    · rename_i d g
      obtain ⟨v, e, is⟩ := E.val i d g hp hi
      exact ⟨v, e, q _ _ _ _ _ f E (Sub.refl _) is⟩
    · exact f.elim
theorem de_int {i : Int} {j} : DE X Wx P I (.Constant (.int i) j pos) (tC (.int i)) (fC (.int i)) I := de_of pe_int fun W ρ σ Hb H Q post xp E f _ q => q _ _ _ _ _ f E (Sub.refl _) (.int i)
theorem de_bl {b : Bool} {j} : DE X Wx P I (.Constant (.bool b) j pos) (tC (.bl b)) (fC (.bl b)) I := de_of pe_bl fun W ρ σ Hb H Q post xp E f _ q => q _ _ _ _ _ f E (Sub.refl _) (.bl b)
theorem de_non {j} : DE X Wx P I (.Constant .none j pos) (tC .non) (fC .non) I := de_of pe_non fun W ρ σ Hb H Q post xp E f _ q => q _ _ _ _ _ f E (Sub.refl _) .non
theorem de_str {x : Str} {j} : DE X Wx P I (.Constant (.str x) j pos) (tC (.str x)) (fC (.str x)) I := de_of pe_str fun W ρ σ Hb H Q post xp E f _ q => q _ _ _ _ _ f E (Sub.refl _) (.str x)
/-- a module's name: a class, a def, a constant -/
theorem de_glob {x : Str} {v : V} {u : Value} {d : D} (hm : X.mg x = some u) (r : RelV v u) (is : ∀ H, Is X.K H v d) (hg : Gl X x := by rfl) (hd : (x == ("__debug__" : Str)) = false := by decide) : DE X Wx P I (.Name x pos) (tC v) (fC d) I :=
  de_of (pe_glob hg hm r hd) fun W ρ σ Hb H Q post xp E f _ q => q _ _ _ _ _ f E (Sub.refl _) (is _)
theorem de_bltn {x : Str} {n : String} (hm : X.mg x = none) (hv : bootBuiltins x = some (.type n)) (hg : Gl X x := by rfl) (hn : x ≠ "__name__" := by decide) (hd : (x == ("__debug__" : Str)) = false := by decide) : DE X Wx P I (.Name x pos) (tC (.ty n)) (fC (.ty n)) I :=
  de_of (pe_bltn hg hm hv (v := .ty n) rfl hn hd) fun W ρ σ Hb H Q post xp E f _ q => q _ _ _ _ _ f E (Sub.refl _) (.ty n)

theorem deo (h : DE X Wx P I e ta F J) : DEo X Wx P I e ta F J := ⟨h.pe, fun W ρ σ Hb H Q post xp E f x q => h.ev W ρ σ Hb H Q post xp E f x fun d ρ' v Hb' H' a E' s i => q d ρ' v Hb' H' a E' s (.inl i)⟩
theorem deo_var (i : Nat) {x : Str} (hi : i ∈ P ∨ i ∈ I := by decide) (hN : X.N[i]? = some x := by rfl) (hv : Vis X.env.scope x := by first | exact Or.inl rfl | exact Or.inr (Or.inl rfl) | exact Or.inr (Or.inr rfl)) (hd : (x == ("__debug__" : Str)) = false := by decide)
    (hcd : (x == ("__classdict__" : Str)) = false := by decide) : DEo X Wx P I (.Name x pos) (tVar i) (fVar i) I :=
  ⟨pe_var hN hv hd hcd, fun W ρ σ Hb H Q post xp E f _ q => by
    unfold fVar at f
    split at f
    · rename_i d g
      obtain ⟨p, e, _, c, _⟩ := E.cel i d hi g
      exact ⟨_, e, q _ _ _ _ _ f E (Sub.refl _) (.inr ⟨p, rfl, c⟩)⟩
    · exact f.elim⟩
theorem de_un {op : UnaryOp} {r : V → Hp → VK → Prop} {g : G1} (ho : UnR X (unaryOp op) r) (hr : RV1 X.K r g) (ha : DEo X Wx P I a ta F J) : DE X Wx P I (.UnaryOp op a pos) (tUn r ta) (fUn g F) J := by
  obtain ⟨pa, ka⟩ := ha
  refine de_of (pe_un ho pa) fun W ρ σ Hb H Q post xp E f x q => ka W ρ σ Hb H _ _ xp E f x fun d ρ1 v Hb1 H1 f1 E1 s1 i1 => ?_
  refine hr Hb1 H1 v d _ _ E1.sub i1 f1 fun w dz Hb2 H2 kz g iz => ?_
  obtain ⟨E2, s2⟩ := g.env E1
  exact q _ _ _ _ _ kz E2 (s1.trans s2) iz
theorem bin_core {r : R2} {g : G2} (hr : RV2 X.K r g) (ha : DE X Wx P I a ta F J1) (hb : DEo X Wx P J1 b tb G J) :
    ∀ (W : Wd) (ρ : Env) (σ : St) (Hb H : Hp) (Q : VK) (post : Post) (xp : XP), EnvOk X.K W P I ρ σ Hb H → fBin g F G ρ post xp → XOk X Wx W P σ xp →
    (∀ d ρ' v Hb' H', post d ρ' → EnvOk X.K W P J ρ' σ Hb' H' → Sub Hb Hb' → Is X.K Hb' v d → Q v H') → tOp r ta tb σ H Q := by
  intro W ρ σ Hb H Q post xp E f x q
  refine ha.ev W ρ σ Hb H _ _ xp E f x fun d ρ1 v Hb1 H1 f1 E1 s1 i1 => ?_
  refine hb.ev W ρ1 σ Hb1 H1 _ _ xp E1 f1 x fun d2 ρ2 v2 Hb2 H2 f2 E2 s2 i2 => ?_
  refine hr Hb2 H2 v v2 d d2 _ _ E2.sub (.inl (i1.mono s2)) i2 f2 fun w dz Hb3 H3 kz g iz => ?_
  obtain ⟨E3, s3⟩ := g.env E2
  exact q _ _ _ _ _ kz E3 ((s1.trans s2).trans s3) iz
theorem binL_core {r : R2} {g : G2} (i : Nat) (hr : RV2 X.K r g) (hb : DEo X Wx P I b tb G J) (hi : i ∈ P ∨ i ∈ I) (hj : i ∈ P ∨ i ∈ J) :
    ∀ (W : Wd) (ρ : Env) (σ : St) (Hb H : Hp) (Q : VK) (post : Post) (xp : XP), EnvOk X.K W P I ρ σ Hb H → fBinL g i G ρ post xp → XOk X Wx W P σ xp →
    (∀ d ρ' v Hb' H', post d ρ' → EnvOk X.K W P J ρ' σ Hb' H' → Sub Hb Hb' → Is X.K Hb' v d → Q v H') → tOp r (tVar i) tb σ H Q := by
  intro W ρ σ Hb H Q post xp E f x q
  obtain ⟨f0, f⟩ := f
  cases g0 : get ρ i with
  | none => rw [g0] at f0; exact f0.elim
  | some d0 =>
    obtain ⟨p, ep, _⟩ := E.cel i d0 hi g0
    refine ⟨_, ep, hb.ev W ρ σ Hb H _ _ xp E f x fun d2 ρ2 v2 Hb2 H2 f2 E2 s2 i2 => ?_⟩
    cases g2 : get ρ2 i with
    | none => rw [g2] at f2; exact f2.elim
    | some d =>
      rw [g2] at f2
      obtain ⟨p', ep', _, c, _⟩ := E2.cel i d hj g2
      rw [ep] at ep'; cases ep'
      refine hr Hb2 H2 _ v2 d d2 _ _ E2.sub (.inr ⟨p, rfl, c⟩) i2 f2 fun w dz Hb3 H3 kz g iz => ?_
      obtain ⟨E3, s3⟩ := g.env E2
      exact q _ _ _ _ _ kz E3 (s2.trans s3) iz
theorem de_bin {op : Operator} {r : R2} {g : G2} (ho : OpR X (binaryOp op) r) (hr : RV2 X.K r g) (ha : DE X Wx P I a ta F J1) (hb : DEo X Wx P J1 b tb G J) : DE X Wx P I (.BinOp a op b pos) (tOp r ta tb) (fBin g F G) J :=
  de_of (pe_op ho ha.pe hb.pe) (bin_core hr ha hb)
theorem de_binL {op : Operator} {r : R2} {g : G2} (i : Nat) {x : Str} (ho : OpR X (binaryOp op) r) (hr : RV2 X.K r g) (hb : DEo X Wx P I b tb G J) (hi : i ∈ P ∨ i ∈ I := by decide) (hj : i ∈ P ∨ i ∈ J := by decide) (hN : X.N[i]? = some x := by rfl) (hv : Vis X.env.scope x := by first | exact Or.inl rfl | exact Or.inr (Or.inl rfl) | exact Or.inr (Or.inr rfl)) (hd : (x == ("__debug__" : Str)) = false := by decide)
    (hcd : (x == ("__classdict__" : Str)) = false := by decide) : DE X Wx P I (.BinOp (.Name x p2) op b pos) (tOp r (tVar i) tb) (fBinL g i G) J :=
  de_of (pe_op ho (pe_var hN hv hd hcd) hb.pe) (binL_core i hr hb hi hj)
theorem de_cmp {op : CmpOp} {r : R2} {g : G2} (ho : OpR X (compareOp op) r) (hr : RV2 X.K r g) (ha : DE X Wx P I a ta F J1) (hb : DEo X Wx P J1 b tb G J) (hm : behindInMarks op b = false := by first | exact nomark _ | rfl) : DE X Wx P I (.Compare a [op] [b] pos) (tOp r ta tb) (fBin g F G) J :=
  de_of (pe_cmpR ho ha.pe hb.pe hm) (bin_core hr ha hb)
theorem de_cmpL {op : CmpOp} {r : R2} {g : G2} (i : Nat) {x : Str} (ho : OpR X (compareOp op) r) (hr : RV2 X.K r g) (hb : DEo X Wx P I b tb G J) (hm : behindInMarks op b = false := by first | exact nomark _ | rfl) (hi : i ∈ P ∨ i ∈ I := by decide) (hj : i ∈ P ∨ i ∈ J := by decide) (hN : X.N[i]? = some x := by rfl) (hv : Vis X.env.scope x := by first | exact Or.inl rfl | exact Or.inr (Or.inl rfl) | exact Or.inr (Or.inr rfl)) (hd : (x == ("__debug__" : Str)) = false := by decide)
    (hcd : (x == ("__classdict__" : Str)) = false := by decide) : DE X Wx P I (.Compare (.Name x p2) [op] [b] pos) (tOp r (tVar i) tb) (fBinL g i G) J :=
  de_of (pe_cmpR ho (pe_var hN hv hd hcd) hb.pe hm) (binL_core i hr hb hi hj)
theorem de_ix {r : R2} {g : G2} (ho : IxR X r) (hr : RV2 X.K r g) (ha : DE X Wx P I a ta F J1) (hb : DEo X Wx P J1 b tb G J) (hs : PlainIx b := by exact fun _ _ => rfl) : DE X Wx P I (.Subscript a b pos) (tOp r ta tb) (fBin g F G) J :=
  de_of (pe_ix ho ha.pe hb.pe hs) (bin_core hr ha hb)
theorem de_ixL {r : R2} {g : G2} (i : Nat) {x : Str} (ho : IxR X r) (hr : RV2 X.K r g) (hb : DEo X Wx P I b tb G J) (hs : PlainIx b := by exact fun _ _ => rfl) (hi : i ∈ P ∨ i ∈ I := by decide) (hj : i ∈ P ∨ i ∈ J := by decide) (hN : X.N[i]? = some x := by rfl) (hv : Vis X.env.scope x := by first | exact Or.inl rfl | exact Or.inr (Or.inl rfl) | exact Or.inr (Or.inr rfl)) (hd : (x == ("__debug__" : Str)) = false := by decide)
    (hcd : (x == ("__classdict__" : Str)) = false := by decide) : DE X Wx P I (.Subscript (.Name x p2) b pos) (tOp r (tVar i) tb) (fBinL g i G) J :=
  de_of (pe_ix ho (pe_var hN hv hd hcd) hb.pe hs) (binL_core i hr hb hi hj)

theorem da_nil : DA X Wx P I [] tNil fNil I := ⟨pa_nil, fun W ρ σ Hb H Q post xp E f _ q => q _ _ _ _ _ f E (Sub.refl _) .nil⟩
theorem da_cons (ha : DE X Wx P I e ta F J1) (hb : DA X Wx P J1 es tA A J) (hs : starEach (e :: es) X.env = (false, eval e X.env) :: starEach es X.env := by rfl) : DA X Wx P I (e :: es) (tCons ta tA) (fCons F A) J := by
  obtain ⟨pa, ka⟩ := ha
  obtain ⟨pb, kb⟩ := hb
  refine ⟨pa_cons pa pb hs, fun W ρ σ Hb H Q post xp E f x q => ka W ρ σ Hb H _ _ xp E f x fun d ρ1 v Hb1 H1 f1 E1 s1 i1 => ?_⟩
  exact kb W ρ1 σ Hb1 H1 _ _ xp E1 f1 x fun ds ρ2 vs Hb2 H2 f2 E2 s2 i2 => q _ _ _ _ _ f2 E2 (s1.trans s2) (.cons (i1.mono s2) i2)
/-- arguments that are only looked at: the last one may be a slot's own cell -/
theorem dao (h : DA X Wx P I es tA A J) : DAo X Wx P I es tA A J := ⟨h.pe, fun W ρ σ Hb H Q post xp E f x q => h.ev W ρ σ Hb H Q post xp E f x fun ds ρ' vs Hb' H' a E' s i => q ds ρ' vs Hb' H' a E' s i.o⟩
theorem dao_one (ha : DEo X Wx P I e ta F J) (hs : starEach [e] X.env = (false, eval e X.env) :: starEach [] X.env := by rfl) : DAo X Wx P I [e] (tCons ta tNil) (fCons F fNil) J :=
  ⟨pa_cons ha.pe pa_nil hs, fun W ρ σ Hb H Q post xp E f x q => ha.ev W ρ σ Hb H _ _ xp E f x fun d ρ1 v Hb1 H1 f1 E1 s1 i1 => q _ _ _ _ _ f1 E1 s1 (.cons i1 .nil)⟩
theorem dao_cons (ha : DE X Wx P I e ta F J1) (hb : DAo X Wx P J1 es tA A J) (hs : starEach (e :: es) X.env = (false, eval e X.env) :: starEach es X.env := by rfl) : DAo X Wx P I (e :: es) (tCons ta tA) (fCons F A) J :=
  ⟨pa_cons ha.pe hb.pe hs, fun W ρ σ Hb H Q post xp E f x q => ha.ev W ρ σ Hb H _ _ xp E f x fun d ρ1 v Hb1 H1 f1 E1 s1 i1 => hb.ev W ρ1 σ Hb1 H1 _ _ xp E1 f1 x fun ds ρ2 vs Hb2 H2 f2 E2 s2 i2 => q _ _ _ _ _ f2 E2 (s1.trans s2) (.cons (.inl (i1.mono s2)) i2)⟩
theorem de_tup {x1} (h : DA X Wx P I es tA A J) (hz : es.length ≤ 1000 := by exact by decide) : DE X Wx P I (.Tuple es x1 pos) (tTup tA) (fun ρ post xp => A ρ (fun xs ρ1 => xs.length ≤ 1000 ∧ post (.tup xs) ρ1) xp) J := by
  obtain ⟨pa, ka⟩ := h
  refine de_of (pe_tup pa) fun W ρ σ Hb H Q post xp E f x q => ka W ρ σ Hb H _ _ xp E f x fun ds ρ1 vs Hb1 H1 f1 E1 s1 i1 => ⟨?_, fun p hp => ?_⟩
  · rw [i1.length]; exact Nat.le_trans f1.1 (by decide)
  · have hn : Hb1 p = none := E1.sub.none hp
    exact q _ _ _ _ _ f1.2 (E1.alloc hp) (s1.trans (Sub.new hn)) (.tup upd_same (i1.mono (Sub.new hn)))
end
end DL

/-! DL2: operators and built-ins over data. -/
namespace DL
open PySem L2 PyProof.Rows

/-! ### plain data for == -/
mutual
def pd : D → Option PyData
  | .non => some .none
  | .bl b => some (.bool b)
  | .int i => some (.int i)
  | .str s => some (.str s)
  | .tup ds => (pdL ds).map .tuple
  | .lst ds => (pdL ds).map .list
  | .ktp ds => (pdL ds).map .tuple
  | .slst ds => (pdL ds).map .list
  | _ => none
def pdL : List D → Option (List PyData)
  | [] => some []
  | d :: ds => match pd d with
    | some x => (pdL ds).map (x :: ·)
    | none => none
end
mutual
theorem Is.dp {K : PySem.W.Frag} {H : Hp} : ∀ {v : V} {d : D} {x : PyData}, Is K H v d → pd d = some x → Dp K H v x
  | _, _, _, .non, e => by simp [pd] at e; subst e; exact .non
  | _, _, _, .bl b, e => by simp [pd] at e; subst e; exact .bl b
  | _, _, _, .int i, e => by simp [pd] at e; subst e; exact .int i
  | _, _, _, .str s, e => by simp [pd] at e; subst e; exact .str s
  | _, _, _, .ty n, e => by simp [pd] at e
  | _, _, _, .fn n, e => by simp [pd] at e
  | _, _, _, .cl c, e => by simp [pd] at e
  | _, _, _, .xc0 _ _, e => by simp [pd] at e
  | _, _, _, .xcd _ _ _ _ _, e => by simp [pd] at e
  | _, .tup ds, _, .tup h l, e => by
    simp only [pd] at e
    cases q : pdL ds with
    | none => rw [q] at e; cases e
    | some xs => rw [q] at e; cases e; exact .tup (SqT.of h) (IsL.dp l q)
  | _, .lst ds, _, .lst h l, e => by
    simp only [pd] at e
    cases q : pdL ds with
    | none => rw [q] at e; cases e
    | some xs => rw [q] at e; cases e; exact .lst (SqL.of h) (IsL.dp l q)
  | _, .ktp ds, _, .ktp h l, e => by
    simp only [pd] at e
    cases q : pdL ds with
    | none => rw [q] at e; cases e
    | some xs => rw [q] at e; cases e; exact .tup h (IsL.dp l q)
  | _, .slst ds, _, .slst h l, e => by
    simp only [pd] at e
    cases q : pdL ds with
    | none => rw [q] at e; cases e
    | some xs => rw [q] at e; cases e; exact .lst h (IsL.dp l q)
  | _, _, _, .dk _ _ _, e => by simp [pd] at e
  | _, _, _, .dt _ _ _, e => by simp [pd] at e
  | _, _, _, .obj _ _ _ _, e => by simp [pd] at e
  | _, _, _, .nest _ _ _, e => by simp [pd] at e
  | _, _, _, .nobj _ _ _ _, e => by simp [pd] at e
theorem IsL.dp {K : PySem.W.Frag} {H : Hp} : ∀ {vs : List V} {ds : List D} {xs : List PyData}, IsL K H vs ds → pdL ds = some xs → DpAll K H vs xs
  | _, _, _, .nil, e => by simp [pdL] at e; subst e; exact .nil
  | _, d :: ds, _, .cons a l, e => by
    simp only [pdL] at e
    cases q : pd d with
    | none => rw [q] at e; cases e
    | some x =>
      rw [q] at e
      cases r : pdL ds with
      | none => rw [r] at e; cases e
      | some xs => rw [r] at e; cases e; exact .cons (Is.dp a q) (IsL.dp l r)
end

/-! ### items, keys -/
/-- the items of a tuple, of a list -/
def tupD : D → Option (List D)
  | .tup ds => some ds
  | .ktp ds => some ds
  | _ => none
def lstD : D → Option (List D)
  | .lst ds => some ds
  | .slst ds => some ds
  | _ => none
def dInts : List D → Option (List Int)
  | [] => some []
  | .int i :: r => (dInts r).map (i :: ·)
  | _ => none
def dBools : List D → Option (List Bool)
  | [] => some []
  | .bl i :: r => (dBools r).map (i :: ·)
  | _ => none
def keysOf : List D → Option (List Key)
  | [] => some []
  | .int i :: r => (keysOf r).map (Sum.inl i :: ·)
  | .str s :: r => (keysOf r).map (Sum.inr s :: ·)
  | _ => none
def valD {κ : Type} [DecidableEq κ] (kvs : List (κ × D)) (k : κ) : Option D := (kvs.find? fun kv => decide (kv.1 = k)).map (·.2)
@[simp] def putD {κ : Type} [DecidableEq κ] (kvs : List (κ × D)) (k : κ) (v : D) : List (κ × D) := if (kvs.any fun kv => decide (kv.1 = k)) = true then kvs.map fun kv => if kv.1 = k then (kv.1, v) else kv else kvs ++ [(k, v)]
section
variable {K : PySem.W.Frag} {Hb H : Hp}
theorem is_int {v : V} {i : Int} (h : Is K H v (.int i)) : v = .int i := by cases h; rfl
theorem is_bl {v : V} {b : Bool} (h : Is K H v (.bl b)) : v = .bl b := by cases h; rfl
theorem is_str {v : V} {b : Str} (h : Is K H v (.str b)) : v = .str b := by cases h; rfl
theorem is_non {v : V} (h : Is K H v .non) : v = .non := by cases h; rfl
theorem is_tupD {v : V} {d : D} {ds : List D} (h : Is K H v d) (e : tupD d = some ds) : ∃ a vs, v = .ref a ∧ SqT K H a vs ∧ IsL K H vs ds := by
  cases d <;> simp [tupD] at e <;> subst e
  · cases h with
    | tup h l => exact ⟨_, _, rfl, SqT.of h, l⟩
  · cases h with
    | ktp h l => exact ⟨_, _, rfl, h, l⟩
theorem is_lstD {v : V} {d : D} {ds : List D} (h : Is K H v d) (e : lstD d = some ds) : ∃ a vs, v = .ref a ∧ SqL K H a vs ∧ IsL K H vs ds := by
  cases d <;> simp [lstD] at e <;> subst e
  · cases h with
    | lst h l => exact ⟨_, _, rfl, SqL.of h, l⟩
  · cases h with
    | slst h l => exact ⟨_, _, rfl, h, l⟩
theorem o_int {v : V} {i : Int} (h : IsO K Hb H v (.int i)) : v = .int i := h.elim is_int fun ⟨_, _, c⟩ => c.elim
theorem o_bl {v : V} {i : Bool} (h : IsO K Hb H v (.bl i)) : v = .bl i := h.elim is_bl fun ⟨_, _, c⟩ => c.elim
theorem o_str {v : V} {i : Str} (h : IsO K Hb H v (.str i)) : v = .str i := h.elim is_str fun ⟨_, _, c⟩ => c.elim
theorem o_non {v : V} (h : IsO K Hb H v .non) : v = .non := h.elim is_non fun ⟨_, _, c⟩ => c.elim
theorem o_ty {v : V} {n : String} (h : IsO K Hb H v (.ty n)) : v = .ty n := h.elim (fun h => by cases h; rfl) fun ⟨_, _, c⟩ => c.elim
theorem o_fn {v : V} {n : Addr} (h : IsO K Hb H v (.fn n)) : v = .ref n := h.elim (fun h => by cases h; rfl) fun ⟨_, _, c⟩ => c.elim
theorem o_tupD (s : Sub Hb H) {v : V} {d : D} {ds : List D} (h : IsO K Hb H v d) (e : tupD d = some ds) : Is K Hb v d ∧ ∃ a vs, v = .ref a ∧ SqT K H a vs ∧ IsL K Hb vs ds := by
  rcases h with h | ⟨p, rfl, c⟩
  · obtain ⟨a, vs, e1, h1, l⟩ := is_tupD h e
    exact ⟨h, a, vs, e1, s.sqT h1, l⟩
  · cases d <;> first | exact c.elim | simp [tupD] at e
theorem o_tup (s : Sub Hb H) {v : V} {ds : List D} (h : IsO K Hb H v (.tup ds)) : ∃ a vs, v = .ref a ∧ Hb a = some (.tup vs) ∧ IsL K Hb vs ds := by
  rcases h with h | ⟨p, rfl, c⟩
  · cases h with
    | tup h l => exact ⟨_, _, rfl, h, l⟩
  · exact c.elim
theorem o_lstD (s : Sub Hb H) {v : V} {d : D} {ds : List D} (h : IsO K Hb H v d) (e : lstD d = some ds) : ∃ a vs, v = .ref a ∧ SqL K H a vs ∧ IsL K Hb vs ds := by
  rcases h with h | ⟨p, rfl, c⟩
  · obtain ⟨a, vs, e1, h1, l⟩ := is_lstD h e
    exact ⟨a, vs, e1, s.sqL h1, l⟩
  · cases d <;> first | exact c.elim | simp [lstD] at e
    subst e
    obtain ⟨vs, h1, l⟩ := c
    exact ⟨p, vs, rfl, SqL.of h1, l⟩
theorem o_lst (s : Sub Hb H) {v : V} {ds : List D} (h : IsO K Hb H v (.lst ds)) : ∃ a vs, v = .ref a ∧ H a = some (.lst vs) ∧ IsL K Hb vs ds := by
  rcases h with h | ⟨p, rfl, vs, h1, l⟩
  · cases h with
    | lst h l => exact ⟨_, _, rfl, s.at h, l⟩
  · exact ⟨p, vs, rfl, h1, l⟩
theorem is_ints : ∀ {vs : List V} {ds : List D} {ns : List Int}, IsL K H vs ds → dInts ds = some ns → vs = ns.map V.int
  | _, [], _, .nil, e => by simp [dInts] at e; subst e; rfl
  | _, .int i :: r, _, .cons a l, e => by
    simp only [dInts] at e
    cases q : dInts r with
    | none => rw [q] at e; cases e
    | some ms => rw [q] at e; cases e; rw [is_int a, is_ints l q]; rfl
  | _, .non :: _, _, _, e | _, .bl _ :: _, _, _, e | _, .str _ :: _, _, _, e | _, .ty _ :: _, _, _, e | _, .fn _ :: _, _, _, e | _, .cl _ :: _, _, _, e | _, .xc _ _ :: _, _, _, e | _, .tup _ :: _, _, _, e | _, .lst _ :: _, _, _, e | _, .ktp _ :: _, _, _, e | _, .slst _ :: _, _, _, e | _, .dk _ :: _, _, _, e | _, .dt _ :: _, _, _, e | _, .obj _ _ :: _, _, _, e | _, .nest _ _ :: _, _, _, e | _, .nobj _ _ _ :: _, _, _, e => by simp [dInts] at e
theorem is_bools : ∀ {vs : List V} {ds : List D} {ns : List Bool}, IsL K H vs ds → dBools ds = some ns → vs = ns.map V.bl
  | _, [], _, .nil, e => by simp [dBools] at e; subst e; rfl
  | _, .bl i :: r, _, .cons a l, e => by
    simp only [dBools] at e
    cases q : dBools r with
    | none => rw [q] at e; cases e
    | some ms => rw [q] at e; cases e; rw [is_bl a, is_bools l q]; rfl
  | _, .non :: _, _, _, e | _, .int _ :: _, _, _, e | _, .str _ :: _, _, _, e | _, .ty _ :: _, _, _, e | _, .fn _ :: _, _, _, e | _, .cl _ :: _, _, _, e | _, .xc _ _ :: _, _, _, e | _, .tup _ :: _, _, _, e | _, .lst _ :: _, _, _, e | _, .ktp _ :: _, _, _, e | _, .slst _ :: _, _, _, e | _, .dk _ :: _, _, _, e | _, .dt _ :: _, _, _, e | _, .obj _ _ :: _, _, _, e | _, .nest _ _ :: _, _, _, e | _, .nobj _ _ _ :: _, _, _, e => by simp [dBools] at e
end
section
variable {K : PySem.W.Frag} {Hb H : Hp}
theorem valD_rel {κ : Type} [DecidableEq κ] (k : κ) : ∀ {vs : List (κ × V)} {kvs : List (κ × D)}, vs.map (·.1) = kvs.map (·.1) → IsL K H (vs.map (·.2)) (kvs.map (·.2)) →
    (∀ d, valD kvs k = some d → ∃ v, valV vs k = some v ∧ Is K H v d) ∧ (valD kvs k = none → valV vs k = none)
  | [], [], _, _ => ⟨fun d h => by simp [valD] at h, fun _ => rfl⟩
  | [], _ :: _, e, _ => by simp at e
  | _ :: _, [], e, _ => by simp at e
  | (k1, v) :: vs, (k2, d) :: kvs, e, l => by
    simp only [List.map_cons, List.cons.injEq] at e
    obtain ⟨rfl, e⟩ := e
    simp only [List.map_cons] at l
    cases l with
    | cons a l =>
      by_cases hk : k1 = k
      · refine ⟨fun d' h => ?_, fun h => ?_⟩
        · have : valD ((k1, d) :: kvs) k = some d := by simp [valD, List.find?_cons, hk]
          rw [this] at h; cases h
          exact ⟨v, by simp [valV, List.find?_cons, hk], a⟩
        · have : valD ((k1, d) :: kvs) k = some d := by simp [valD, List.find?_cons, hk]
          rw [this] at h; cases h
      · have e1 : valD ((k1, d) :: kvs) k = valD kvs k := by simp [valD, List.find?_cons, hk]
        have e2 : valV ((k1, v) :: vs) k = valV vs k := by simp [valV, List.find?_cons, hk]
        rw [e1, e2]
        exact valD_rel k e l
theorem anyD_rel {κ : Type} [DecidableEq κ] (k : κ) : ∀ {vs : List (κ × V)} {kvs : List (κ × D)}, vs.map (·.1) = kvs.map (·.1) → (vs.any fun kv => decide (kv.1 = k)) = kvs.any fun kv => decide (kv.1 = k)
  | [], [], _ => rfl
  | [], _ :: _, e => by simp at e
  | _ :: _, [], e => by simp at e
  | (k1, v) :: vs, (k2, d) :: kvs, e => by
    simp only [List.map_cons, List.cons.injEq] at e
    obtain ⟨rfl, e⟩ := e
    simp only [List.any_cons, anyD_rel k e]
theorem mapPut_rel {κ : Type} [DecidableEq κ] (k : κ) {v : V} {d : D} (h : Is K H v d) : ∀ {vs : List (κ × V)} {kvs : List (κ × D)}, vs.map (·.1) = kvs.map (·.1) → IsL K H (vs.map (·.2)) (kvs.map (·.2)) →
    (vs.map fun kv => if kv.1 = k then (kv.1, v) else kv).map (·.1) = (kvs.map fun kv => if kv.1 = k then (kv.1, d) else kv).map (·.1) ∧ IsL K H ((vs.map fun kv => if kv.1 = k then (kv.1, v) else kv).map (·.2)) ((kvs.map fun kv => if kv.1 = k then (kv.1, d) else kv).map (·.2))
  | [], [], _, _ => ⟨rfl, .nil⟩
  | [], _ :: _, e, _ => by simp at e
  | _ :: _, [], e, _ => by simp at e
  | (k1, w) :: vs, (k2, x) :: kvs, e, l => by
    simp only [List.map_cons, List.cons.injEq] at e
    obtain ⟨rfl, e⟩ := e
    simp only [List.map_cons] at l
    cases l with
    | cons a l =>
      obtain ⟨h1, h2⟩ := mapPut_rel k h e l
      by_cases hk : k1 = k
      · simp only [List.map_cons, if_pos hk]
        exact ⟨by rw [h1], .cons h h2⟩
      · simp only [List.map_cons, if_neg hk]
        exact ⟨by rw [h1], .cons a h2⟩
theorem putD_rel {κ : Type} [DecidableEq κ] (k : κ) {v : V} {d : D} {vs : List (κ × V)} {kvs : List (κ × D)} (e : vs.map (·.1) = kvs.map (·.1)) (l : IsL K H (vs.map (·.2)) (kvs.map (·.2))) (h : Is K H v d) :
    (putK vs k v).map (·.1) = (putD kvs k d).map (·.1) ∧ IsL K H ((putK vs k v).map (·.2)) ((putD kvs k d).map (·.2)) := by
  unfold putK putD
  rw [anyD_rel k e]
  split
  · exact mapPut_rel k h e l
  · simp only [List.map_append, List.map_cons, List.map_nil]
    exact ⟨by rw [e], l.append (.cons h .nil)⟩

theorem is_keys : ∀ {vs : List V} {ds : List D} {ks : List Key}, IsL K H vs ds → keysOf ds = some ks → vs = ks.map kV
  | _, [], _, .nil, e => by simp [keysOf] at e; subst e; rfl
  | _, .int i :: r, _, .cons a l, e => by
    simp only [keysOf] at e
    cases q : keysOf r with
    | none => rw [q] at e; cases e
    | some ms => rw [q] at e; cases e; rw [is_int a, is_keys l q]; rfl
  | _, .str i :: r, _, .cons a l, e => by
    simp only [keysOf] at e
    cases q : keysOf r with
    | none => rw [q] at e; cases e
    | some ms => rw [q] at e; cases e; rw [is_str a, is_keys l q]; rfl
  | _, .non :: _, _, _, e | _, .bl _ :: _, _, _, e | _, .ty _ :: _, _, _, e | _, .fn _ :: _, _, _, e | _, .cl _ :: _, _, _, e | _, .xc _ _ :: _, _, _, e | _, .tup _ :: _, _, _, e | _, .lst _ :: _, _, _, e | _, .ktp _ :: _, _, _, e | _, .slst _ :: _, _, _, e | _, .dk _ :: _, _, _, e | _, .dt _ :: _, _, _, e | _, .obj _ _ :: _, _, _, e | _, .nest _ _ :: _, _, _, e | _, .nobj _ _ _ :: _, _, _, e => by simp [keysOf] at e
/-- the value at a key, if any; none: not a key that fits -/
def getK : D → D → Option (Option D)
  | .dk kvs, .int i => some (valD kvs (.inl i))
  | .dk kvs, .str s => some (valD kvs (.inr s))
  | .dt kvs, .tup ds => (keysOf ds).map (valD kvs ·)
  | .nest k kvs, .int i => if k = .inl i then none else some (valD kvs (.inl i))
  | .nest k kvs, .str s => if k = .inr s then none else some (valD kvs (.inr s))
  | _, _ => none
def putKD : D → D → D → Option D
  | .dk kvs, .int i, v => some (.dk (putD kvs (.inl i) v))
  | .dk kvs, .str s, v => some (.dk (putD kvs (.inr s) v))
  | .dt kvs, .tup ds, v => (keysOf ds).map fun k => .dt (putD kvs k v)
  | .nest k kvs, .int i, v => if k = .inl i then none else some (.nest k (putD kvs (.inl i) v))
  | .nest k kvs, .str s, v => if k = .inr s then none else some (.nest k (putD kvs (.inr s) v))
  | _, _, _ => none
def sizeD : D → Nat
  | .nest _ kvs => kvs.length
  | .dk kvs => kvs.length
  | .dt kvs => kvs.length
  | _ => 0
theorem dget_k {a : Addr} {kvs : List (Key × V)} {k : Key} (e : Rd H a (.dK kvs)) : DGet H a (kV k) (valV kvs k) := .inl ⟨kvs, k, e, rfl, rfl⟩
theorem dget_t {a b : Addr} {kvs : List (List Key × V)} {k : List Key} (e : Rd H a (.dT kvs)) (eb : H b = some (.tup (k.map kV))) : DGet H a (.ref b) (valV kvs k) := .inr ⟨kvs, k, b, e, rfl, eb, rfl⟩
/-- a cell or a locked dict, to be read -/
def RCell (K : PySem.W.Frag) (Hb H : Hp) (p : Addr) : D → Prop
  | .dk kvs => ∃ vs : List (Key × V), Rd H p (.dK vs) ∧ vs.map (·.1) = kvs.map (·.1) ∧ IsL K Hb (vs.map (·.2)) (kvs.map (·.2))
  | .dt kvs => ∃ vs : List (List Key × V), Rd H p (.dT vs) ∧ vs.map (·.1) = kvs.map (·.1) ∧ IsL K Hb (vs.map (·.2)) (kvs.map (·.2))
  | .nest k kvs => ∃ vs : List (Key × V), Rd H p (.dK vs) ∧ ∀ kk, kk ≠ k → (∀ x, valD kvs kk = some x → ∃ v, valV vs kk = some v ∧ Is K Hb v x) ∧ (valD kvs kk = none → valV vs kk = none)
  | d => Cell K Hb H p d
theorem ER.val {κ : Type} [DecidableEq κ] {k kk : κ} (n : kk ≠ k) : ∀ {vs : List (κ × V)} {kvs : List (κ × D)}, ER K Hb H p k vs kvs → (∀ x, valD kvs kk = some x → ∃ v, valV vs kk = some v ∧ Is K Hb v x) ∧ (valD kvs kk = none → valV vs kk = none)
  | [], [], _ => ⟨fun d h => by simp [valD] at h, fun _ => rfl⟩
  | v :: vs, d :: ds, h => by
    obtain ⟨h1, h2, h3⟩ := h
    by_cases z : d.1 = kk
    · rw [if_neg (by rw [z]; exact n)] at h2
      have e1 : valD (d :: ds) kk = some d.2 := by simp [valD, List.find?_cons, z]
      have e2 : valV (v :: vs) kk = some v.2 := by simp [valV, List.find?_cons, h1, z]
      rw [e1, e2]
      exact ⟨fun x e => by cases e; exact ⟨_, rfl, h2⟩, fun e => by cases e⟩
    · have e1 : valD (d :: ds) kk = valD ds kk := by simp [valD, List.find?_cons, z]
      have e2 : valV (v :: vs) kk = valV vs kk := by simp [valV, List.find?_cons, h1, z]
      rw [e1, e2]
      exact ER.val n h3
theorem ER.any {κ : Type} [DecidableEq κ] {k : κ} (kk : κ) {vs : List (κ × V)} {kvs : List (κ × D)} (h : ER K Hb H p k vs kvs) : (vs.any fun kv => decide (kv.1 = kk)) = kvs.any fun kv => decide (kv.1 = kk) := anyD_rel kk h.keys
theorem ER.map {κ : Type} [DecidableEq κ] {k kk : κ} (n : kk ≠ k) {w : V} {x : D} (i : Is K Hb w x) : ∀ {vs : List (κ × V)} {kvs : List (κ × D)}, ER K Hb H p k vs kvs →
    ER K Hb H p k (vs.map fun kv => if kv.1 = kk then (kv.1, w) else kv) (kvs.map fun kv => if kv.1 = kk then (kv.1, x) else kv)
  | [], [], _ => trivial
  | v :: vs, d :: ds, h => by
    obtain ⟨h1, h2, h3⟩ := h
    have ek : (ds.map fun kv => if kv.1 = kk then (kv.1, x) else kv).map (·.1) = ds.map (·.1) := by
      rw [List.map_map]
      refine List.map_congr_left fun a _ => ?_
      show (if a.1 = kk then (a.1, x) else a).1 = a.1
      split <;> rfl
    rw [List.map_cons, List.map_cons]
    by_cases z : d.1 = kk
    · rw [if_pos z, if_pos (h1.trans z)]
      exact ⟨h1, by rw [if_neg (by show d.1 ≠ k; rw [z]; exact n)]; exact i, ER.map n i h3⟩
    · rw [if_neg z, if_neg (by rw [h1]; exact z)]
      exact ⟨h1, by rw [ek]; exact h2, ER.map n i h3⟩
theorem ER.snoc {κ : Type} [DecidableEq κ] {k kk : κ} (n : kk ≠ k) {w : V} {x : D} (i : Is K Hb w x) : ∀ {vs : List (κ × V)} {kvs : List (κ × D)}, ER K Hb H p k vs kvs → ER K Hb H p k (vs ++ [(kk, w)]) (kvs ++ [(kk, x)])
  | [], [], _ => ⟨rfl, by rw [if_neg n]; exact i, trivial⟩
  | v :: vs, d :: ds, h => by
    obtain ⟨h1, h2, h3⟩ := h
    refine ⟨h1, ?_, ER.snoc n i h3⟩
    by_cases z : d.1 = k
    · rw [if_pos z] at h2 ⊢
      refine ⟨h2.1, fun m => ?_⟩
      have m : k ∈ (ds ++ [(kk, x)]).map (·.1) := m
      rw [List.map_append, List.mem_append] at m
      rcases m with m | m
      · exact h2.2 m
      · exact n (by simpa using m : k = kk).symm
    · rw [if_neg z] at h2 ⊢; exact h2
theorem ER.put {κ : Type} [DecidableEq κ] {k kk : κ} (n : kk ≠ k) {w : V} {x : D} (i : Is K Hb w x) {vs : List (κ × V)} {kvs : List (κ × D)} (h : ER K Hb H p k vs kvs) : ER K Hb H p k (putK vs kk w) (putD kvs kk x) := by
  unfold putK putD
  rw [h.any kk]
  split
  · exact h.map n i
  · exact h.snoc n i
theorem ER.heap {κ : Type} [DecidableEq κ] {k : κ} {H' : Hp} {vs : List (κ × V)} {kvs : List (κ × D)} (h : ER K Hb H p k vs kvs) (e : ∀ a, a ≠ p → H' a = H a) : ER K Hb H' p k vs kvs :=
  h.mono (Sub.refl _) fun q o z ho => by rw [e q (h.part z).1]; exact ho
theorem Cell.r {p : Addr} : ∀ {d : D}, Cell K Hb H p d → RCell K Hb H p d
  | .dk _, ⟨_, h, k, l⟩ => ⟨_, .inl h, k, l⟩
  | .dt _, ⟨_, h, k, l⟩ => ⟨_, .inl h, k, l⟩
  | .lst _, c => c
  | .obj _ _, c => c
  | .nest _ _, ⟨vs, h, r⟩ => ⟨vs, .inl h, fun kk n => r.val n⟩
  | .nobj _ _ _, c => c
theorem cell_of_is {p : Addr} : ∀ {d : D}, Is K Hb (.ref p) d → Sub Hb H → (match d with | .dk _ => True | .dt _ => True | .lst _ => True | .obj _ _ => True | .nest _ _ => True | _ => False) → RCell K Hb H p d
  | .dk _, .dk h k l, s, _ => ⟨_, s.rd h, k, l⟩
  | .dt _, .dt h k l, s, _ => ⟨_, s.rd h, k, l⟩
  | .lst _, .lst h l, s, _ => ⟨_, s.at h, l⟩
  | .obj _ _, .obj c h k l, s, _ => ⟨_, _, _, c, s.at h, k, l⟩
  | .nest _ _, .nest h k l, s, _ => ⟨_, s.rd h, fun kk _ => valD_rel kk k l⟩
theorem cell_get {p : Addr} {d kd : D} {y : V} {r : Option D} (c : RCell K Hb H p d) (hy : Is K Hb y kd) (s : Sub Hb H) (g : getK d kd = some r) :
    ∃ o, DGet H p y o ∧ (r = none → o = none) ∧ ∀ x, r = some x → ∃ v, o = some v ∧ Is K Hb v x := by
  cases d <;> cases kd <;> simp only [getK] at g <;> first | cases g | skip
  · obtain ⟨vs, h, e, l⟩ := c
    obtain rfl := is_int hy
    obtain ⟨h1, h2⟩ := valD_rel (Sum.inl _) e l
    exact ⟨_, dget_k (k := Sum.inl _) h, h2, h1⟩
  · obtain ⟨vs, h, e, l⟩ := c
    obtain rfl := is_str hy
    obtain ⟨h1, h2⟩ := valD_rel (Sum.inr _) e l
    exact ⟨_, dget_k (k := Sum.inr _) h, h2, h1⟩
  · obtain ⟨vs, h, e, l⟩ := c
    rename_i ds
    cases q : keysOf ds with
    | none => rw [q] at g; cases g
    | some ks =>
      rw [q] at g; cases g
      cases hy with
      | tup ht lt =>
        obtain rfl := is_keys lt q
        obtain ⟨h1, h2⟩ := valD_rel ks e l
        exact ⟨_, dget_t h (s.at ht), h2, h1⟩
  · obtain ⟨vs, h, r⟩ := c
    obtain rfl := is_int hy
    split at g
    · cases g
    · rename_i n
      cases g
      obtain ⟨h1, h2⟩ := r (Sum.inl _) (Ne.symm n)
      exact ⟨_, dget_k (k := Sum.inl _) h, h2, h1⟩
  · obtain ⟨vs, h, r⟩ := c
    obtain rfl := is_str hy
    split at g
    · cases g
    · rename_i n
      cases g
      obtain ⟨h1, h2⟩ := r (Sum.inr _) (Ne.symm n)
      exact ⟨_, dget_k (k := Sum.inr _) h, h2, h1⟩
theorem partAt_map {κ : Type} [DecidableEq κ] {k kk : κ} (n : kk ≠ k) {w : V} : ∀ {vs : List (κ × V)}, partAt k (vs.map fun kv => if kv.1 = kk then (kv.1, w) else kv) = partAt k vs
  | [] => rfl
  | v :: vs => by
    rw [List.map_cons]
    unfold partAt
    by_cases z : v.1 = kk
    · rw [if_pos z, if_neg (by show v.1 ≠ k; rw [z]; exact n), if_neg (by rw [z]; exact n), partAt_map n]
    · rw [if_neg z, partAt_map n]
theorem partAt_snoc {κ : Type} [DecidableEq κ] {k kk : κ} (n : kk ≠ k) {w : V} : ∀ {vs : List (κ × V)}, partAt k (vs ++ [(kk, w)]) = partAt k vs
  | [] => by show (if kk = k then _ else _) = _; rw [if_neg n]; try rfl
  | v :: vs => by
    rw [List.cons_append]
    unfold partAt
    rw [partAt_snoc n]
theorem partAt_put {κ : Type} [DecidableEq κ] {k kk : κ} (n : kk ≠ k) {w : V} {vs : List (κ × V)} : partAt k (putK vs kk w) = partAt k vs := by
  unfold putK
  split
  · exact partAt_map n
  · exact partAt_snoc n
theorem cell_put {p : Addr} {d kd x d' : D} {y v : V} (c : Cell K Hb H p d) (hy : Is K Hb y kd) (hv : Is K Hb v x) (s : Sub Hb H) (hz : sizeD d < 1000000) (g : putKD d kd x = some d') :
    ∃ o, DPut H p y v (upd H p o) ∧ Cell K Hb (upd H p o) p d' ∧ ∀ a, partOf (some o) d' = some a → foot H p d a := by
  cases d <;> cases kd <;> simp only [putKD] at g <;> first | cases g | skip
  · obtain ⟨vs, h, e, l⟩ := c
    obtain rfl := is_int hy
    obtain ⟨h1, h2⟩ := putD_rel (Sum.inl _) e l hv
    have hl : vs.length < sizeLine := by
      have := congrArg List.length e
      simp only [List.length_map] at this
      rw [this]; exact Nat.lt_of_lt_of_le hz (by decide)
    exact ⟨_, DPut.k (k := Sum.inl _) h hl, ⟨_, upd_same, h1, h2⟩, fun a z => by cases z⟩
  · obtain ⟨vs, h, e, l⟩ := c
    obtain rfl := is_str hy
    obtain ⟨h1, h2⟩ := putD_rel (Sum.inr _) e l hv
    have hl : vs.length < sizeLine := by
      have := congrArg List.length e
      simp only [List.length_map] at this
      rw [this]; exact Nat.lt_of_lt_of_le hz (by decide)
    exact ⟨_, DPut.k (k := Sum.inr _) h hl, ⟨_, upd_same, h1, h2⟩, fun a z => by cases z⟩
  · obtain ⟨vs, h, e, l⟩ := c
    rename_i ds
    cases q : keysOf ds with
    | none => rw [q] at g; cases g
    | some ks =>
      rw [q] at g; cases g
      cases hy with
      | tup ht lt =>
        obtain rfl := is_keys lt q
        obtain ⟨h1, h2⟩ := putD_rel ks e l hv
        have hl : vs.length < sizeLine := by
          have := congrArg List.length e
          simp only [List.length_map] at this
          rw [this]; exact Nat.lt_of_lt_of_le hz (by decide)
        exact ⟨_, DPut.t h (s.at ht) hl, ⟨_, upd_same, h1, h2⟩, fun a z => by cases z⟩
  · obtain ⟨vs, h, r⟩ := c
    obtain rfl := is_int hy
    split at g
    · cases g
    · rename_i n
      cases g
      have hl : vs.length < sizeLine := by
        have := congrArg List.length r.keys
        simp only [List.length_map] at this
        rw [this]; exact Nat.lt_of_lt_of_le hz (by decide)
      exact ⟨_, DPut.k (k := Sum.inl _) h hl, ⟨_, upd_same, (r.put (Ne.symm n) hv).heap fun a ne => upd_ne ne⟩, fun a z => .inr (by rw [h]; exact ((partAt_put (Ne.symm n)).symm.trans z : partAt _ vs = some a))⟩
  · obtain ⟨vs, h, r⟩ := c
    obtain rfl := is_str hy
    split at g
    · cases g
    · rename_i n
      cases g
      have hl : vs.length < sizeLine := by
        have := congrArg List.length r.keys
        simp only [List.length_map] at this
        rw [this]; exact Nat.lt_of_lt_of_le hz (by decide)
      exact ⟨_, DPut.k (k := Sum.inr _) h hl, ⟨_, upd_same, (r.put (Ne.symm n) hv).heap fun a ne => upd_ne ne⟩, fun a z => .inr (by rw [h]; exact ((partAt_put (Ne.symm n)).symm.trans z : partAt _ vs = some a))⟩
end
end DL

/-! DL2b: operators and built-ins over data, one rule for all kinds of values. -/
namespace DL
open PySem L2
open PyProof.Rows hiding St

/-- one factor small, or both together below a million bits -/
def CMulO (i j : Int) : Prop := (-(2 ^ 64) < i ∧ i < 2 ^ 64) ∨ (-(2 ^ 64) < j ∧ j < 2 ^ 64) ∨ i.natAbs.log2 + j.natAbs.log2 < 1000000
def CFdiv (_ j : Int) : Prop := j ≠ 0 ∧ j.natAbs.log2 < 9000
def gAdd : G2
  | .int i, .int j, k => k (.int (i + j))
  | .lst a, .lst b, k => a.length + b.length ≤ 1000000 ∧ k (.lst (a ++ b))
  | .tup a, .tup b, k => a.length + b.length ≤ 1000000 ∧ k (.tup (a ++ b))
  | .str a, .str b, k => a.length + b.length ≤ 1000000 ∧ k (.str (a ++ b))
  | _, _, _ => False
def gSub : G2
  | .int i, .int j, k => k (.int (i - j))
  | _, _, _ => False
def gMul : G2
  | .int i, .int j, k => CMulO i j ∧ k (.int (i * j))
  | .tup a, .int j, k => (a ≠ [] ∧ a.length ≤ 1000 ∧ 1 ≤ j ∧ j ≤ 1000) ∧ k (.tup (List.replicate j.toNat a).flatten)
  | _, _, _ => False
/-- // and % by any divisor but 0; by a positive one as / and % -/
def gFdiv : G2
  | .int i, .int j, k => (j ≠ 0 ∧ j.natAbs.log2 < 9000) ∧ k (.int (i.fdiv j))
  | _, _, _ => False
def gFmod : G2
  | .int i, .int j, k => j ≠ 0 ∧ k (.int (i.fmod j))
  | _, _, _ => False
def gPow : G2
  | .int i, .int j, k => (0 ≤ j ∧ j ≤ 1000000 ∧ i.natAbs < 2 ^ 64) ∧ k (.int (i ^ j.toNat))
  | _, _, _ => False
def gNeg : G1
  | .int i, k => k (.int (-i))
  | _, _ => False
/-- tuples of ints in Python's order -/
def gLt : G2 := fun x y k => match x, y with
  | .int i, .int j => k (.bl (decide (i < j)))
  | _, _ => ∃ a b ns ms, tupD x = some a ∧ tupD y = some b ∧ dInts a = some ns ∧ dInts b = some ms ∧ k (.bl (HT.lexLt ns ms))
def gLe : G2 := fun x y k => match x, y with
  | .int i, .int j => k (.bl (decide (i ≤ j)))
  | _, _ => ∃ a b ns ms, tupD x = some a ∧ tupD y = some b ∧ dInts a = some ns ∧ dInts b = some ms ∧ k (.bl (Ob.lexAt (fun j => decide (ns.getD j 0 = ms.getD j 0)) (fun j => decide (ns.getD j 0 ≤ ms.getD j 0)) (decide (ns.length ≤ ms.length)) 0 (min ns.length ms.length)))
def gGt : G2
  | .int i, .int j, k => k (.bl (decide (j < i)))
  | _, _, _ => False
def gGe : G2
  | .int i, .int j, k => k (.bl (decide (j ≤ i)))
  | _, _, _ => False
/-- == of plain data -/
def gEq : G2 := fun x y k => ∃ a b, pd x = some a ∧ pd y = some b ∧ SeqAt.shaped a = true ∧ SeqAt.shaped b = true ∧ k (.bl (PyData.eqv a b))
def gNe : G2 := fun x y k => ∃ a b, pd x = some a ∧ pd y = some b ∧ SeqAt.shaped a = true ∧ SeqAt.shaped b = true ∧ k (.bl (!PyData.eqv a b))
@[simp] def isN : D → Bool
  | .non => true
  | _ => false
def gIs : G2
  | x, .non, k => k (.bl (isN x))
  | .bl a, .bl b, k => k (.bl (decide (a = b)))
  | _, _, _ => False
def gIsNot : G2
  | x, .non, k => k (.bl (!isN x))
  | .bl a, .bl b, k => k (.bl (!decide (a = b)))
  | _, _, _ => False
/-- an item, a value at a key, a sign -/
def gIx : G2 := fun x y k => match x, y with
  | .tup ds, .int i => ∃ d, atI ds i = some d ∧ k d
  | .lst ds, .int i => ∃ d, atI ds i = some d ∧ k d
  | .ktp ds, .int i => ∃ d, atI ds i = some d ∧ k d
  | .slst ds, .int i => ∃ d, atI ds i = some d ∧ k d
  | .str z, .int i => z.length ≤ 1000000 ∧ ∃ c, atI z.cps.toList i = some c ∧ k (.str ⟨#[c]⟩)
  | _, _ => ∃ d, getK x y = some (some d) ∧ k d
/-- in: a key of a dict, an item of a list, a flat item of a tuple, a part of a text -/
def flatD : D → Option PyData
  | .non => some .none
  | .bl b => some (.bool b)
  | .int i => some (.int i)
  | .str s => some (.str s)
  | _ => none
def inB (x c : D) (k : Bool → Prop) : Prop := match c with
  | .lst ds => ∃ a xs, pd x = some a ∧ pdL ds = some xs ∧ SeqAt.shaped a = true ∧ SeqAt.shaped (.list xs) = true ∧ k (xs.any fun z => PyData.eqv z a)
  | .str z => ∃ y, x = .str y ∧ k (!(Builtin.Str.occurrences z y 0 z.length 1).isEmpty)
  | _ => ∃ r, getK c x = some r ∧ k r.isSome
def gIn : G2 := fun x c k => inB x c fun b => k (.bl b)
def gNotIn : G2 := fun x c k => inB x c fun b => k (.bl (!b))
def gLen : GN
  | [.tup ds], k => k (.int ds.length)
  | [.lst ds], k => k (.int ds.length)
  | [.ktp ds], k => k (.int ds.length)
  | [.slst ds], k => k (.int ds.length)
  | [.dk ds], k => k (.int ds.length)
  | [.dt ds], k => k (.int ds.length)
  | [.str z], k => z.length ≤ 1000000 ∧ k (.int z.length)
  | _, _ => False
def gAbs : GN
  | [.int i], k => k (.int (if i < 0 then -i else i))
  | _, _ => False
def gInt : GN
  | [.int i], k => k (.int i)
  | [.bl b], k => k (.int (if b then 1 else 0))
  | _, _ => False
def gMax2 : GN
  | [.int i, .int j], k => k (.int (if j > i then j else i))
  | _, _ => False
def gMin2 : GN
  | [.int i, .int j], k => k (.int (if j < i then j else i))
  | _, _ => False
def gTuple : GN := fun xs k => match xs with
  | [.tup ds] => k (.tup ds)
  | [.lst ds] => k (.tup ds)
  | [.ktp ds] => k (.ktp ds)
  | [.slst ds] => k (.tup ds)
  | _ => False
def gList : GN := fun xs k => ∃ d es, xs = [d] ∧ (tupD d = some es ∨ lstD d = some es) ∧ k (.lst es)
def gSum : GN := fun xs k => ∃ d es ns, xs = [d] ∧ lstD d = some es ∧ dInts es = some ns ∧ k (.int ns.sum)
def gAll : GN := fun xs k => ∃ d es bs, xs = [d] ∧ lstD d = some es ∧ dBools es = some bs ∧ k (.bl (bs.all id))
def gAny : GN := fun xs k => ∃ d es bs, xs = [d] ∧ lstD d = some es ∧ dBools es = some bs ∧ k (.bl (bs.any id))

section
variable {X : Cx} {K : PySem.W.Frag} {Hb H : Hp}
abbrev rAddU (K : PySem.W.Frag) : R2 := fun x y H Q => (rI0 fun i j => .int (i + j)) x y H Q ∨ (rCat x y H Q ∨ (rCatA K x y H Q ∨ ∃ i j, x = .str i ∧ y = .str j ∧ i.length + j.length ≤ sizeLine ∧ Q (.str (i ++ j)) H))
theorem op_addU : OpR X (binaryOp .Add) (rAddU X.K) := op_add.or (op_cat.or (op_catA.or op_add_str))
theorem rv_add : RV2 K (rAddU K) gAdd := fun Hb H x y dx dy k Q s ix iy g q => by
  cases dx <;> cases dy <;> first | exact g.elim | skip
  · exact .inl ⟨_, _, o_int ix, o_int iy, q _ _ _ _ g .refl (.int _)⟩
  · exact .inr (.inr (.inr ⟨_, _, o_str ix, o_str iy, Nat.le_trans g.1 (by decide), q _ _ _ _ g.2 .refl (.str _)⟩))
  · obtain ⟨i1, a, vs, e1, h1, l1⟩ := o_tupD s ix rfl
    obtain ⟨i2, b, ws, e2, h2, l2⟩ := o_tupD s iy rfl
    refine .inr (.inr (.inl ⟨a, b, vs, ws, e1, e2, h1, h2, by rw [l1.length, l2.length]; exact Nat.le_trans g.1 (by decide), fun e => ?_, fun _ e => ?_, fun _ _ p hp => ?_⟩))
    · subst e
      have z := l1.length
      have z := List.eq_nil_of_length_eq_zero (by rw [← z]; rfl)
      subst z
      rw [← e2]
      exact q _ _ _ _ g.2 .refl i2
    · subst e
      have z := l2.length
      have z := List.eq_nil_of_length_eq_zero (by rw [← z]; rfl)
      subst z
      rw [← e1]
      have g2 := g.2
      rw [List.append_nil] at g2
      exact q _ _ _ _ g2 .refl i1
    · exact q _ _ _ _ g.2 (.one hp) (.tup upd_same ((l1.append l2).mono (Sub.new (s.none hp))))
  · obtain ⟨a, vs, e1, h1, l1⟩ := o_lst s ix
    obtain ⟨b, ws, e2, h2, l2⟩ := o_lst s iy
    exact .inr (.inl ⟨a, b, vs, ws, e1, e2, h1, h2, by rw [l1.length, l2.length]; exact Nat.le_trans g.1 (by decide), fun p hp => q _ _ _ _ g.2 (.one hp) (.lst upd_same ((l1.append l2).mono (Sub.new (s.none hp))))⟩)
theorem rv_sub : RV2 K (rI0 fun i j => .int (i - j)) gSub := fun Hb H x y dx dy k Q s ix iy g q => by
  cases dx <;> cases dy <;> first | exact g.elim | skip
  exact ⟨_, _, o_int ix, o_int iy, q _ _ _ _ g .refl (.int _)⟩
theorem op_mulO : OpR X (binaryOp .Mult) (rI CMulO fun i j => .int (i * j)) := opI fun _ _ _ _ _ _ _ hc q => mul_int q (by
  rcases hc with h | h | h
  · exact CMul.ok (.inl h)
  · exact CMul.ok (.inr h)
  · exact CMulW.ok h)
/-- t * 1 is t -/
theorem tuple_mul1 (l : Addr) (items : Array Value) (n : Nat) (dd : Option Addr) (sl : Array (Option Value)) (u : Tok) :
    Meets (Builtin.«tuple.__mul__» ⟨[.ref l, .int 1 u], []⟩) (fun _ R s => s.heap.get? l = some { cls := .type "tuple", dict := dd, data := .seq items n, slots := sl } ∧ R (.ok (.ret (Value.ref l))) s) :=
  .of_wp fun prog w A R s h => by
    obtain ⟨hp, g, d, tk, os⟩ := s
    obtain ⟨hl, h⟩ := h
    have f1 := AutoSeq1.idx_int
    wp_walk using wpAny_loadPart' hl
    repeat (first
      | (refine wpAny_ite_true (by simp) ?_; wp_walk using wpAny_loadPart' hl)
      | (refine wpAny_ite_false (by simp) ?_; wp_walk using wpAny_loadPart' hl))
    exact ⟨_, rfl, h⟩
def rRep1 (K : PySem.W.Frag) : R2 := fun x y H Q => ∃ l xs, x = .ref l ∧ y = .int 1 ∧ SqT K H l xs ∧ Q (.ref l) H
theorem op_rep1 : OpR X (binaryOp .Mult) (rRep1 X.K) := by
  intro pins s σ H x y v u Q I rx ry h
  obtain ⟨l, xs, rfl, rfl, hT, q⟩ := h
  cases rx
  obtain ⟨t, rfl⟩ := ry
  obtain ⟨its, r, ⟨⟨cls, dd, data, sl⟩, ho, hc, n, hd⟩, hs⟩ := I.tuple hT
  simp only at hc hd
  subst hc hd
  exact wpAny_binaryOp_repeat_ref (T := "tuple") (U := "int") (by decide) ⟨_, ho, rfl⟩ (fun s' => typeIs_int s' 1 t) noFill_tuple_mul F.fills_int_mul F.slot_int_rmul repeat_tuple F.slot_int_index.lookup
    (call_meets F.slot_int_rmul (typeIs_int s 1 t) F.entry_int_rmul (F.args_int_rmul_2 _ _) (int_rmul_tuple 1 t l its.toArray n dd sl)
      ⟨ho, rfl, ⟨_, ho, rfl⟩, call_meets F.slot_tuple_mul ⟨_, ho, rfl⟩ F.entry_tuple_mul (F.args_tuple_mul_2 _ _) (tuple_mul1 l its.toArray n dd sl t) ⟨ho, ⟨.ref l, H, I, rfl, q⟩⟩⟩)
abbrev rMulU (K : PySem.W.Frag) : R2 := fun x y H Q => (rI CMulO fun i j => .int (i * j)) x y H Q ∨ (rRep1 K x y H Q ∨ rRepT K x y H Q)
theorem op_mulU : OpR X (binaryOp .Mult) (rMulU X.K) := op_mulO.or (op_rep1.or op_repT)
theorem isL_rep : ∀ (n : Nat) {vs : List V} {ds : List D}, IsL K H vs ds → IsL K H (List.replicate n vs).flatten (List.replicate n ds).flatten
  | 0, _, _, _ => .nil
  | n + 1, _, _, l => by
    rw [List.replicate_succ, List.replicate_succ, List.flatten_cons, List.flatten_cons]
    exact l.append (isL_rep n l)
theorem rv_mul : RV2 K (rMulU K) gMul := fun Hb H x y dx dy k Q s ix iy g q => by
  cases dx <;> cases dy <;> first | exact g.elim | skip
  · exact .inl ⟨_, _, o_int ix, o_int iy, g.1, q _ _ _ _ g.2 .refl (.int _)⟩
  · obtain ⟨i1, a, vs, e1, h1, l1⟩ := o_tupD s ix rfl
    rename_i ds j
    obtain ⟨⟨g1, g2, g3, g4⟩, g5⟩ := g
    obtain rfl := o_int iy
    by_cases hj : j = 1
    · subst hj
      refine .inr (.inl ⟨a, vs, e1, rfl, h1, ?_⟩)
      rw [← e1]
      have e : (List.replicate (1 : Int).toNat ds).flatten = ds := by
        show (List.replicate 1 ds).flatten = ds
        simp
      rw [e] at g5
      exact q _ _ _ _ g5 .refl i1
    · have hne : vs ≠ [] := fun z => g1 (List.eq_nil_of_length_eq_zero (by rw [← l1.length, z]; rfl))
      exact .inr (.inr ⟨a, j, vs, e1, rfl, h1, hne, by omega, g4, by rw [l1.length]; exact g2, fun p hp => q _ _ _ _ g5 (.one hp) (.tup upd_same ((isL_rep _ l1).mono (Sub.new (s.none hp))))⟩)
theorem op_fdivG : OpR X (binaryOp .FloorDiv) (rI CFdiv fun i j => .int (i.fdiv j)) := opI fun i j _ _ _ _ _ hc q =>
  floordiv_int hc.1 q (.inl (PyProof.noPylong_of_log2 hc.2))
theorem rv_fdiv : RV2 K (rI CFdiv fun i j => .int (i.fdiv j)) gFdiv := fun Hb H x y dx dy k Q s ix iy g q => by
  cases dx <;> cases dy <;> first | exact g.elim | skip
  exact ⟨_, _, o_int ix, o_int iy, g.1, q _ _ _ _ g.2 .refl (.int _)⟩
theorem rv_fmod : RV2 K (rI (fun _ j => j ≠ 0) fun i j => .int (i.fmod j)) gFmod := fun Hb H x y dx dy k Q s ix iy g q => by
  cases dx <;> cases dy <;> first | exact g.elim | skip
  exact ⟨_, _, o_int ix, o_int iy, g.1, q _ _ _ _ g.2 .refl (.int _)⟩
theorem rv_pow : RV2 K (rI CPow fun i j => .int (i ^ j.toNat)) gPow := fun Hb H x y dx dy k Q s ix iy g q => by
  cases dx <;> cases dy <;> first | exact g.elim | skip
  exact ⟨_, _, o_int ix, o_int iy, g.1, q _ _ _ _ g.2 .refl (.int _)⟩
theorem rv_neg : RV1 K (rU fun i => .int (-i)) gNeg := fun Hb H x dx k Q s ix g q => by
  cases dx <;> first | exact g.elim | skip
  exact ⟨_, o_int ix, q _ _ _ _ g .refl (.int _)⟩
abbrev rLtU (K : PySem.W.Frag) : R2 := fun x y H Q => (rI0 fun i j => .bl (decide (i < j))) x y H Q ∨ rLtT K x y H Q
theorem op_ltU (hu : X.A.units < cLine) : OpR X (compareOp .Lt) (rLtU X.K) := op_lt.or (op_ltT hu)
theorem tups_ints (s : Sub Hb H) {v : V} {d : D} {a : List D} {ns : List Int} (h : IsO K Hb H v d) (e : tupD d = some a) (n : dInts a = some ns) : ∃ p, v = .ref p ∧ SqT K H p (ns.map V.int) := by
  obtain ⟨_, p, vs, e1, h1, l1⟩ := o_tupD s h e
  rw [is_ints l1 n] at h1
  exact ⟨p, e1, h1⟩
theorem rv_lt : RV2 K (rLtU K) gLt := fun Hb H x y dx dy k Q s ix iy g q => by
  have T : (∃ a b ns ms, tupD dx = some a ∧ tupD dy = some b ∧ dInts a = some ns ∧ dInts b = some ms ∧ k (.bl (HT.lexLt ns ms))) → rLtU K x y H Q := fun ⟨a, b, ns, ms, e1, e2, e3, e4, g⟩ => by
    obtain ⟨p, h1, h2⟩ := tups_ints s ix e1 e3
    obtain ⟨p', h3, h4⟩ := tups_ints s iy e2 e4
    exact .inr ⟨p, p', ns, ms, h1, h3, h2, h4, q _ _ _ _ g .refl (.bl _)⟩
  unfold gLt at g
  split at g
  · exact .inl ⟨_, _, o_int ix, o_int iy, q _ _ _ _ g .refl (.bl _)⟩
  · exact T g
abbrev rLeU (K : PySem.W.Frag) : R2 := fun x y H Q => (rI0 fun i j => .bl (decide (i ≤ j))) x y H Q ∨ rLeT K x y H Q
theorem op_leU (hu : X.A.units < cLine) : OpR X (compareOp .LtE) (rLeU X.K) := op_le.or (op_leT hu)
theorem rv_le : RV2 K (rLeU K) gLe := fun Hb H x y dx dy k Q s ix iy g q => by
  unfold gLe at g
  split at g
  · exact .inl ⟨_, _, o_int ix, o_int iy, q _ _ _ _ g .refl (.bl _)⟩
  · obtain ⟨a, b, ns, ms, e1, e2, e3, e4, g⟩ := g
    obtain ⟨p, h1, h2⟩ := tups_ints s ix e1 e3
    obtain ⟨p', h3, h4⟩ := tups_ints s iy e2 e4
    exact .inr ⟨p, p', ns, ms, h1, h3, h2, h4, q _ _ _ _ g .refl (.bl _)⟩
theorem rv_gt : RV2 K (rI0 fun i j => .bl (decide (j < i))) gGt := fun Hb H x y dx dy k Q s ix iy g q => by
  cases dx <;> cases dy <;> first | exact g.elim | skip
  exact ⟨_, _, o_int ix, o_int iy, q _ _ _ _ g .refl (.bl _)⟩
theorem rv_ge : RV2 K (rI0 fun i j => .bl (decide (j ≤ i))) gGe := fun Hb H x y dx dy k Q s ix iy g q => by
  cases dx <;> cases dy <;> first | exact g.elim | skip
  exact ⟨_, _, o_int ix, o_int iy, q _ _ _ _ g .refl (.bl _)⟩
theorem rv_eq : RV2 K (rEqD K) gEq := fun Hb H x y dx dy k Q s ix iy g q => by
  obtain ⟨a, b, ha, hb, sa, sb, g⟩ := g
  exact ⟨a, b, (ix.is s).dp ha, (iy.is s).dp hb, sa, sb, q _ _ _ _ g .refl (.bl _)⟩
theorem rv_ne : RV2 K (rNeD K) gNe := fun Hb H x y dx dy k Q s ix iy g q => by
  obtain ⟨a, b, ha, hb, sa, sb, g⟩ := g
  exact ⟨a, b, (ix.is s).dp ha, (iy.is s).dp hb, sa, sb, q _ _ _ _ g .refl (.bl _)⟩
theorem isN_iff {v : V} {d : D} (h : Is K H v d) : decide (v = .non) = isN d := by
  cases h <;> first | rfl | exact decide_eq_false (fun q => by cases q)
abbrev rIsU : R2 := fun x y H Q => (y = .non ∧ Q (.bl (decide (x = .non))) H) ∨ (∃ a b, x = .bl a ∧ y = .bl b ∧ Q (.bl (decide (a = b))) H)
abbrev rIsNotU : R2 := fun x y H Q => (y = .non ∧ Q (.bl (!decide (x = .non))) H) ∨ (∃ a b, x = .bl a ∧ y = .bl b ∧ Q (.bl (!decide (a = b))) H)
theorem op_isU : OpR X (compareOp .Is) rIsU := op_isN.or op_is_bl
theorem op_isNotU : OpR X (compareOp .IsNot) rIsNotU := op_notN.or op_isnot_bl
theorem rv_is : RV2 K rIsU gIs := fun Hb H x y dx dy k Q s ix iy g q => by
  unfold gIs at g
  split at g
  · exact .inl ⟨o_non iy, by rw [isN_iff (ix.is s)]; exact q _ _ _ _ g .refl (.bl _)⟩
  · exact .inr ⟨_, _, o_bl ix, o_bl iy, q _ _ _ _ g .refl (.bl _)⟩
  · exact g.elim
theorem rv_isNot : RV2 K rIsNotU gIsNot := fun Hb H x y dx dy k Q s ix iy g q => by
  unfold gIsNot at g
  split at g
  · exact .inl ⟨o_non iy, by rw [isN_iff (ix.is s)]; exact q _ _ _ _ g .refl (.bl _)⟩
  · exact .inr ⟨_, _, o_bl ix, o_bl iy, q _ _ _ _ g .refl (.bl _)⟩
  · exact g.elim
theorem atI_is {vs : List V} {ds : List D} {i : Int} {d : D} (l : IsL K H vs ds) (h : atI ds i = some d) : ∃ v, atI vs i = some v ∧ Is K H v d := by
  unfold atI at h ⊢
  rw [l.length]
  cases e : ixN ds.length i with
  | none => rw [e] at h; cases h
  | some j =>
    rw [e] at h
    obtain ⟨v, h1, h2⟩ := l.get (show ds[j]? = some d from h)
    exact ⟨v, h1, h2⟩
/-- what may be looked up -/
def isDict : D → Prop
  | .dk _ => True
  | .dt _ => True
  | .nest _ _ => True
  | _ => False
theorem isDict_ref {v : V} {d : D} (h : isDict d) (i : Is K H v d) : ∃ p, v = .ref p := by
  cases d <;> first | exact h.elim | skip
  · cases i; exact ⟨_, rfl⟩
  · cases i; exact ⟨_, rfl⟩
  · cases i; exact ⟨_, rfl⟩
theorem isDict_cell {p : Addr} {d : D} (h : isDict d) (i : Is K Hb (.ref p) d) (s : Sub Hb H) : RCell K Hb H p d := by
  refine cell_of_is i s ?_
  cases d <;> first | exact h.elim | exact trivial
theorem getK_dict {d k : D} {r : Option D} (h : getK d k = some r) : isDict d := by
  cases d <;> cases k <;> simp only [getK] at h <;> first | exact trivial | cases h
/-- a dict, frozen or a slot's own -/
theorem o_dict (s : Sub Hb H) {v : V} {d : D} (h : IsO K Hb H v d) (hd : isDict d) : ∃ p, v = .ref p ∧ RCell K Hb H p d := by
  rcases h with h | ⟨p, rfl, c⟩
  · obtain ⟨p, rfl⟩ := isDict_ref hd h
    exact ⟨p, rfl, isDict_cell hd h s⟩
  · exact ⟨p, rfl, c.r⟩
theorem o_key (s : Sub Hb H) {v : V} {d c : D} {r : Option D} (h : IsO K Hb H v d) (g : getK c d = some r) : Is K Hb v d := by
  rcases h with h | ⟨p, rfl, cl⟩
  · exact h
  · cases c <;> cases d <;> simp only [getK] at g <;> first | exact cl.elim | (cases g; done)
def rIxDc : R2 := fun x y H Q => ∃ a v, x = .ref a ∧ DGet H a y (some v) ∧ Q v H
theorem ix_dict (hu : X.A.units + 1 < cLine) : IxR X rIxDc := by
  intro value slice pins s σ H x y v u Q I rx ry h hs
  obtain ⟨a, z, rfl, g, q⟩ := h
  obtain rfl : v = Value.ref a := rx
  exact tail_any (dict_typeIs I g) PySem.F.slot_dict_getitem.lookup (d_getItem hu I g ry fun w' s3 I3 rw' => ⟨z, H, I3, rw', q⟩) hs
abbrev rIxU (K : PySem.W.Frag) : R2 := fun x y H Q => rIx K x y H Q ∨ rIxDc x y H Q
theorem ix_U (hu : X.A.units + 1 < cLine) : IxR X (rIxU X.K) := IxR.or ix_seq (ix_dict hu)
theorem rv_ix : RV2 K (rIxU K) gIx := fun Hb H x y dx dy k Q s ix iy g q => by
  have T : ∀ {ds : List D} {i : Int}, tupD dx = some ds → IsO K Hb H y (.int i) → (∃ d, atI ds i = some d ∧ k d) → rIxU K x y H Q := fun {ds i} e iy g => by
    obtain ⟨_, a, vs, e, h, l⟩ := o_tupD s ix e
    obtain ⟨d, ha, g⟩ := g
    obtain ⟨v, hv, iv⟩ := atI_is l ha
    exact .inl (.inr (.inl ⟨a, vs, _, v, e, o_int iy, h, hv, q _ _ _ _ g .refl iv⟩))
  have L : ∀ {ds : List D} {i : Int}, lstD dx = some ds → IsO K Hb H y (.int i) → (∃ d, atI ds i = some d ∧ k d) → rIxU K x y H Q := fun {ds i} e iy g => by
    obtain ⟨a, vs, e, h, l⟩ := o_lstD s ix e
    obtain ⟨d, ha, g⟩ := g
    obtain ⟨v, hv, iv⟩ := atI_is l ha
    exact .inl (.inl ⟨a, vs, _, v, e, o_int iy, h, hv, q _ _ _ _ g .refl iv⟩)
  have Dc : (∃ d, getK dx dy = some (some d) ∧ k d) → rIxU K x y H Q := fun ⟨d, e, g⟩ => by
    obtain ⟨p, rfl, c⟩ := o_dict s ix (getK_dict e)
    obtain ⟨o, dg, _, h2⟩ := cell_get c (o_key s iy e) s e
    obtain ⟨w, rfl, iw⟩ := h2 d rfl
    exact .inr ⟨p, w, rfl, dg, q _ _ _ _ g .refl iw⟩
  unfold gIx at g
  split at g
  · exact T rfl iy g
  · exact L rfl iy g
  · exact T rfl iy g
  · exact L rfl iy g
  · obtain ⟨g1, c, g2, g3⟩ := g
    exact .inl (.inr (.inr ⟨_, _, c, o_str ix, o_int iy, Nat.le_trans g1 (by decide), g2, q _ _ _ _ g3 .refl (.str _)⟩))
  · exact Dc g
/-- in, not in -/
def rInDc (neg : Bool) : R2 := fun x y H Q => ∃ a o, y = .ref a ∧ DGet H a x o ∧ Q (.bl (if neg then !o.isSome else o.isSome)) H
theorem op_inDc (hu : X.A.units + 1 < cLine) : OpR X (compareOp .In) (rInDc false) := by
  intro pins s σ H x y v u Q I rx ry h
  obtain ⟨a, o, rfl, g, q⟩ := h
  obtain rfl : u = Value.ref a := ry
  exact d_in hu I g rx fun s3 I3 => ⟨.bl o.isSome, H, I3, rfl, q⟩
theorem op_notInDc (hu : X.A.units + 1 < cLine) : OpR X (compareOp .NotIn) (rInDc true) := by
  intro pins s σ H x y v u Q I rx ry h
  obtain ⟨a, o, rfl, g, q⟩ := h
  obtain rfl : u = Value.ref a := ry
  exact d_notIn hu I g rx fun s3 I3 => ⟨.bl (!o.isSome), H, I3, rfl, q⟩
abbrev rInU (K : PySem.W.Frag) : R2 := fun x y H Q => rInD K x y H Q ∨ ((∃ i j, x = .str i ∧ y = .str j ∧ Q (.bl (!(Builtin.Str.occurrences j i 0 j.length 1).isEmpty)) H) ∨ rInDc false x y H Q)
abbrev rNotInU (K : PySem.W.Frag) : R2 := fun x y H Q => rNotInD K x y H Q ∨ ((∃ i j, x = .str i ∧ y = .str j ∧ Q (.bl (!(!(Builtin.Str.occurrences j i 0 j.length 1).isEmpty))) H) ∨ rInDc true x y H Q)
theorem op_inU (hu : X.A.units + 65 < cLine) : OpR X (compareOp .In) (rInU X.K) := (op_inD hu).or (op_in_str.or (op_inDc (by omega)))
theorem op_notInU (hu : X.A.units + 65 < cLine) : OpR X (compareOp .NotIn) (rNotInU X.K) := (op_notInD hu).or (op_notin_str.or (op_notInDc (by omega)))
theorem pd_lst {ds : List D} {xs : List PyData} (h : pdL ds = some xs) : pd (.lst ds) = some (.list xs) := by simp [pd, h]
theorem in_cases {x c : D} {k : Bool → Prop} (h : inB x c k) : (∃ ds a xs, c = .lst ds ∧ pd x = some a ∧ pdL ds = some xs ∧ SeqAt.shaped a = true ∧ SeqAt.shaped (.list xs) = true ∧ k (xs.any fun z => PyData.eqv z a)) ∨
    (∃ z y, c = .str z ∧ x = .str y ∧ k (!(Builtin.Str.occurrences z y 0 z.length 1).isEmpty)) ∨ ∃ r, getK c x = some r ∧ k r.isSome := by
  unfold inB at h
  split at h
  · obtain ⟨a, xs, h⟩ := h
    exact .inl ⟨_, a, xs, rfl, h⟩
  · obtain ⟨y, h1, h2⟩ := h
    exact .inr (.inl ⟨_, y, rfl, h1, h2⟩)
  · exact .inr (.inr h)
theorem o_get (s : Sub Hb H) {v u : V} {c x : D} {r : Option D} (hc : IsO K Hb H u c) (hx : IsO K Hb H v x) (g : getK c x = some r) : ∃ p o, u = .ref p ∧ DGet H p v o ∧ o.isSome = r.isSome := by
  obtain ⟨p, rfl, cc⟩ := o_dict s hc (getK_dict g)
  obtain ⟨o, dg, h1, h2⟩ := cell_get cc (o_key s hx g) s g
  refine ⟨p, o, rfl, dg, ?_⟩
  cases r with
  | none => rw [h1 rfl]; rfl
  | some z => obtain ⟨w, e, _⟩ := h2 z rfl; rw [e]; rfl
theorem rv_in : RV2 K (rInU K) gIn := fun Hb H x y dx dy k Q s ix iy g q => by
  rcases in_cases g with ⟨ds, a, xs, e1, h1, h2, h3, h4, g2⟩ | ⟨z, w, e1, e2, g2⟩ | ⟨r, h, g2⟩
  · subst e1
    exact .inl ⟨a, xs, (ix.is s).dp h1, (iy.is s).dp (pd_lst h2), h3, h4, q _ _ _ _ g2 .refl (.bl _)⟩
  · subst e1 e2
    exact .inr (.inl ⟨_, _, o_str ix, o_str iy, q _ _ _ _ g2 .refl (.bl _)⟩)
  · obtain ⟨p, o, e, dg, ho⟩ := o_get s iy ix h
    exact .inr (.inr ⟨p, o, e, dg, by rw [ho]; exact q _ _ _ _ g2 .refl (.bl _)⟩)
theorem rv_notIn : RV2 K (rNotInU K) gNotIn := fun Hb H x y dx dy k Q s ix iy g q => by
  rcases in_cases g with ⟨ds, a, xs, e1, h1, h2, h3, h4, g2⟩ | ⟨z, w, e1, e2, g2⟩ | ⟨r, h, g2⟩
  · subst e1
    exact .inl ⟨a, xs, (ix.is s).dp h1, (iy.is s).dp (pd_lst h2), h3, h4, q _ _ _ _ g2 .refl (.bl _)⟩
  · subst e1 e2
    exact .inr (.inl ⟨_, _, o_str ix, o_str iy, q _ _ _ _ g2 .refl (.bl _)⟩)
  · obtain ⟨p, o, e, dg, ho⟩ := o_get s iy ix h
    exact .inr (.inr ⟨p, o, e, dg, by rw [ho]; exact q _ _ _ _ g2 .refl (.bl _)⟩)

/-! ### built-ins -/
theorem o_one {xs : List V} {d : D} (l : IsOL K Hb H xs [d]) : ∃ v, xs = [v] ∧ IsO K Hb H v d := by
  cases l with
  | cons a l => cases l; exact ⟨_, rfl, a⟩
theorem o_two {xs : List V} {d e : D} (l : IsOL K Hb H xs [d, e]) : ∃ v w, xs = [v, w] ∧ IsO K Hb H v d ∧ IsO K Hb H w e := by
  cases l with
  | cons a l =>
    obtain ⟨w, rfl, b⟩ := o_one l
    exact ⟨_, w, rfl, a, b⟩
theorem call_lenDr : CallR X (.builtin "len") (fun xs H Q => ∃ a kvs, xs = [V.ref a] ∧ Rd H a (.dK kvs) ∧ Q (.int kvs.length) H) := by
  intro pins s σ H xs us Q I r h
  obtain ⟨a, kvs, rfl, ha, q⟩ := h
  obtain ⟨u, rfl, ru⟩ := vals1 r
  cases ru
  exact d_len I ha fun t s' I' => ⟨.int kvs.length, H, I', ⟨t, rfl⟩, q⟩
def rLenTr : List V → Hp → VK → Prop := fun xs H Q => ∃ (p : Addr) (kvs : List (List Key × V)), xs = [.ref p] ∧ Rd H p (.dT kvs) ∧ Q (.int ((kvs.length : Nat) : Int)) H
theorem call_len_dTr : CallR X (.builtin "len") rLenTr := by
  intro pins s σ H xs us Q I r h
  obtain ⟨p, kvs, rfl, hp, q⟩ := h
  obtain ⟨u, rfl, rx⟩ := vals1 r
  obtain rfl : u = .ref p := rx
  obtain ⟨z, hd, ys, rel, dd⟩ := dt_rd I.hok hp
  have hl : kvs.length = ys.length := Paired.length rel
  refine call_len_dictH hd dd (by rw [← hl]; have := sizeLine_eq; omega) ?_
  rw [← hl]
  exact ⟨.int ((kvs.length : Nat) : Int), H, I.tok _, ⟨_, rfl⟩, q⟩
abbrev rLenU (K : PySem.W.Frag) : List V → Hp → VK → Prop := fun xs H Q => (∃ p ys, xs = [.ref p] ∧ (SqL K H p ys ∨ SqT K H p ys) ∧ Q (.int ys.length) H) ∨ ((∃ a kvs, xs = [V.ref a] ∧ Rd H a (.dK kvs) ∧ Q (.int kvs.length) H) ∨ (rLenTr xs H Q ∨ ∃ z, xs = [.str z] ∧ z.length ≤ sizeLine ∧ Q (.int z.length) H))
theorem call_lenU : CallR X (.builtin "len") (rLenU X.K) := call_len_seq.or (call_lenDr.or (call_len_dTr.or call_len_str))
theorem rv_len : RVN K (rLenU K) gLen := fun Hb H xs ds k Q s l g q => by
  have T : ∀ {d : D} {es : List D}, IsOL K Hb H xs [d] → tupD d = some es → k (.int es.length) → rLenU K xs H Q := fun {d es} l e g => by
    obtain ⟨v, rfl, i⟩ := o_one l
    obtain ⟨_, a, vs, rfl, h, m⟩ := o_tupD s i e
    exact .inl ⟨a, vs, rfl, .inr h, by rw [m.length]; exact q _ _ _ _ g .refl (.int _)⟩
  have L : ∀ {d : D} {es : List D}, IsOL K Hb H xs [d] → lstD d = some es → k (.int es.length) → rLenU K xs H Q := fun {d es} l e g => by
    obtain ⟨v, rfl, i⟩ := o_one l
    obtain ⟨a, vs, rfl, h, m⟩ := o_lstD s i e
    exact .inl ⟨a, vs, rfl, .inl h, by rw [m.length]; exact q _ _ _ _ g .refl (.int _)⟩
  unfold gLen at g
  split at g
  · exact T l rfl g
  · exact L l rfl g
  · exact T l rfl g
  · exact L l rfl g
  · obtain ⟨v, rfl, i⟩ := o_one l
    obtain ⟨p, rfl, vs, h, e, _⟩ := o_dict s i trivial
    have z := congrArg List.length e
    simp only [List.length_map] at z
    exact .inr (.inl ⟨p, vs, rfl, h, by rw [z]; exact q _ _ _ _ g .refl (.int _)⟩)
  · obtain ⟨v, rfl, i⟩ := o_one l
    obtain ⟨p, rfl, vs, h, e, _⟩ := o_dict s i trivial
    have z := congrArg List.length e
    simp only [List.length_map] at z
    exact .inr (.inr (.inl ⟨p, vs, rfl, h, by rw [z]; exact q _ _ _ _ g .refl (.int _)⟩))
  · obtain ⟨v, rfl, i⟩ := o_one l
    obtain rfl := o_str i
    exact .inr (.inr (.inr ⟨_, rfl, Nat.le_trans g.1 (by decide), q _ _ _ _ g.2 .refl (.int _)⟩))
  · exact g.elim
theorem rv_abs : RVN K (fun xs H Q => ∃ i, xs = [.int i] ∧ Q (.int (if i < 0 then -i else i)) H) gAbs := fun Hb H xs ds k Q s l g q => by
  unfold gAbs at g
  split at g
  · obtain ⟨v, rfl, i⟩ := o_one l
    obtain rfl := o_int i
    exact ⟨_, rfl, q _ _ _ _ g .refl (.int _)⟩
  · exact g.elim
theorem rv_int : RVN K (fun xs H Q => (∃ i, xs = [.int i] ∧ Q (.int i) H) ∨ ∃ k, xs = [.bl k] ∧ Q (.int (if k then 1 else 0)) H) gInt := fun Hb H xs ds k Q s l g q => by
  unfold gInt at g
  split at g
  · obtain ⟨v, rfl, i⟩ := o_one l
    obtain rfl := o_int i
    exact .inl ⟨_, rfl, q _ _ _ _ g .refl (.int _)⟩
  · obtain ⟨v, rfl, i⟩ := o_one l
    obtain rfl := o_bl i
    exact .inr ⟨_, rfl, q _ _ _ _ g .refl (.int _)⟩
  · exact g.elim
theorem rv_max2 : RVN K (fun xs H Q => ∃ i j, xs = [.int i, .int j] ∧ Q (.int (if j > i then j else i)) H) gMax2 := fun Hb H xs ds k Q s l g q => by
  unfold gMax2 at g
  split at g
  · obtain ⟨v, w, rfl, i, j⟩ := o_two l
    obtain rfl := o_int i
    obtain rfl := o_int j
    exact ⟨_, _, rfl, q _ _ _ _ g .refl (.int _)⟩
  · exact g.elim
theorem rv_min2 : RVN K (fun xs H Q => ∃ i j, xs = [.int i, .int j] ∧ Q (.int (if j < i then j else i)) H) gMin2 := fun Hb H xs ds k Q s l g q => by
  unfold gMin2 at g
  split at g
  · obtain ⟨v, w, rfl, i, j⟩ := o_two l
    obtain rfl := o_int i
    obtain rfl := o_int j
    exact ⟨_, _, rfl, q _ _ _ _ g .refl (.int _)⟩
  · exact g.elim
abbrev rTupleU (K : PySem.W.Frag) : List V → Hp → VK → Prop := fun xs H Q => ∃ p ys, xs = [.ref p] ∧ ((SqL K H p ys ∧ ∀ l, H l = none → Q (.ref l) (upd H l (.tup ys))) ∨ (SqT K H p ys ∧ Q (.ref p) H))
theorem rv_tuple : RVN K (rTupleU K) gTuple := fun Hb H xs ds k Q s l g q => by
  have T : ∀ {d : D} {es : List D}, IsOL K Hb H xs [d] → tupD d = some es → k d → rTupleU K xs H Q := fun {d es} l e g => by
    obtain ⟨v, rfl, i⟩ := o_one l
    obtain ⟨i2, a, vs, rfl, h, m⟩ := o_tupD s i e
    exact ⟨a, vs, rfl, .inr ⟨h, q _ _ _ _ g .refl i2⟩⟩
  have L : ∀ {d : D} {es : List D}, IsOL K Hb H xs [d] → lstD d = some es → k (.tup es) → rTupleU K xs H Q := fun {d es} l e g => by
    obtain ⟨v, rfl, i⟩ := o_one l
    obtain ⟨a, vs, rfl, h, m⟩ := o_lstD s i e
    exact ⟨a, vs, rfl, .inl ⟨h, fun p hp => q _ _ _ _ g (.one hp) (.tup upd_same (m.mono (Sub.new (s.none hp))))⟩⟩
  unfold gTuple at g
  split at g
  · exact T l rfl g
  · exact L l rfl g
  · exact T l rfl g
  · exact L l rfl g
  · exact g.elim
theorem o_seqD (s : Sub Hb H) {v : V} {d : D} {es : List D} (h : IsO K Hb H v d) (e : tupD d = some es ∨ lstD d = some es) : ∃ a vs, v = .ref a ∧ (SqL K H a vs ∨ SqT K H a vs) ∧ IsL K Hb vs es := by
  rcases e with e | e
  · obtain ⟨_, a, vs, e1, h1, l⟩ := o_tupD s h e
    exact ⟨a, vs, e1, .inr h1, l⟩
  · obtain ⟨a, vs, e1, h1, l⟩ := o_lstD s h e
    exact ⟨a, vs, e1, .inl h1, l⟩
abbrev rListU (K : PySem.W.Frag) : List V → Hp → VK → Prop := fun xs H Q => ∃ p ys, xs = [.ref p] ∧ (SqL K H p ys ∨ SqT K H p ys) ∧ ∀ l, H l = none → Q (.ref l) (upd H l (.lst ys))
theorem rv_list : RVN K (rListU K) gList := fun Hb H xs ds k Q s l g q => by
  obtain ⟨d, es, rfl, e, g⟩ := g
  obtain ⟨v, rfl, i⟩ := o_one l
  obtain ⟨a, vs, rfl, h, m⟩ := o_seqD s i e
  exact ⟨a, vs, rfl, h, fun p hp => q _ _ _ _ g (.one hp) (.lst upd_same (m.mono (Sub.new (s.none hp))))⟩
theorem rv_sum : RVN K (rSum K) gSum := fun Hb H xs ds k Q s l g q => by
  obtain ⟨d, es, ns, rfl, e1, e2, g⟩ := g
  obtain ⟨v, rfl, i⟩ := o_one l
  obtain ⟨a, vs, rfl, h, m⟩ := o_lstD s i e1
  obtain rfl := is_ints m e2
  exact ⟨a, ns, rfl, h, q _ _ _ _ g .refl (.int _)⟩
theorem rv_all : RVN K (rAll K) gAll := fun Hb H xs ds k Q s l g q => by
  obtain ⟨d, es, bs, rfl, e1, e2, g⟩ := g
  obtain ⟨v, rfl, i⟩ := o_one l
  obtain ⟨a, vs, rfl, h, m⟩ := o_lstD s i e1
  obtain rfl := is_bools m e2
  exact ⟨a, bs, rfl, h, q _ _ _ _ g .refl (.bl _)⟩
theorem rv_any : RVN K (rAny K) gAny := fun Hb H xs ds k Q s l g q => by
  obtain ⟨d, es, bs, rfl, e1, e2, g⟩ := g
  obtain ⟨v, rfl, i⟩ := o_one l
  obtain ⟨a, vs, rfl, h, m⟩ := o_lstD s i e1
  obtain rfl := is_bools m e2
  exact ⟨a, bs, rfl, h, q _ _ _ _ g .refl (.bl _)⟩
end
end DL

/-! DL3: tests, and, or, if; arguments that are lent cells; calls of defs; statements. -/
namespace DL
open PySem L2
open PyProof.Rows hiding St

section
variable {X : Cx} {Wx : WX} {P I J J1 J2 J3 : List Nat} {e a b c : Expr} {es rest : List Expr} {F G : FE} {T U : FT} {A : FA} {pos p2 : Pos} {ta tb : TE} {tc uc : TT} {tA : TA}
/-! ### tests -/
theorem dt_val (ha : DE X Wx P I e ta F J) (he : ∀ whole, isTrue e X.env whole = (do let v ← whole; standAt e.pos; holding [v] (truthy v)) := by intro _; rfl) : DT X Wx P I e (tB ta) (fTest F) J := by
  obtain ⟨pa, ka⟩ := ha
  refine dt_of (pt_val pa he) fun W ρ σ Hb H Q post xp E f x q => ka W ρ σ Hb H _ _ xp E f x fun d ρ1 v Hb1 H1 f1 E1 s1 i1 => ?_
  cases d <;> first | exact f1.elim | skip
  exact ⟨_, is_bl i1, q _ _ _ _ f1 E1 s1⟩
theorem dt_cmp {op : CmpOp} {r : R2} {g : G2} (ho : OpR X (compareOp op) r) (hr : RV2 X.K r g) (ha : DE X Wx P I a ta F J1) (hb : DEo X Wx P J1 b tb G J) (hm : behindInMarks op b = false := by first | exact nomark _ | rfl) : DT X Wx P I (.Compare a [op] [b] pos) (tTest (tOp r ta tb)) (fTest (fBin g F G)) J := by
  refine dt_of (pt_cmpR ho ha.pe hb.pe hm) fun W ρ σ Hb H Q post xp E f x q => bin_core hr ha hb W ρ σ Hb H _ _ xp E f x fun d ρ1 v Hb1 H1 f1 E1 s1 i1 => ?_
  cases d <;> first | exact f1.elim | skip
  exact ⟨_, is_bl i1, q _ _ _ _ f1 E1 s1⟩
theorem dt_cmpL {op : CmpOp} {r : R2} {g : G2} (i : Nat) {x : Str} (ho : OpR X (compareOp op) r) (hr : RV2 X.K r g) (hb : DEo X Wx P I b tb G J) (hm : behindInMarks op b = false := by first | exact nomark _ | rfl) (hi : i ∈ P ∨ i ∈ I := by decide) (hj : i ∈ P ∨ i ∈ J := by decide) (hN : X.N[i]? = some x := by rfl) (hv : Vis X.env.scope x := by first | exact Or.inl rfl | exact Or.inr (Or.inl rfl) | exact Or.inr (Or.inr rfl)) (hd : (x == ("__debug__" : Str)) = false := by decide)
    (hcd : (x == ("__classdict__" : Str)) = false := by decide) : DT X Wx P I (.Compare (.Name x p2) [op] [b] pos) (tTest (tOp r (tVar i) tb)) (fTest (fBinL g i G)) J := by
  refine dt_of (pt_cmpR ho (pe_var hN hv hd hcd) hb.pe hm) fun W ρ σ Hb H Q post xp E f x q => binL_core i hr hb hi hj W ρ σ Hb H _ _ xp E f x fun d ρ1 v Hb1 H1 f1 E1 s1 i1 => ?_
  cases d <;> first | exact f1.elim | skip
  exact ⟨_, is_bl i1, q _ _ _ _ f1 E1 s1⟩
theorem dt_not (ha : DT X Wx P I a tc T J) : DT X Wx P I (.UnaryOp .Not a pos) (tNot tc) (fNot T) J := by
  obtain ⟨pa, ka⟩ := ha
  exact dt_of (pt_not pa) fun W ρ σ Hb H Q post xp E f x q => ka W ρ σ Hb H _ _ xp E f x fun b ρ1 Hb1 H1 f1 E1 s1 => q _ _ _ _ f1 E1 s1
theorem dw_and1 (ha : DT X Wx P I a tc T J) : DW X Wx P I (.BoolOp .And [a] pos) tc T J := by
  obtain ⟨pa, ka⟩ := ha
  exact ⟨pw_and1 pa, ka⟩
theorem dw_or1 (ha : DT X Wx P I a tc T J) : DW X Wx P I (.BoolOp .Or [a] pos) tc T J := by
  obtain ⟨pa, ka⟩ := ha
  exact ⟨pw_or1 pa, ka⟩
theorem dw_and (ha : DT X Wx P I a tc T I) (hb : DW X Wx P I (.BoolOp .And (b :: rest) pos) uc U I) : DW X Wx P I (.BoolOp .And (a :: b :: rest) pos) (tAnd tc uc) (fAnd T U) I := by
  obtain ⟨pa, ka⟩ := ha
  obtain ⟨pb, kb⟩ := hb
  refine ⟨pw_and pa pb, fun W ρ σ Hb H Q post xp E f x q => ka W ρ σ Hb H _ _ xp E f x fun b ρ1 Hb1 H1 f1 E1 s1 => ?_⟩
  cases b with
  | true =>
    rw [if_pos rfl] at f1 ⊢
    exact kb W ρ1 σ Hb1 H1 _ _ xp E1 f1 x fun b ρ2 Hb2 H2 f2 E2 s2 => q _ _ _ _ f2 E2 (s1.trans s2)
  | false =>
    rw [if_neg Bool.false_ne_true] at f1 ⊢
    exact q _ _ _ _ f1 E1 s1
theorem dw_or (ha : DT X Wx P I a tc T I) (hb : DW X Wx P I (.BoolOp .Or (b :: rest) pos) uc U I) : DW X Wx P I (.BoolOp .Or (a :: b :: rest) pos) (tOr tc uc) (fOr T U) I := by
  obtain ⟨pa, ka⟩ := ha
  obtain ⟨pb, kb⟩ := hb
  refine ⟨pw_or pa pb, fun W ρ σ Hb H Q post xp E f x q => ka W ρ σ Hb H _ _ xp E f x fun b ρ1 Hb1 H1 f1 E1 s1 => ?_⟩
  cases b with
  | true =>
    rw [if_pos rfl] at f1 ⊢
    exact q _ _ _ _ f1 E1 s1
  | false =>
    rw [if_neg Bool.false_ne_true] at f1 ⊢
    exact kb W ρ1 σ Hb1 H1 _ _ xp E1 f1 x fun b ρ2 Hb2 H2 f2 E2 s2 => q _ _ _ _ f2 E2 (s1.trans s2)
theorem dt_w (h : DW X Wx P I e tc T J) : DT X Wx P I e tc T J := by
  obtain ⟨pa, ka⟩ := h
  exact ⟨pa.pt, ka⟩
theorem de_one {op} (h : DE X Wx P I a ta F J) : DE X Wx P I (.BoolOp op [a] pos) ta F J := by
  obtain ⟨pa, ka⟩ := h
  exact ⟨pe_one pa, ka⟩
theorem de_and (ha : DE X Wx P I a ta F I) (hb : DE X Wx P I (.BoolOp .And (b :: rest) pos) tb G I) : DE X Wx P I (.BoolOp .And (a :: b :: rest) pos) (tAndV ta tb) (fAndV F G) I := by
  obtain ⟨pa, ka⟩ := ha
  obtain ⟨pb, kb⟩ := hb
  refine ⟨pe_and pa pb, fun W ρ σ Hb H Q post xp E f x q => ka W ρ σ Hb H _ _ xp E f x fun d ρ1 v Hb1 H1 f1 E1 s1 i1 => ?_⟩
  cases d <;> first | exact f1.elim | skip
  rename_i b
  refine ⟨b, is_bl i1, ?_⟩
  cases b with
  | true =>
    rw [if_pos rfl]
    exact kb W ρ1 σ Hb1 H1 _ _ xp E1 f1 x fun d ρ2 v Hb2 H2 f2 E2 s2 i2 => q _ _ _ _ _ f2 E2 (s1.trans s2) i2
  | false =>
    rw [if_neg Bool.false_ne_true]
    exact q _ _ _ _ _ f1 E1 s1 (.bl _)
theorem de_or (ha : DE X Wx P I a ta F I) (hb : DE X Wx P I (.BoolOp .Or (b :: rest) pos) tb G I) : DE X Wx P I (.BoolOp .Or (a :: b :: rest) pos) (tOrV ta tb) (fOrV F G) I := by
  obtain ⟨pa, ka⟩ := ha
  obtain ⟨pb, kb⟩ := hb
  refine ⟨pe_or pa pb, fun W ρ σ Hb H Q post xp E f x q => ka W ρ σ Hb H _ _ xp E f x fun d ρ1 v Hb1 H1 f1 E1 s1 i1 => ?_⟩
  cases d <;> first | exact f1.elim | skip
  rename_i b
  refine ⟨b, is_bl i1, ?_⟩
  cases b with
  | true =>
    rw [if_pos rfl]
    exact q _ _ _ _ _ f1 E1 s1 (.bl _)
  | false =>
    rw [if_neg Bool.false_ne_true]
    exact kb W ρ1 σ Hb1 H1 _ _ xp E1 f1 x fun d ρ2 v Hb2 H2 f2 E2 s2 i2 => q _ _ _ _ _ f2 E2 (s1.trans s2) i2
theorem de_not (ha : DE X Wx P I a ta F J) : DE X Wx P I (.UnaryOp .Not a pos) (tNotV ta) (fNotV F) J := by
  obtain ⟨pa, ka⟩ := ha
  refine ⟨pe_not pa, fun W ρ σ Hb H Q post xp E f x q => ka W ρ σ Hb H _ _ xp E f x fun d ρ1 v Hb1 H1 f1 E1 s1 i1 => ?_⟩
  cases d <;> first | exact f1.elim | skip
  exact ⟨_, is_bl i1, q _ _ _ _ _ f1 E1 s1 (.bl _)⟩
theorem de_if (hc : DT X Wx P I c tc T J1) (ha : DE X Wx P J1 a ta F J) (hb : DE X Wx P J1 b tb G J) : DE X Wx P I (.IfExp c a b pos) (tIf tc ta tb) (fIf T F G) J := by
  obtain ⟨pc, kc⟩ := hc
  obtain ⟨pa, ka⟩ := ha
  obtain ⟨pb, kb⟩ := hb
  refine ⟨pe_ifExp pc pa pb, fun W ρ σ Hb H Q post xp E f x q => kc W ρ σ Hb H _ _ xp E f x fun b ρ1 Hb1 H1 f1 E1 s1 => ?_⟩
  cases b with
  | true =>
    rw [if_pos rfl] at f1 ⊢
    exact ka W ρ1 σ Hb1 H1 _ _ xp E1 f1 x fun d ρ2 v Hb2 H2 f2 E2 s2 i2 => q _ _ _ _ _ f2 E2 (s1.trans s2) i2
  | false =>
    rw [if_neg Bool.false_ne_true] at f1 ⊢
    exact kb W ρ1 σ Hb1 H1 _ _ xp E1 f1 x fun d ρ2 v Hb2 H2 f2 E2 s2 i2 => q _ _ _ _ _ f2 E2 (s1.trans s2) i2
/-- built-ins by their names -/
theorem de_callB {x : Str} {id : String} {r : List V → Hp → VK → Prop} {g : GN} (hc : CallR X (.builtin id) r) (hr : RVN X.K r g) (hm : X.mg x = none) (hv : bootBuiltins x = some (.builtin id)) (ha : DAo X Wx P I (e :: es) tA A J) (hg : Gl X x := by rfl) (hn : x ≠ "__name__" := by decide) (hdb : (x == ("__debug__" : Str)) = false := by decide)
    (he : starEach (e :: es) X.env = (false, eval e X.env) :: starEach es X.env := by rfl) (hpl : (backTo pos (starEach es X.env)).any (·.1) = false := by rfl) : DE X Wx P I (.Call (.Name x p2) (e :: es) [] pos) (tCB r tA) (fN g A) J := by
  obtain ⟨pa, ka⟩ := ha
  refine de_of (pe_callB hc hg hm hv pa hn hdb he hpl) fun W ρ σ Hb H Q post xp E f x q => ka W ρ σ Hb H _ _ xp E f x fun ds ρ1 vs Hb1 H1 f1 E1 s1 i1 => ?_
  refine hr Hb1 H1 vs ds _ _ E1.sub i1 f1 fun w dz Hb2 H2 kz g iz => ?_
  obtain ⟨E2, s2⟩ := g.env E1
  exact q _ _ _ _ _ kz E2 (s1.trans s2) iz
theorem de_callTy {x : Str} {n : String} {r : List V → Hp → VK → Prop} {g : GN} (hc : CallR X (.type n) r) (hr : RVN X.K r g) (hm : X.mg x = none) (hv : bootBuiltins x = some (.type n)) (ha : DAo X Wx P I (e :: es) tA A J) (hg : Gl X x := by rfl) (hn : x ≠ "__name__" := by decide) (hdb : (x == ("__debug__" : Str)) = false := by decide)
    (he : starEach (e :: es) X.env = (false, eval e X.env) :: starEach es X.env := by rfl) (hpl : (backTo pos (starEach es X.env)).any (·.1) = false := by rfl) : DE X Wx P I (.Call (.Name x p2) (e :: es) [] pos) (tCB r tA) (fN g A) J := by
  obtain ⟨pa, ka⟩ := ha
  refine de_of (pe_callTy hc hg hm hv pa hn hdb he hpl) fun W ρ σ Hb H Q post xp E f x q => ka W ρ σ Hb H _ _ xp E f x fun ds ρ1 vs Hb1 H1 f1 E1 s1 i1 => ?_
  refine hr Hb1 H1 vs ds _ _ E1.sub i1 f1 fun w dz Hb2 H2 kz g iz => ?_
  obtain ⟨E2, s2⟩ := g.env E1
  exact q _ _ _ _ _ kz E2 (s1.trans s2) iz
end

/-! ### arguments, some of them lent cells (the slots that own them: sl) -/
def Args (K : PySem.W.Frag) (Hb : Hp) (σ : St) : List (Option Nat) → List V → Env → Prop
  | [], [], [] => True
  | none :: sl, v :: vs, d :: ds => (∃ x, d = some x ∧ Is K Hb v x) ∧ Args K Hb σ sl vs ds
  | some j :: sl, v :: vs, _ :: ds => σ[j]? = some (some v) ∧ Args K Hb σ sl vs ds
  | _, _, _ => False
theorem Args.mono {K : PySem.W.Frag} {Hb Hb' : Hp} {σ : St} (s : Sub Hb Hb') : ∀ {sl : List (Option Nat)} {vs : List V} {ds : Env}, Args K Hb σ sl vs ds → Args K Hb' σ sl vs ds
  | [], [], [], h => h
  | none :: sl, v :: vs, d :: ds, ⟨⟨x, e, i⟩, h⟩ => ⟨⟨x, e, i.mono s⟩, Args.mono s h⟩
  | some j :: sl, v :: vs, _ :: ds, ⟨e, h⟩ => ⟨e, Args.mono s h⟩
/-- the data that the callee sees -/
@[simp] def fill : List (Option Nat) → Env → Env → Env
  | none :: sl, d :: ds, ρ => d :: fill sl ds ρ
  | some j :: sl, _ :: ds, ρ => get ρ j :: fill sl ds ρ
  | _, _, _ => []
/-- the lent cells as they come back -/
@[simp] def unfill : List (Option Nat) → Env → Env → Env
  | none :: sl, _ :: r, ρ => unfill sl r ρ
  | some j :: sl, d :: r, ρ => unfill sl r (put ρ j d)
  | _, _, ρ => ρ
@[simp] def lentOk : List (Option Nat) → Env → Prop
  | [], _ => True
  | none :: sl, ρ => lentOk sl ρ
  | some j :: sl, ρ => (match get ρ j with
    | some _ => True
    | none => False) ∧ lentOk sl ρ
structure DO (X : Cx) (Wx : WX) (P I : List Nat) (es : List Expr) (t : TA) (F : Env → (Env → Env → Prop) → XP → Prop) (sl : List (Option Nat)) (J : List Nat) : Prop where
  pe : PA X es t
  ev : ∀ (W : Wd) (ρ : Env) (σ : St) (Hb H : Hp) (Q : List V → Hp → Prop) (post : Env → Env → Prop) (xp : XP), EnvOk X.K W P I ρ σ Hb H → F ρ post xp → XOk X Wx W P σ xp →
    (∀ ds ρ' vs Hb' H', post ds ρ' → EnvOk X.K W P J ρ' σ Hb' H' → Sub Hb Hb' → Args X.K Hb' σ sl vs ds → Q vs H') → t σ H Q
def oNil : Env → (Env → Env → Prop) → XP → Prop := fun ρ post _ => post [] ρ
@[simp ↓] theorem oNil_ap (ρ : Env) (post : Env → Env → Prop) (z_2 : XP) : oNil  ρ post z_2 = (post [] ρ) := (rfl)
def oVal (a : FE) (b : Env → (Env → Env → Prop) → XP → Prop) : Env → (Env → Env → Prop) → XP → Prop := fun ρ post xp => a ρ (fun x ρ1 => b ρ1 (fun xs ρ2 => post (some x :: xs) ρ2) xp) xp
@[simp ↓] theorem oVal_ap (a : FE) (b : Env → (Env → Env → Prop) → XP → Prop) (ρ : Env) (post : Env → Env → Prop) (xp : XP) : oVal a b ρ post xp = (a ρ (fun x ρ1 => b ρ1 (fun xs ρ2 => post (some x :: xs) ρ2) xp) xp) := (rfl)
def oOwn (j : Nat) (b : Env → (Env → Env → Prop) → XP → Prop) : Env → (Env → Env → Prop) → XP → Prop := fun ρ post xp => (match get ρ j with
    | some _ => True
    | none => False) ∧ b ρ (fun xs ρ2 => post (none :: xs) ρ2) xp
@[simp ↓] theorem oOwn_ap (j : Nat) (b : Env → (Env → Env → Prop) → XP → Prop) (ρ : Env) (post : Env → Env → Prop) (xp : XP) : oOwn j b ρ post xp = ((match get ρ j with
    | some _ => True
    | none => False) ∧ b ρ (fun xs ρ2 => post (none :: xs) ρ2) xp) := (rfl)
section
variable {X : Cx} {Wx : WX} {P I J J1 : List Nat} {e a b c : Expr} {es : List Expr} {F : FE} {A : Env → (Env → Env → Prop) → XP → Prop} {sl : List (Option Nat)} {pos : Pos} {ta : TE} {tA : TA}
theorem do_nil : DO X Wx P I [] tNil oNil [] I := ⟨pa_nil, fun W ρ σ Hb H Q post xp E f _ q => q _ _ _ _ _ f E (Sub.refl _) trivial⟩
theorem do_val (ha : DE X Wx P I e ta F J1) (hb : DO X Wx P J1 es tA A sl J) (hs : starEach (e :: es) X.env = (false, eval e X.env) :: starEach es X.env := by rfl) : DO X Wx P I (e :: es) (tCons ta tA) (oVal F A) (none :: sl) J := by
  obtain ⟨pa, ka⟩ := ha
  obtain ⟨pb, kb⟩ := hb
  refine ⟨pa_cons pa pb hs, fun W ρ σ Hb H Q post xp E f x q => ka W ρ σ Hb H _ _ xp E f x fun d ρ1 v Hb1 H1 f1 E1 s1 i1 => ?_⟩
  exact kb W ρ1 σ Hb1 H1 _ _ xp E1 f1 x fun ds ρ2 vs Hb2 H2 f2 E2 s2 i2 => q _ _ _ _ _ f2 E2 (s1.trans s2) ⟨⟨_, rfl, i1.mono s2⟩, i2⟩
theorem do_own (j : Nat) {x : Str} (hb : DO X Wx P I es tA A sl J) (hj : j ∈ P ∨ j ∈ I := by decide) (hN : X.N[j]? = some x := by rfl) (hv : Vis X.env.scope x := by first | exact Or.inl rfl | exact Or.inr (Or.inl rfl) | exact Or.inr (Or.inr rfl)) (hd : (x == ("__debug__" : Str)) = false := by decide)
    (hcd : (x == ("__classdict__" : Str)) = false := by decide) (hs : starEach (.Name x pos :: es) X.env = (false, eval (.Name x pos) X.env) :: starEach es X.env := by rfl) : DO X Wx P I (.Name x pos :: es) (tCons (tVar j) tA) (oOwn j A) (some j :: sl) J := by
  obtain ⟨pb, kb⟩ := hb
  refine ⟨pa_cons (pe_var hN hv hd hcd) pb hs, fun W ρ σ Hb H Q post xp E f x q => ?_⟩
  obtain ⟨f0, f⟩ := f
  cases g : get ρ j with
  | none => rw [g] at f0; exact f0.elim
  | some d =>
    obtain ⟨p, ep, _⟩ := E.cel j d hj g
    refine ⟨_, ep, kb W ρ σ Hb H _ _ xp E f x fun ds ρ2 vs Hb2 H2 f2 E2 s2 i2 => q _ _ _ _ _ f2 E2 s2 ⟨ep, i2⟩⟩
end

/-! ### a def's promise over data; io: the parameters that are lent cells -/
abbrev DFn := Env → Post → XP → Prop
def lentAt (io : List Nat) (vs : List V) (ρ : Env) (H : Hp) : Nat → Addr → Prop := fun i a => i ∈ io ∧ ∃ d p, get ρ i = some d ∧ vs[i]? = some (.ref p) ∧ foot H p d a
def rootAt (io : List Nat) (vs : List V) : Nat → Addr → Prop := fun i p => i ∈ io ∧ vs[i]? = some (.ref p)
def spD (K : PySem.W.Frag) (n : Nat) (io : List Nat) (G : DFn) : Sp := fun vs H Q E => vs.length = n ∧ ∃ (ρ : Env) (Hb : Hp) (post : Post) (xp : XP), EnvOk K ⟨Hb, H, lentAt io vs ρ H, rootAt io vs⟩ io [] ρ (vs.map some) Hb H ∧ G ρ post xp ∧
  (∀ d ρ' v Hb' H', post d ρ' → EnvOk K ⟨Hb, H, lentAt io vs ρ H, rootAt io vs⟩ io [] ρ' (vs.map some) Hb' H' → Is K Hb' v d → Q v H') ∧
  (∀ c ρ' cls dx Hb' H', xp c ρ' → EnvOk K ⟨Hb, H, lentAt io vs ρ H, rootAt io vs⟩ io [] ρ' (vs.map some) Hb' H' → XIs K Hb' cls dx c → E cls dx H')

/-- the places of the lent arguments -/
def ioOf : Nat → List (Option Nat) → List Nat
  | _, [] => []
  | k, none :: sl => ioOf (k + 1) sl
  | k, some _ :: sl => k :: ioOf (k + 1) sl
def slots : List (Option Nat) → List Nat
  | [] => []
  | none :: sl => slots sl
  | some j :: sl => j :: slots sl
theorem mem_ioOf : ∀ (sl : List (Option Nat)) (k i : Nat), i ∈ ioOf k sl ↔ ∃ m j, i = k + m ∧ sl[m]? = some (some j)
  | [], k, i => by simp [ioOf]
  | none :: sl, k, i => by
    rw [ioOf, mem_ioOf sl (k + 1) i]
    constructor
    · rintro ⟨m, j, e, h⟩; exact ⟨m + 1, j, by omega, by simpa using h⟩
    · rintro ⟨m, j, e, h⟩
      cases m with
      | zero => simp at h
      | succ m => exact ⟨m, j, by omega, by simpa using h⟩
  | some j0 :: sl, k, i => by
    rw [ioOf, List.mem_cons, mem_ioOf sl (k + 1) i]
    constructor
    · rintro (e | ⟨m, j, e, h⟩)
      · exact ⟨0, j0, by omega, rfl⟩
      · exact ⟨m + 1, j, by omega, by simpa using h⟩
    · rintro ⟨m, j, e, h⟩
      cases m with
      | zero => exact .inl (by omega)
      | succ m => exact .inr ⟨m, j, by omega, by simpa using h⟩
theorem mem_slots : ∀ {sl : List (Option Nat)} {m j : Nat}, sl[m]? = some (some j) → j ∈ slots sl
  | [], _, _, h => by simp at h
  | none :: sl, 0, _, h => by simp at h
  | none :: sl, m + 1, _, h => mem_slots (sl := sl) (m := m) (by simpa using h)
  | some j0 :: sl, 0, _, h => by simp at h; subst h; exact List.mem_cons_self
  | some j0 :: sl, m + 1, _, h => List.mem_cons_of_mem _ (mem_slots (sl := sl) (m := m) (by simpa using h))
theorem of_slots : ∀ {sl : List (Option Nat)} {j : Nat}, j ∈ slots sl → ∃ m : Nat, sl[m]? = some (some j)
  | none :: sl, j, h => by
    obtain ⟨m, e⟩ := of_slots (sl := sl) (show j ∈ slots sl from h)
    exact ⟨m + 1, by simpa using e⟩
  | some j0 :: sl, j, h => by
    rcases List.mem_cons.mp (show j ∈ j0 :: slots sl from h) with e | h
    · exact ⟨0, by simp [e]⟩
    · obtain ⟨m, e⟩ := of_slots h
      exact ⟨m + 1, by simpa using e⟩
  | [], j, h => by cases h
theorem slots_inj : ∀ {sl : List (Option Nat)} {m k j : Nat}, (slots sl).Nodup → sl[m]? = some (some j) → sl[k]? = some (some j) → m = k
  | [], m, k, j, _, h, _ => by simp at h
  | none :: sl, 0, _, _, _, h, _ => by simp at h
  | none :: sl, _ + 1, 0, _, _, _, h => by simp at h
  | none :: sl, m + 1, k + 1, j, n, h1, h2 => congrArg (· + 1) (slots_inj (sl := sl) n (by simpa using h1) (by simpa using h2))
  | some j0 :: sl, 0, 0, _, _, _, _ => rfl
  | some j0 :: sl, 0, k + 1, j, n, h1, h2 => by
    simp at h1; subst h1
    exact absurd (mem_slots (sl := sl) (m := k) (by simpa using h2)) (List.nodup_cons.mp n).1
  | some j0 :: sl, m + 1, 0, j, n, h1, h2 => by
    simp at h2; subst h2
    exact absurd (mem_slots (sl := sl) (m := m) (by simpa using h1)) (List.nodup_cons.mp n).1
  | some j0 :: sl, m + 1, k + 1, j, n, h1, h2 => congrArg (· + 1) (slots_inj (sl := sl) (List.nodup_cons.mp n).2 (by simpa using h1) (by simpa using h2))
section
variable {K : PySem.W.Frag} {Hb : Hp} {σ : St}
theorem Args.len : ∀ {sl : List (Option Nat)} {vs : List V} {ds ρ : Env}, Args K Hb σ sl vs ds → (vs.map some).length = (fill sl ds ρ).length
  | [], [], [], _, _ => rfl
  | none :: sl, v :: vs, d :: ds, ρ, h => congrArg (· + 1) (Args.len (ρ := ρ) h.2)
  | some j :: sl, v :: vs, _ :: ds, ρ, h => congrArg (· + 1) (Args.len (ρ := ρ) h.2)
theorem Args.val : ∀ {sl : List (Option Nat)} {vs : List V} {ds ρ : Env} {m : Nat} {d : D}, Args K Hb σ sl vs ds → (∀ j, sl[m]? ≠ some (some j)) → get (fill sl ds ρ) m = some d → ∃ v, (vs.map some)[m]? = some (some v) ∧ Is K Hb v d
  | [], [], [], _, _, _, _, _, g => by simp [fill, get] at g
  | none :: sl, v :: vs, d :: ds, ρ, 0, _, h, _, g => by
    obtain ⟨⟨x, e, i⟩, _⟩ := h
    simp only [fill, get] at g
    rw [e] at g; cases g
    exact ⟨v, rfl, i⟩
  | none :: sl, v :: vs, d :: ds, ρ, m + 1, _, h, n, g => by
    obtain ⟨w, e, i⟩ := Args.val (ρ := ρ) (m := m) h.2 (fun j => by simpa using n j) (by simpa [fill, get] using g)
    exact ⟨w, by simpa using e, i⟩
  | some j :: sl, v :: vs, _ :: ds, ρ, 0, _, h, n, g => absurd rfl (n j)
  | some j :: sl, v :: vs, _ :: ds, ρ, m + 1, _, h, n, g => by
    obtain ⟨w, e, i⟩ := Args.val (ρ := ρ) (m := m) h.2 (fun j => by simpa using n j) (by simpa [fill, get] using g)
    exact ⟨w, by simpa using e, i⟩
theorem Args.own : ∀ {sl : List (Option Nat)} {vs : List V} {ds ρ : Env} {m j : Nat}, Args K Hb σ sl vs ds → sl[m]? = some (some j) → ∃ v, (vs.map some)[m]? = some (some v) ∧ σ[j]? = some (some v) ∧ get (fill sl ds ρ) m = get ρ j
  | [], [], [], _, _, _, _, e => by simp at e
  | none :: sl, v :: vs, d :: ds, ρ, 0, _, h, e => by simp at e
  | none :: sl, v :: vs, d :: ds, ρ, m + 1, j, h, e => by
    obtain ⟨w, e1, e2, e3⟩ := Args.own (ρ := ρ) (m := m) (j := j) h.2 (by simpa using e)
    exact ⟨w, by simpa using e1, e2, by simpa [fill, get] using e3⟩
  | some j0 :: sl, v :: vs, _ :: ds, ρ, 0, j, h, e => by
    simp at e; subst e
    exact ⟨v, rfl, h.1, rfl⟩
  | some j0 :: sl, v :: vs, _ :: ds, ρ, m + 1, j, h, e => by
    obtain ⟨w, e1, e2, e3⟩ := Args.own (ρ := ρ) (m := m) (j := j) h.2 (by simpa using e)
    exact ⟨w, by simpa using e1, e2, by simpa [fill, get] using e3⟩
end
theorem unfill_len : ∀ (sl : List (Option Nat)) (r ρ : Env), (unfill sl r ρ).length = ρ.length
  | [], _, ρ => by simp [unfill]
  | none :: sl, [], ρ => by simp [unfill]
  | none :: sl, _ :: r, ρ => unfill_len sl r ρ
  | some j :: sl, [], ρ => by simp [unfill]
  | some j :: sl, d :: r, ρ => (unfill_len sl r (put ρ j d)).trans (put_length ρ j d)
theorem unfill_ne : ∀ (sl : List (Option Nat)) (r ρ : Env) (i : Nat), i ∉ slots sl → get (unfill sl r ρ) i = get ρ i
  | [], _, ρ, _, _ => by simp [unfill]
  | none :: sl, [], ρ, _, _ => by simp [unfill]
  | none :: sl, _ :: r, ρ, i, h => unfill_ne sl r ρ i h
  | some j :: sl, [], ρ, _, _ => by simp [unfill]
  | some j :: sl, d :: r, ρ, i, h => by
    have h1 : i ≠ j := fun e => h (by rw [e]; exact List.mem_cons_self)
    exact (unfill_ne sl r (put ρ j d) i fun q => h (List.mem_cons_of_mem _ q)).trans (get_put_ne _ _ _ _ fun e => h1 e.symm)
theorem unfill_at : ∀ (sl : List (Option Nat)) (r ρ : Env) (m j : Nat), (slots sl).Nodup → r.length = sl.length → j < ρ.length → sl[m]? = some (some j) → get (unfill sl r ρ) j = get r m
  | [], _, ρ, m, j, _, _, _, h => by simp at h
  | none :: sl, [], ρ, m, _, _, l, _, _ => by simp at l
  | none :: sl, _ :: r, ρ, 0, _, _, _, _, h => by simp at h
  | none :: sl, _ :: r, ρ, m + 1, j, n, l, b, h => unfill_at sl r ρ m j n (by simpa using l) b (by simpa using h)
  | some j0 :: sl, [], ρ, m, _, _, l, _, _ => by simp at l
  | some j0 :: sl, d :: r, ρ, 0, j, n, l, b, h => by
    simp at h; subst h
    exact (unfill_ne sl r (put ρ j0 d) j0 (List.nodup_cons.mp n).1).trans (get_put_same ρ j0 d b)
  | some j0 :: sl, d :: r, ρ, m + 1, j, n, l, b, h => unfill_at sl r (put ρ j0 d) m j (List.nodup_cons.mp n).2 (by simpa using l) (by rw [put_length]; exact b) (by simpa using h)

section
variable {K : PySem.W.Frag} {W : Wd} {P J : List Nat} {ρ : Env} {σ : St} {Hb H : Hp} {sl : List (Option Nat)} {vs : List V} {ds : Env}
/-- what the callee gets -/
theorem EnvOk.lend (E : EnvOk K W P J ρ σ Hb H) (ar : Args K Hb σ sl vs ds) (hs : ∀ j ∈ slots sl, j ∈ P ∨ j ∈ J) (nd : (slots sl).Nodup) (hl : ∀ j ∈ slots sl, get ρ j ≠ none) :
    EnvOk K ⟨Hb, H, lentAt (ioOf 0 sl) vs (fill sl ds ρ) H, rootAt (ioOf 0 sl) vs⟩ (ioOf 0 sl) [] (fill sl ds ρ) (vs.map some) Hb H where
  sub := E.sub
  stp := Stp.refl _ _ _ _
  len := ar.len
  val := fun i d g n _ => ar.val (fun j e => n ((mem_ioOf sl 0 i).mpr ⟨i, j, by omega, e⟩)) g
  celF := fun i d hi g0 => by
    have hi : i ∈ ioOf 0 sl := hi.elim id (fun q => by cases q)
    obtain ⟨m, j, e0, e⟩ := (mem_ioOf sl 0 i).mp hi
    have e0 : i = m := by omega
    subst e0
    obtain ⟨v, e1, e2, e3⟩ := ar.own (ρ := ρ) e
    have g := g0
    rw [e3] at g
    obtain ⟨p, ep, c, _, f⟩ := E.celF j d (hs j (mem_slots e)) g
    rw [e2] at ep; cases ep
    have ev : vs[i]? = some (.ref p) := by simpa using e1
    exact ⟨p, e1, c, fun _ => ⟨hi, ev⟩, fun a ha => ⟨(f a ha).1, fun _ => .inl ⟨hi, d, p, g0, ev, ha⟩, fun q => by cases q⟩⟩
  sepF := fun i k p q di dk a hi hk gi gk ei ek fi fk => by
    have hi : i ∈ ioOf 0 sl := hi.elim id (fun q => by cases q)
    have hk : k ∈ ioOf 0 sl := hk.elim id (fun q => by cases q)
    obtain ⟨m, j, e0, e⟩ := (mem_ioOf sl 0 i).mp hi
    obtain ⟨m', j', e0', e'⟩ := (mem_ioOf sl 0 k).mp hk
    have e0 : i = m := by omega
    have e0' : k = m' := by omega
    subst e0 e0'
    obtain ⟨v, e1, e2, e3⟩ := ar.own (ρ := ρ) e
    obtain ⟨v', e1', e2', e3'⟩ := ar.own (ρ := ρ) e'
    rw [ei] at e1; cases e1
    rw [ek] at e1'; cases e1'
    have hjj : j = j' := E.sepF j j' p q di dk a (hs j (mem_slots e)) (hs j' (mem_slots e')) (by rw [← e3]; exact gi) (by rw [← e3']; exact gk) e2 e2' fi fk
    subst hjj
    exact slots_inj nd e e'
/-- what comes back -/
theorem EnvOk.given {ρ' : Env} {Hb' H' : Hp} (E : EnvOk K W P J ρ σ Hb H) (ar : Args K Hb σ sl vs ds) (hs : ∀ j ∈ slots sl, j ∈ P ∨ j ∈ J) (nd : (slots sl).Nodup) (hl : ∀ j ∈ slots sl, get ρ j ≠ none)
    (E2 : EnvOk K ⟨Hb, H, lentAt (ioOf 0 sl) vs (fill sl ds ρ) H, rootAt (ioOf 0 sl) vs⟩ (ioOf 0 sl) [] ρ' (vs.map some) Hb' H') (lsl : sl.length = vs.length) : EnvOk K W P J (unfill sl ρ' ρ) σ Hb' H' := by
  have lr : ρ'.length = sl.length := by rw [← E2.len, List.length_map, lsl]
  have bnd : ∀ j ∈ slots sl, j < ρ.length := fun j hj => by
    cases q : get ρ j with
    | none => exact absurd q (hl j hj)
    | some d => exact get_lt q
  have ioj : ∀ {m j : Nat}, sl[m]? = some (some j) → m ∈ ioOf 0 sl := fun {m j} e => (mem_ioOf sl 0 m).mpr ⟨m, j, by omega, e⟩
  -- a lent address, seen from here
  have lentA : ∀ {m a}, lentAt (ioOf 0 sl) vs (fill sl ds ρ) H m a → ∃ j d p, sl[m]? = some (some j) ∧ get ρ j = some d ∧ σ[j]? = some (some (.ref p)) ∧ foot H p d a := fun {m a} ⟨hi, d, p, g, e, ft⟩ => by
    obtain ⟨m', j, e0, em⟩ := (mem_ioOf sl 0 m).mp hi
    have e0 : m = m' := by omega
    subst e0
    obtain ⟨v, e1, e2, e3⟩ := ar.own (ρ := ρ) em
    have ev : v = .ref p := by
      rw [List.getElem?_map, e] at e1
      exact (Option.some.inj (Option.some.inj e1)).symm
    subst ev
    exact ⟨j, d, p, em, by rw [← e3]; exact g, e2, ft⟩
  -- the cells that were not lent stand as they stood
  have keep : ∀ {i d p}, (i ∈ P ∨ i ∈ J) → i ∉ slots sl → get ρ i = some d → σ[i]? = some (some (.ref p)) → ∀ a, foot H p d a → ∃ o, H a = some o ∧ H' a = some o ∧ Hb' a = none := fun {i d p} hi hm g e a ha => by
    obtain ⟨p', e', c, _, f⟩ := E.celF i d hi g
    rw [e] at e'; cases e'
    obtain ⟨o, ho, nt⟩ := c.footS ha
    refine ⟨o, ho, E2.stp.own (f a ha).1 ho fun k lk => ?_, E2.stp.nb (f a ha).1 ho nt⟩
    obtain ⟨j, dj, pj, em, gj, ej, ftj⟩ := lentA lk
    have := E.sepF i j p pj d dj a hi (hs j (mem_slots em)) g gj e ej ha ftj
    exact hm (this ▸ mem_slots em)
  -- those that were: where they stand now
  have back : ∀ {i m d p}, sl[m]? = some (some i) → get ρ' m = some d → (vs.map some)[m]? = some (some (V.ref p)) → ∀ a, foot H' p d a → Hb' a = none ∧ ((∃ d0, get ρ i = some d0 ∧ foot H p d0 a) ∨ H a = none) := fun {i m d p} em g e a ha => by
    obtain ⟨p', e', _, _, f⟩ := E2.celF m d (.inl (ioj em)) g
    rw [e] at e'; cases e'
    refine ⟨(f a ha).1, ((f a ha).2.1 (ioj em)).imp (fun lk => ?_) id⟩
    obtain ⟨hi, d1, p1, g1, e1, ft⟩ := lk
    obtain ⟨v, e2, e3, e4⟩ := ar.own (ρ := ρ) em
    rw [List.getElem?_map, e1] at e
    cases e
    exact ⟨d1, by rw [← e4]; exact g1, ft⟩
  have at_ : ∀ {i m p}, sl[m]? = some (some i) → σ[i]? = some (some (V.ref p)) → (vs.map some)[m]? = some (some (V.ref p)) := fun {i m p} em e => by
    obtain ⟨v, e1, e2, _⟩ := ar.own (ρ := ρ) em
    rw [e] at e2; cases e2
    exact e1
  refine ⟨E2.sub, E.stp.trans E2.stp fun i p lk => ?_, by rw [unfill_len]; exact E.len, fun i d g nP nJ => ?_, fun i d hi g => ?_, fun i k p q di dk a hi hk gi gk ei ek fi fk => ?_⟩
  · obtain ⟨j, d, q, em, g, e, ft⟩ := lentA lk
    exact E.ownedW j p ⟨hs j (mem_slots em), d, q, g, e, ft⟩
  · have ni : i ∉ slots sl := fun q => (hs i q).elim nP nJ
    rw [unfill_ne _ _ _ _ ni] at g
    obtain ⟨v, e, is⟩ := E.val i d g nP nJ
    exact ⟨v, e, is.mono E2.stp.hb⟩
  · by_cases hm : i ∈ slots sl
    · obtain ⟨m, em⟩ := of_slots hm
      rw [unfill_at sl ρ' ρ m i nd lr (bnd i hm) em] at g
      obtain ⟨p, ep, c, _, f⟩ := E2.celF m d (.inl (ioj em)) g
      obtain ⟨v, e1, e2, _⟩ := ar.own (ρ := ρ) em
      rw [ep] at e1; cases e1
      cases q : get ρ i with
      | none => exact absurd q (hl i hm)
      | some d0 =>
        obtain ⟨p', ep', _, h1, f0⟩ := E.celF i d0 hi q
        rw [e2] at ep'; cases ep'
        refine ⟨p, e2, c, h1, fun a ha => ?_⟩
        obtain ⟨nb, r⟩ := back em g ep a ha
        rcases r with ⟨d1, g1, ft⟩ | r
        · rw [q] at g1; cases g1
          exact ⟨nb, (f0 a ft).2⟩
        · exact ⟨nb, fun _ => .inr (E.stp.al a r), fun _ => E.stp.al a r⟩
    · rw [unfill_ne _ _ _ _ hm] at g
      obtain ⟨p, ep, c, h1, f⟩ := E.celF i d hi g
      have kp := keep hi hm g ep
      have rt : H' p = H p := by
        obtain ⟨o, e1, e2, _⟩ := kp p foot.root
        rw [e1, e2]
      refine ⟨p, ep, c.mono E2.stp.hb fun a o ha ho => ?_, h1, fun a ha => ?_⟩
      · obtain ⟨o', e1, e2, _⟩ := kp a ha
        rw [ho] at e1; cases e1
        exact e2
      · have ha := foot.cong rt ha
        obtain ⟨_, _, _, nb⟩ := kp a ha
        exact ⟨nb, (f a ha).2⟩
  · have old : ∀ {i d p}, (i ∈ P ∨ i ∈ J) → i ∉ slots sl → get (unfill sl ρ' ρ) i = some d → σ[i]? = some (some (.ref p)) → ∀ a, foot H' p d a → (∃ o, H a = some o) ∧ get ρ i = some d ∧ foot H p d a := fun {i d p} hi hm g e a ha => by
      rw [unfill_ne _ _ _ _ hm] at g
      have kp := keep hi hm g e
      have rt : H' p = H p := by
        obtain ⟨o, e1, e2, _⟩ := kp p foot.root
        rw [e1, e2]
      have ha := foot.cong rt ha
      obtain ⟨o, e1, _⟩ := kp a ha
      exact ⟨⟨o, e1⟩, g, ha⟩
    by_cases hmi : i ∈ slots sl
    · obtain ⟨m, em⟩ := of_slots hmi
      rw [unfill_at sl ρ' ρ m i nd lr (bnd i hmi) em] at gi
      have b1 := back em gi (at_ em ei) a fi
      by_cases hmk : k ∈ slots sl
      · obtain ⟨m', em'⟩ := of_slots hmk
        rw [unfill_at sl ρ' ρ m' k nd lr (bnd k hmk) em'] at gk
        have : m = m' := E2.sepF m m' p q di dk a (.inl (ioj em)) (.inl (ioj em')) gi gk (at_ em ei) (at_ em' ek) fi fk
        subst this
        rw [em] at em'; cases em'; rfl
      · obtain ⟨⟨o, ho⟩, g0, ft⟩ := old hk hmk gk ek a fk
        rcases b1.2 with ⟨d0, g1, ft1⟩ | r
        · exact E.sepF i k p q d0 dk a hi hk g1 g0 ei ek ft1 ft
        · rw [ho] at r; cases r
    · obtain ⟨⟨o, ho⟩, g0, ft⟩ := old hi hmi gi ei a fi
      by_cases hmk : k ∈ slots sl
      · obtain ⟨m', em'⟩ := of_slots hmk
        rw [unfill_at sl ρ' ρ m' k nd lr (bnd k hmk) em'] at gk
        rcases (back em' gk (at_ em' ek) a fk).2 with ⟨d0, g1, ft1⟩ | r
        · exact E.sepF i k p q di d0 a hi hk g0 g1 ei ek ft ft1
        · rw [ho] at r; cases r
      · obtain ⟨_, g0', ft'⟩ := old hk hmk gk ek a fk
        exact E.sepF i k p q di dk a hi hk g0 g0' ei ek ft ft'
/-- a new address of the callee is none of the caller's -/
theorem EnvOk.given_un {ρ' : Env} {Hb' H' : Hp} (E : EnvOk K W P J ρ σ Hb H) (ar : Args K Hb σ sl vs ds) (hs : ∀ j ∈ slots sl, j ∈ P ∨ j ∈ J) (nd : (slots sl).Nodup) (hl : ∀ j ∈ slots sl, get ρ j ≠ none)
    (E2 : EnvOk K ⟨Hb, H, lentAt (ioOf 0 sl) vs (fill sl ds ρ) H, rootAt (ioOf 0 sl) vs⟩ (ioOf 0 sl) [] ρ' (vs.map some) Hb' H') (lsl : sl.length = vs.length) {a : Addr} (na : H a = none)
    (un : ∀ m dm q, m ∈ ioOf 0 sl → get ρ' m = some dm → (vs.map some)[m]? = some (some (V.ref q)) → ¬ foot H' q dm a) : ∀ i di q, (i ∈ P ∨ i ∈ J) → get (unfill sl ρ' ρ) i = some di → σ[i]? = some (some (V.ref q)) → ¬ foot H' q di a := fun i di q hi g e fa => by
  have lr : ρ'.length = sl.length := by rw [← E2.len, List.length_map, lsl]
  by_cases hm : i ∈ slots sl
  · obtain ⟨m, em⟩ := of_slots hm
    have bnd : i < ρ.length := by
      cases q : get ρ i with
      | none => exact absurd q (hl i hm)
      | some d => exact get_lt q
    rw [unfill_at sl ρ' ρ m i nd lr bnd em] at g
    obtain ⟨v, e1, e2, _⟩ := ar.own (ρ := ρ) em
    rw [e] at e2; cases e2
    exact un m di q ((mem_ioOf sl 0 m).mpr ⟨m, i, by omega, em⟩) g e1 fa
  · have E3 := E.given ar hs nd hl E2 lsl
    rw [unfill_ne _ _ _ _ hm] at g
    obtain ⟨p', e', c, _, f⟩ := E.celF i di hi g
    rw [e] at e'; cases e'
    -- its root stands as it stood
    have kp : ∀ b, foot H q di b → ∃ o, H b = some o ∧ H' b = some o := fun b hb => by
      obtain ⟨o, ho, nt⟩ := c.footS hb
      refine ⟨o, ho, E2.stp.own (f b hb).1 ho fun k lk => ?_⟩
      obtain ⟨hk, d, p, g1, e1, ft⟩ := lk
      obtain ⟨m', j, e0, em⟩ := (mem_ioOf sl 0 k).mp hk
      have e0 : k = m' := by omega
      subst e0
      obtain ⟨v, e2, e3, e4⟩ := ar.own (ρ := ρ) em
      have ev : v = .ref p := by
        rw [List.getElem?_map, e1] at e2
        exact (Option.some.inj (Option.some.inj e2)).symm
      subst ev
      have := E.sepF i j q p di d b hi (hs j (mem_slots em)) g (by rw [← e4]; exact g1) e e3 hb ft
      exact hm (this ▸ mem_slots em)
    obtain ⟨o, e1, e2⟩ := kp q foot.root
    have fa := foot.cong (H := H) (by rw [e1, e2]) fa
    obtain ⟨o', e1', _⟩ := kp a fa
    rw [na] at e1'; cases e1'
end
theorem lentOk_of : ∀ {sl : List (Option Nat)} {ρ : Env}, lentOk sl ρ → ∀ j ∈ slots sl, get ρ j ≠ none
  | none :: sl, ρ, h, j, hj => lentOk_of (sl := sl) h j hj
  | some j0 :: sl, ρ, h, j, hj => by
    rcases List.mem_cons.mp (show j ∈ j0 :: slots sl from hj) with e | hj
    · subst e
      intro q
      have h1 := h.1
      rw [q] at h1
      exact h1
    · exact lentOk_of h.2 j hj
  | [], _, _, _, hj => by cases hj
theorem Args.slLen {K : PySem.W.Frag} {Hb : Hp} {σ : St} : ∀ {sl : List (Option Nat)} {vs : List V} {ds : Env}, Args K Hb σ sl vs ds → sl.length = vs.length
  | [], [], [], _ => rfl
  | none :: sl, v :: vs, d :: ds, h => congrArg (· + 1) (Args.slLen h.2)
  | some j :: sl, v :: vs, _ :: ds, h => congrArg (· + 1) (Args.slLen h.2)

/-- what stands behind a call: simp -dsimp does not look into it -/
inductive Lock (p : Post) (x : XP) : Type | mk
def callD (G : DFn) (vs : Env) (post : Post) (xp : XP) (_ : Lock post xp) : Prop := G vs post xp
/-- the call, over data -/
def fCall (G : DFn) (sl : List (Option Nat)) (A : Env → (Env → Env → Prop) → XP → Prop) : FE := fun ρ post xp => A ρ (fun ds ρ1 => lentOk sl ρ1 ∧ callD G (fill sl ds ρ1) (fun d r => post d (unfill sl r ρ1)) (fun c r => xp c (unfill sl r ρ1)) .mk) xp
@[simp ↓] theorem fCall_ap (G : DFn) (sl : List (Option Nat)) (A : Env → (Env → Env → Prop) → XP → Prop) (ρ : Env) (post : Post) (xp : XP) : fCall G sl A ρ post xp = (A ρ (fun ds ρ1 => lentOk sl ρ1 ∧ callD G (fill sl ds ρ1) (fun d r => post d (unfill sl r ρ1)) (fun c r => xp c (unfill sl r ρ1)) .mk) xp) := (rfl)

/-- release: of the slots in I those in J stay owned -/
theorem EnvOk.drop {K : PySem.W.Frag} {W : Wd} {P I J : List Nat} {ρ : Env} {σ : St} {Hb H : Hp} (E : EnvOk K W P I ρ σ Hb H) (hJ : ∀ j ∈ J, j ∈ I) (hPI : ∀ j ∈ I, j ∉ P) : ∃ Hb', EnvOk K W P J ρ σ Hb' H ∧ Sub Hb Hb' := by
  classical
  let rel : Addr → Prop := fun a => ∃ i d p, i ∈ I ∧ i ∉ J ∧ get ρ i = some d ∧ σ[i]? = some (some (.ref p)) ∧ foot H p d a
  let Hb' : Hp := fun a => if rel a then H a else Hb a
  have hpos : ∀ {a}, rel a → Hb' a = H a := fun {a} h => if_pos h
  have hneg : ∀ {a}, ¬ rel a → Hb' a = Hb a := fun {a} h => if_neg h
  have relN : ∀ a, rel a → Hb a = none ∧ W.H a = none := fun a ⟨i, d, p, hi, _, g, e, ft⟩ => by
    obtain ⟨p', ep, _, _, f⟩ := E.celF i d (.inr hi) g
    rw [e] at ep; cases ep
    exact ⟨(f a ft).1, (f a ft).2.2 hi⟩
  have sb : Sub Hb Hb' := fun a o e => by
    by_cases h : rel a
    · rw [(relN a h).1] at e; cases e
    · rw [hneg h]; exact ⟨_, e, .inl rfl⟩
  have sH : Sub Hb' H := fun a o e => by
    by_cases h : rel a
    · rw [hpos h] at e; exact ⟨_, e, .inl rfl⟩
    · rw [hneg h] at e; exact E.sub a o e
  refine ⟨Hb', ⟨sH, ⟨E.stp.hb.trans sb, E.stp.fr, fun a o e => ?_, E.stp.al, E.stp.tp⟩, E.len, fun i d g nP nJ => ?_, fun i d hi g => ?_, fun i j p q di dj a hi hj => E.sepF i j p q di dj a (hi.imp id (hJ i)) (hj.imp id (hJ j))⟩, sb⟩
  · by_cases h : rel a
    · exact .inr (.inl (relN a h).2)
    · rw [hneg h] at e; exact E.stp.fs a o e
  · by_cases hI : i ∈ I
    · obtain ⟨p, ep, c, _, _⟩ := E.celF i d (.inr hI) g
      exact ⟨_, ep, (c.mono sb (H' := Hb') fun a o ha e => by rw [hpos ⟨i, d, p, hI, nJ, g, ep, ha⟩]; exact e).is (Sub.refl _)⟩
    · obtain ⟨v, e, is⟩ := E.val i d g nP hI
      exact ⟨v, e, is.mono sb⟩
  · have hi' : i ∈ P ∨ i ∈ I := hi.imp id (hJ i)
    obtain ⟨p, ep, c, h1, f⟩ := E.celF i d hi' g
    refine ⟨p, ep, c.mono sb fun a o _ e => e, h1, fun a ha => ?_⟩
    have nr : ¬ rel a := fun ⟨k, dk, q, hk, hkJ, gk, ek, fk⟩ => by
      have e := E.sepF i k p q d dk a hi' (.inr hk) g gk ep ek ha fk
      subst e
      rcases hi with hi | hi
      · exact hPI i hk hi
      · exact hkJ hi
    exact ⟨by rw [hneg nr]; exact (f a ha).1, (f a ha).2.1, fun q => (f a ha).2.2 (hJ i q)⟩

section
variable {X : Cx} {Wx : WX} {P I J J1 : List Nat} {e a b c : Expr} {es : List Expr} {F : FE} {A : Env → (Env → Env → Prop) → XP → Prop} {sl : List (Option Nat)} {pos p : Pos} {k n : Nat} {f : Addr} {fd : FuncData} {ps : List Str} {G : DFn} {x : Str} {io : List Nat} {tA : TA}
/-- a call's reading, by the promise -/
theorem call_core {t : TA} (tk : Takes X Wx) (hio : ioOf 0 sl = io) (hsl : ∀ j ∈ slots sl, j ∈ P ∨ j ∈ J) (nd : (slots sl).Nodup) (hPJ : ∀ j ∈ J, j ∉ P) (hn : sl.length = n)
    (ka : ∀ (W : Wd) (ρ : Env) (σ : St) (Hb H : Hp) (Q : List V → Hp → Prop) (post : Env → Env → Prop) (xp : XP), EnvOk X.K W P I ρ σ Hb H → A ρ post xp → XOk X Wx W P σ xp →
    (∀ ds ρ' vs Hb' H', post ds ρ' → EnvOk X.K W P J ρ' σ Hb' H' → Sub Hb Hb' → Args X.K Hb' σ sl vs ds → Q vs H') → t σ H Q) :
    ∀ (W : Wd) (ρ : Env) (σ : St) (Hb H : Hp) (Q : VK) (post : Post) (xp : XP), EnvOk X.K W P I ρ σ Hb H → fCall G sl A ρ post xp → XOk X Wx W P σ xp →
    (∀ d ρ' v Hb' H', post d ρ' → EnvOk X.K W P J ρ' σ Hb' H' → Sub Hb Hb' → Is X.K Hb' v d → Q v H') → t σ H fun vs H1 => spD X.K n io G vs H1 Q (WE Wx σ) := by
  intro W ρ σ Hb H Q post xp E h x q
  subst hio
  refine ka W ρ σ Hb H _ _ xp E h x fun ds ρ1 vs Hb1 H1 f1 E1 s1 ar => ?_
  obtain ⟨lo, g⟩ := f1
  have hl := lentOk_of lo
  refine ⟨by rw [← ar.slLen]; exact hn, fill sl ds ρ1, Hb1, _, _, E1.lend ar hsl nd hl, g, fun d ρ' v Hb' H' p1 E2 is => ?_, fun c ρ' cls dx Hb' H' p1 E2 xi => ?_⟩
  · exact q _ _ _ _ _ p1 (E1.given ar hsl nd hl E2 ar.slLen) (s1.trans E2.stp.hb) is
  · have E3 := E1.given ar hsl nd hl E2 ar.slLen
    obtain ⟨Hb3, E4, s4⟩ := E3.drop (J := []) (fun j q => by cases q) hPJ
    refine x c _ cls dx Hb3 H' p1 E4 ?_
    obtain ⟨e, r | ⟨d, us, e1, e2, e3, e4⟩⟩ := xi
    · exact ⟨e, .inl r⟩
    · exact ⟨e, .inr ⟨d, us, e1, s4.at e2, e3, e4.mono s4⟩⟩
theorem de_call (Fn : FnOk X.prog X.w X.K X.mg X.base (L2.CX X.prog X.w) k f fd ps (spD X.K n io G)) (hr : Room k X.A) (hm : X.mg x = some (.ref f)) (hk : PySem.W.keepIn X.K (.ref f) = true) (hb : Binds X.K fd ps []) (tk : Takes X Wx)
    (ha : DO X Wx P I (e :: es) tA A sl J) (hio : ioOf 0 sl = io := by decide) (hsl : ∀ j ∈ slots sl, j ∈ P ∨ j ∈ J := by decide) (nd : (slots sl).Nodup := by decide) (hPJ : ∀ j ∈ J, j ∉ P := by decide) (hn : sl.length = n := by decide)
    (hg : Gl X x := by rfl) (hdb : (x == ("__debug__" : Str)) = false := by decide) (he : starEach (e :: es) X.env = (false, eval e X.env) :: starEach es X.env := by rfl) (hpl : (backTo pos (starEach es X.env)).any (·.1) = false := by rfl) :
    DE X Wx P I (.Call (.Name x p) (e :: es) [] pos) (tCallS (spD X.K n io G) (WE Wx) tA) (fCall G sl A) J := by
  obtain ⟨pa, ka⟩ := ha
  exact de_of (pe_callS Fn hr hg hm hk hb (fun σ => passAt tk σ) pa hdb he hpl) (call_core tk hio hsl nd hPJ hn ka)
end
end DL

/-! DL4: statements over data. -/
namespace DL
open PySem L2
open PyProof.Rows hiding St

structure SPo where
  nx : Env → Prop
  rt : Post
  bk : Env → Prop
  ct : Env → Prop
  ex : XP
abbrev FS := Env → SPo → Prop
def SPo.sq (S : SPo) (n : Env → Prop) : SPo := { nx := n, rt := S.rt, bk := S.bk, ct := S.ct, ex := S.ex }
def SPo.lp (S : SPo) (n : Env → Prop) : SPo := { nx := n, rt := S.rt, bk := S.nx, ct := n, ex := S.ex }
@[simp ↓] theorem sq_nx (S : SPo) (n : Env → Prop) : (S.sq n).nx = n := (rfl)
@[simp ↓] theorem sq_rt (S : SPo) (n : Env → Prop) : (S.sq n).rt = S.rt := (rfl)
@[simp ↓] theorem sq_bk (S : SPo) (n : Env → Prop) : (S.sq n).bk = S.bk := (rfl)
@[simp ↓] theorem sq_ct (S : SPo) (n : Env → Prop) : (S.sq n).ct = S.ct := (rfl)
@[simp ↓] theorem sq_ex (S : SPo) (n : Env → Prop) : (S.sq n).ex = S.ex := (rfl)
@[simp ↓] theorem lp_nx (S : SPo) (n : Env → Prop) : (S.lp n).nx = n := (rfl)
@[simp ↓] theorem lp_rt (S : SPo) (n : Env → Prop) : (S.lp n).rt = S.rt := (rfl)
@[simp ↓] theorem lp_bk (S : SPo) (n : Env → Prop) : (S.lp n).bk = S.nx := (rfl)
@[simp ↓] theorem lp_ct (S : SPo) (n : Env → Prop) : (S.lp n).ct = n := (rfl)
@[simp ↓] theorem lp_ex (S : SPo) (n : Env → Prop) : (S.lp n).ex = S.ex := (rfl)
structure SOk (X : Cx) (Wx : WX) (P L J : List Nat) (W : Wd) (Hb : Hp) (D : Ends) (S : SPo) : Prop where
  nx : ∀ ρ' σ' Hb' H', S.nx ρ' → EnvOk X.K W P J ρ' σ' Hb' H' → Sub Hb Hb' → D.nx σ' H'
  rt : ∀ d ρ' σ' v Hb' H', S.rt d ρ' → EnvOk X.K W P [] ρ' σ' Hb' H' → Is X.K Hb' v d → D.rt v H'
  bk : ∀ ρ' σ' Hb' H', S.bk ρ' → EnvOk X.K W P L ρ' σ' Hb' H' → Sub Hb Hb' → D.bk σ' H'
  ct : ∀ ρ' σ' Hb' H', S.ct ρ' → EnvOk X.K W P L ρ' σ' Hb' H' → Sub Hb Hb' → D.ct σ' H'
  ex : ∀ c ρ' cls dx σ' Hb' H', S.ex c ρ' → EnvOk X.K W P [] ρ' σ' Hb' H' → XIs X.K Hb' cls dx c → Wx cls dx σ' H'
structure DS (X : Cx) (Wx : WX) (P L I : List Nat) (st : Stmt) (F : FS) (J : List Nat) : Prop where
  run : ∃ t, PS X st t ∧ ∀ (W : Wd) (ρ : Env) (σ : St) (Hb H : Hp) (D : Ends) (S : SPo), EnvOk X.K W P I ρ σ Hb H → F ρ S → SOk X Wx P L J W Hb D S → t D σ H
structure DSs (X : Cx) (Wx : WX) (P L I : List Nat) (st : List Stmt) (F : FS) (J : List Nat) : Prop where
  run : ∃ t, PSs X st t ∧ ∀ (W : Wd) (ρ : Env) (σ : St) (Hb H : Hp) (D : Ends) (S : SPo), EnvOk X.K W P I ρ σ Hb H → F ρ S → SOk X Wx P L J W Hb D S → t D σ H
theorem SOk.from {X : Cx} {Wx : WX} {P L J : List Nat} {W : Wd} {Hb Hb1 : Hp} {D : Ends} {S : SPo} (h : SOk X Wx P L J W Hb D S) (s : Sub Hb Hb1) : SOk X Wx P L J W Hb1 D S :=
  ⟨fun ρ' σ' Hb' H' a E t => h.nx ρ' σ' Hb' H' a E (s.trans t), h.rt, fun ρ' σ' Hb' H' a E t => h.bk ρ' σ' Hb' H' a E (s.trans t), fun ρ' σ' Hb' H' a E t => h.ct ρ' σ' Hb' H' a E (s.trans t), h.ex⟩
theorem SOk.xok {X : Cx} {Wx : WX} {P L J : List Nat} {W : Wd} {Hb : Hp} {D : Ends} {S : SPo} (h : SOk X Wx P L J W Hb D S) (σ : St) : XOk X Wx W P σ S.ex := fun c ρ' cls dx Hb' H' e E x => h.ex c ρ' cls dx σ Hb' H' e E x

/-! ### readings -/
def fNext : FS := fun ρ S => S.nx ρ
@[simp ↓] theorem fNext_ap (ρ : Env) (S : SPo) : fNext  ρ S = (S.nx ρ) := (rfl)
def fSeq (A B : FS) : FS := fun ρ S => A ρ (S.sq fun ρ1 => B ρ1 S)
@[simp ↓] theorem fSeq_ap (A B : FS) (ρ : Env) (S : SPo) : fSeq A B ρ S = (A ρ (S.sq fun ρ1 => B ρ1 S)) := (rfl)
def fDrop (F : FE) : FS := fun ρ S => F ρ (fun _ ρ1 => S.nx ρ1) S.ex
@[simp ↓] theorem fDrop_ap (F : FE) (ρ : Env) (S : SPo) : fDrop F ρ S = (F ρ (fun _ ρ1 => S.nx ρ1) S.ex) := (rfl)
def fRet (F : FE) : FS := fun ρ S => F ρ S.rt S.ex
@[simp ↓] theorem fRet_ap (F : FE) (ρ : Env) (S : SPo) : fRet F ρ S = (F ρ S.rt S.ex) := (rfl)
def fRetN : FS := fun ρ S => S.rt .non ρ
@[simp ↓] theorem fRetN_ap (ρ : Env) (S : SPo) : fRetN  ρ S = (S.rt .non ρ) := (rfl)
def fSet (i : Nat) (F : FE) : FS := fun ρ S => F ρ (fun d ρ1 => S.nx (put ρ1 i (some d))) S.ex
@[simp ↓] theorem fSet_ap (i : Nat) (F : FE) (ρ : Env) (S : SPo) : fSet i F ρ S = (F ρ (fun d ρ1 => S.nx (put ρ1 i (some d))) S.ex) := (rfl)
def fIfS (T : FT) (A B : FS) : FS := fun ρ S => T ρ (fun b ρ1 => if b = true then A ρ1 S else B ρ1 S) S.ex
@[simp ↓] theorem fIfS_ap (T : FT) (A B : FS) (ρ : Env) (S : SPo) : fIfS T A B ρ S = (T ρ (fun b ρ1 => if b = true then A ρ1 S else B ρ1 S) S.ex) := (rfl)
def fBreak : FS := fun ρ S => S.bk ρ
@[simp ↓] theorem fBreak_ap (ρ : Env) (S : SPo) : fBreak  ρ S = (S.bk ρ) := (rfl)
def fCont : FS := fun ρ S => S.ct ρ
@[simp ↓] theorem fCont_ap (ρ : Env) (S : SPo) : fCont  ρ S = (S.ct ρ) := (rfl)
abbrev FG := D → Env → (Env → Prop) → Prop
def gNm (i : Nat) : FG := fun d ρ k => k (put ρ i (some d))
@[simp ↓] theorem gNm_ap (i : Nat) (d : D) (ρ : Env) (k : Env → Prop) : gNm i d ρ k = (k (put ρ i (some d))) := (rfl)
abbrev FGs := List D → Env → (Env → Prop) → Prop
def gNl : FGs
  | [], ρ, k => k ρ
  | _, _, _ => False
def gCn (g : FG) (r : FGs) : FGs
  | d :: ds, ρ, k => g d ρ fun ρ1 => r ds ρ1 k
  | _, _, _ => False
def gTp (r : FGs) : FG
  | .tup ds, ρ, k => r ds ρ k
  | .ktp ds, ρ, k => r ds ρ k
  | _, _, _ => False
@[simp ↓] theorem gNl_ap (ρ k) : gNl [] ρ k = k ρ := (rfl)
@[simp ↓] theorem gCn_ap (g : FG) (r : FGs) (d : D) (ds : List D) (ρ k) : gCn g r (d :: ds) ρ k = g d ρ fun ρ1 => r ds ρ1 k := (rfl)
@[simp ↓] theorem gTp_tup (r : FGs) (ds : List D) (ρ k) : gTp r (.tup ds) ρ k = r ds ρ k := (rfl)
@[simp ↓] theorem gTp_ktp (r : FGs) (ds : List D) (ρ k) : gTp r (.ktp ds) ρ k = r ds ρ k := (rfl)
def fAsg (g : FG) (F : FE) : FS := fun ρ S => F ρ (fun d ρ1 => g d ρ1 S.nx) S.ex
@[simp ↓] theorem fAsg_ap (g : FG) (F : FE) (ρ : Env) (S : SPo) : fAsg g F ρ S = (F ρ (fun d ρ1 => g d ρ1 S.nx) S.ex) := (rfl)

/-- assigning a frozen value to a slot that owns nothing -/
theorem EnvOk.set {K : PySem.W.Frag} {W : Wd} {P I : List Nat} {ρ : Env} {σ : St} {Hb H : Hp} {i : Nat} {v : V} {d : D} (E : EnvOk K W P I ρ σ Hb H) (h : Is K Hb v d) (hP : i ∉ P) (hI : i ∉ I) : EnvOk K W P I (put ρ i (some d)) (σ.set i (some v)) Hb H where
  sub := E.sub
  stp := E.stp
  len := by rw [List.length_set, put_length]; exact E.len
  val := fun j e g nP nI => by
    rcases get_put g with ⟨rfl, q⟩ | ⟨hn, q⟩
    · cases q
      have hl : j < σ.length := by
        have := get_lt g
        rw [put_length] at this
        rw [E.len]; exact this
      exact ⟨v, by rw [List.getElem?_set_self hl], h⟩
    · obtain ⟨w, e1, e2⟩ := E.val j e q nP nI
      exact ⟨w, by rw [List.getElem?_set_ne (Ne.symm hn)]; exact e1, e2⟩
  celF := fun j e hj g => by
    have hn : j ≠ i := fun q => by subst q; exact hj.elim hP hI
    rw [get_put_ne _ _ _ _ (Ne.symm hn)] at g
    obtain ⟨p, e1, r⟩ := E.celF j e hj g
    exact ⟨p, by rw [List.getElem?_set_ne (Ne.symm hn)]; exact e1, r⟩
  sepF := fun j k p q dj dk a hj hk gj gk ej ek => by
    have nj : j ≠ i := fun q => by subst q; exact hj.elim hP hI
    have nk : k ≠ i := fun q => by subst q; exact hk.elim hP hI
    rw [get_put_ne _ _ _ _ (Ne.symm nj)] at gj
    rw [get_put_ne _ _ _ _ (Ne.symm nk)] at gk
    rw [List.getElem?_set_ne (Ne.symm nj)] at ej
    rw [List.getElem?_set_ne (Ne.symm nk)] at ek
    exact E.sepF j k p q dj dk a hj hk gj gk ej ek

/-- only the slots in ts differ -/
def Off (ts : List Nat) (σ σ' : St) : Prop := σ'.length = σ.length ∧ ∀ i, i ∉ ts → σ'[i]? = σ[i]?
theorem Off.refl (ts : List Nat) (σ : St) : Off ts σ σ := ⟨rfl, fun _ _ => rfl⟩
theorem Off.trans {ts us : List Nat} {σ σ1 σ2 : St} (a : Off ts σ σ1) (b : Off us σ1 σ2) : Off (ts ++ us) σ σ2 :=
  ⟨b.1.trans a.1, fun i h => (b.2 i fun q => h (List.mem_append_right _ q)).trans (a.2 i fun q => h (List.mem_append_left _ q))⟩
structure DG (X : Cx) (P I : List Nat) (tg : Expr) (ts : List Nat) (t : TG) (g : FG) : Prop where
  pe : PG X tg t
  ev : ∀ (W : Wd) (ρ : Env) (σ : St) (Hb H : Hp) (v : V) (d : D) (Q : St → Hp → Prop) (k : Env → Prop), EnvOk X.K W P I ρ σ Hb H → Is X.K Hb v d → g d ρ k →
    (∀ ρ' σ', k ρ' → EnvOk X.K W P I ρ' σ' Hb H → Off ts σ σ' → Q σ' H) → t v σ H Q
structure DGs (X : Cx) (P I : List Nat) (tg : List Expr) (ts : List Nat) (t : TGs) (g : FGs) : Prop where
  pe : PGs X tg t
  ev : ∀ (W : Wd) (ρ : Env) (σ : St) (Hb H : Hp) (vs : List V) (ds : List D) (Q : St → Hp → Prop) (k : Env → Prop), EnvOk X.K W P I ρ σ Hb H → IsL X.K Hb vs ds → g ds ρ k →
    (∀ ρ' σ', k ρ' → EnvOk X.K W P I ρ' σ' Hb H → Off ts σ σ' → Q σ' H) → t vs σ H Q
section
variable {X : Cx} {Wx : WX} {P L I J J1 J2 : List Nat} {e tg c : Expr} {es : List Expr} {st : Stmt} {rest A B : List Stmt} {F : FE} {T : FT} {Fa Fb : FS} {g : FG} {r : FGs} {pos pos' : Pos} {te : TE} {tt : TT} {tA : TA} {tg1 : TG} {tgs : TGs}
theorem dg_name (i : Nat) {x : Str} (hN : X.N.Nodup) (hi : X.N[i]? = some x := by rfl) (hx : Loc X.env.scope x := by first | exact Or.inl rfl | exact Or.inr rfl) (hf : X.fn x = true ∨ X.env.scope.names.lookup x = some .local := by first | exact .inl rfl | exact .inr rfl | assumption)
    (hP : i ∉ P := by decide) (hI : i ∉ I := by decide) : DG X P I (.Name x pos) [i] (gName i) (gNm i) :=
  ⟨pg_name hN hi hx hf, fun W ρ σ Hb H v d Q k E is f q => q _ _ f (E.set is hP hI) ⟨List.length_set, fun j hj => by rw [List.getElem?_set_ne (fun e => hj (by rw [e]; exact List.mem_cons_self))]⟩⟩
theorem dgs_nil : DGs X P I [] [] gNil gNl := ⟨pgs_nil, fun W ρ σ Hb H vs ds Q k E is f q => by
  cases is with
  | nil => exact ⟨rfl, q _ _ f E (Off.refl _ _)⟩
  | cons a l => exact f.elim⟩
theorem dgs_cons {t1 t2 : List Nat} (h1 : DG X P I e t1 tg1 g) (h2 : DGs X P I es t2 tgs r) (hs : (assignEach (e :: es) X.env).map (·.2) = assign e X.env :: (assignEach es X.env).map (·.2) := by rfl) : DGs X P I (e :: es) (t1 ++ t2) (gCons tg1 tgs) (gCn g r) := by
  obtain ⟨p1, k1⟩ := h1
  obtain ⟨p2, k2⟩ := h2
  refine ⟨pgs_cons p1 p2 hs, fun W ρ σ Hb H vs ds Q k E is f q => ?_⟩
  cases is with
  | nil => exact f.elim
  | cons a l => exact ⟨_, _, rfl, k1 W ρ σ Hb H _ _ _ _ E a f fun ρ1 σ1 f1 E1 o1 => k2 W ρ1 σ1 Hb H _ _ _ _ E1 l f1 fun ρ2 σ2 f2 E2 o2 => q ρ2 σ2 f2 E2 (o1.trans o2)⟩
theorem dg_tup {k : Nat} {n : Nat} {ts : List Nat} (hc : X.calm = true) (h : DGs X P I es ts tgs r) (hlen : ∀ ds ρ k, r ds ρ k → ds.length = n)
    (hn : (assignEach es X.env).length = n := by rfl) (hst : (assignEach es X.env).findIdx? (·.1) = none := by rfl) : DG X P I (.Tuple es k pos) ts (gTup X.K n tgs) (gTp r) := by
  obtain ⟨p, kk⟩ := h
  refine ⟨pg_tup hc p hn hst, fun W ρ σ Hb H v d Q k E is f q => ?_⟩
  cases d <;> first | exact f.elim | skip
  · obtain ⟨a, vs, rfl, h, l⟩ := is_tupD is rfl
    exact ⟨a, vs, rfl, E.sub.sqT h, by rw [l.length]; exact hlen _ _ _ f, kk W ρ σ Hb H vs _ Q k E l f q⟩
  · obtain ⟨a, vs, rfl, h, l⟩ := is_tupD is rfl
    exact ⟨a, vs, rfl, E.sub.sqT h, by rw [l.length]; exact hlen _ _ _ f, kk W ρ σ Hb H vs _ Q k E l f q⟩

theorem ds_weak (h : DS X Wx P L I st Fa J) (hJ : ∀ j ∈ J1, j ∈ J := by decide) (hP : ∀ j ∈ J, j ∉ P := by decide) : DS X Wx P L I st Fa J1 := by
  obtain ⟨t, p, k⟩ := h.run
  refine ⟨t, p, fun W ρ σ Hb H D S E f q => k W ρ σ Hb H D S E f ⟨fun ρ' σ' Hb' H' a E' s' => ?_, q.rt, q.bk, q.ct, q.ex⟩⟩
  obtain ⟨Hb2, E2, s2⟩ := E'.drop hJ hP
  exact q.nx _ _ _ _ a E2 (s'.trans s2)
theorem dss_nil : DSs X Wx P L I [] fNext I := ⟨_, pss_nil, fun W ρ σ Hb H D S E f q => q.nx _ _ _ _ f E (Sub.refl _)⟩
theorem dss_cons (h1 : DS X Wx P L I st Fa J1) (h2 : DSs X Wx P L J1 rest Fb J) : DSs X Wx P L I (st :: rest) (fSeq Fa Fb) J := by
  obtain ⟨t1, p1, k1⟩ := h1.run
  obtain ⟨t2, p2, k2⟩ := h2.run
  exact ⟨_, pss_cons p1 p2, fun W ρ σ Hb H D S E f q => k1 W ρ σ Hb H _ _ E f ⟨fun ρ' σ' Hb' H' a E' s' => k2 W ρ' σ' Hb' H' D S E' a (q.from s'), q.rt, q.bk, q.ct, q.ex⟩⟩
theorem dss_one (h1 : DS X Wx P L I st Fa J) : DSs X Wx P L I [st] Fa J := by
  obtain ⟨t1, p1, k1⟩ := h1.run
  exact ⟨_, pss_one p1, k1⟩
theorem dss_weak (h : DSs X Wx P L I A Fa J) (hJ : ∀ j ∈ J1, j ∈ J := by decide) (hP : ∀ j ∈ J, j ∉ P := by decide) : DSs X Wx P L I A Fa J1 := by
  obtain ⟨t, p, k⟩ := h.run
  refine ⟨t, p, fun W ρ σ Hb H D S E f q => k W ρ σ Hb H D S E f ⟨fun ρ' σ' Hb' H' a E' s' => ?_, q.rt, q.bk, q.ct, q.ex⟩⟩
  obtain ⟨Hb2, E2, s2⟩ := E'.drop hJ hP
  exact q.nx _ _ _ _ a E2 (s'.trans s2)
theorem ds_pass : DS X Wx P L I (.Pass pos) fNext I := ⟨_, ps_pass, fun W ρ σ Hb H D S E f q => q.nx _ _ _ _ f E (Sub.refl _)⟩
theorem ds_doc {x : Str} {j} : DS X Wx P L I (.Expr (.Constant (.str x) j pos) pos') fNext I := ⟨_, ps_doc, fun W ρ σ Hb H D S E f q => q.nx _ _ _ _ f E (Sub.refl _)⟩
theorem ds_break (hL : ∀ j ∈ L, j ∈ I := by decide) (hP : ∀ j ∈ I, j ∉ P := by decide) : DS X Wx P L I (.Break pos) fBreak J := ⟨_, ps_break, fun W ρ σ Hb H D S E f q => by
  obtain ⟨Hb2, E2, s2⟩ := E.drop hL hP
  exact q.bk _ _ _ _ f E2 s2⟩
theorem ds_cont (hL : ∀ j ∈ L, j ∈ I := by decide) (hP : ∀ j ∈ I, j ∉ P := by decide) : DS X Wx P L I (.Continue pos) fCont J := ⟨_, ps_continue, fun W ρ σ Hb H D S E f q => by
  obtain ⟨Hb2, E2, s2⟩ := E.drop hL hP
  exact q.ct _ _ _ _ f E2 s2⟩
/-- code that is never reached -/
theorem ds_never : DS X Wx P L I st (fun _ _ => False) J := ⟨_, ps_never, fun _ _ _ _ _ _ _ _ f _ => f.elim⟩
theorem dss_never : DSs X Wx P L I A (fun _ _ => False) J := ⟨_, pss_never, fun _ _ _ _ _ _ _ _ f _ => f.elim⟩
theorem ds_expr (h : DE X Wx P I e te F J) (hs : swapsWith e none pos.line X.env = pure false := by rfl) : DS X Wx P L I (.Expr e pos) (fDrop F) J := by
  obtain ⟨p, k⟩ := h
  exact ⟨_, ps_expr p hs, fun W ρ σ Hb H D S E f q => k W ρ σ Hb H _ _ _ E f (q.xok σ) fun d ρ1 v Hb1 H1 f1 E1 s1 i1 => q.nx _ _ _ _ f1 E1 s1⟩
theorem ds_ret (h : DE X Wx P I e te F J) (hP : ∀ j ∈ J, j ∉ P := by decide) : DS X Wx P L I (.Return (some e) pos) (fRet F) J1 := by
  obtain ⟨p, k⟩ := h
  refine ⟨_, ps_ret p, fun W ρ σ Hb H D S E f q => k W ρ σ Hb H _ _ _ E f (q.xok σ) fun d ρ1 v Hb1 H1 f1 E1 s1 i1 => ?_⟩
  obtain ⟨Hb2, E2, s2⟩ := E1.drop (J := []) (fun j q => by cases q) hP
  exact q.rt _ _ _ _ _ _ f1 E2 (i1.mono s2)
theorem ds_retN (hP : ∀ j ∈ I, j ∉ P := by decide) : DS X Wx P L I (.Return none pos) fRetN J1 := by
  refine ⟨_, ps_retN, fun W ρ σ Hb H D S E f q => ?_⟩
  obtain ⟨Hb2, E2, s2⟩ := E.drop (J := []) (fun j q => by cases q) hP
  exact q.rt _ _ _ _ _ _ f E2 .non
theorem ds_if (hc : DT X Wx P I c tt T J1) (ha : DSs X Wx P L J1 A Fa J) (hb : DSs X Wx P L J1 B Fb J) : DS X Wx P L I (.If c A B pos) (fIfS T Fa Fb) J := by
  obtain ⟨p1, k1⟩ := hc
  obtain ⟨t2, p2, k2⟩ := ha.run
  obtain ⟨t3, p3, k3⟩ := hb.run
  refine ⟨_, ps_if p1 p2 p3, fun W ρ σ Hb H D S E f q => k1 W ρ σ Hb H _ _ _ E f (q.xok σ) fun b ρ1 Hb1 H1 f1 E1 s1 => ?_⟩
  cases b with
  | true =>
    rw [if_pos rfl] at f1 ⊢
    exact k2 W ρ1 σ Hb1 H1 D S E1 f1 (q.from s1)
  | false =>
    rw [if_neg Bool.false_ne_true] at f1 ⊢
    exact k3 W ρ1 σ Hb1 H1 D S E1 f1 (q.from s1)
theorem ds_set (i : Nat) {x : Str} (hN : X.N.Nodup) (h : DE X Wx P I e te F J) (hi : X.N[i]? = some x := by rfl) (hx : Loc X.env.scope x := by first | exact Or.inl rfl | exact Or.inr rfl) (hs : swapsWith e (some (.Name x pos')) pos.line X.env = pure false := by rfl)
    (hf : X.fn x = true ∨ X.env.scope.names.lookup x = some .local := by first | exact .inl rfl | exact .inr rfl | assumption) (hP : i ∉ P := by decide) (hI : i ∉ J := by decide) : DS X Wx P L I (.Assign [.Name x pos'] e pos) (fSet i F) J := by
  obtain ⟨p, k⟩ := h
  exact ⟨_, ps_set hN hi hx p hs hf, fun W ρ σ Hb H D S E f q => k W ρ σ Hb H _ _ _ E f (q.xok σ) fun d ρ1 v Hb1 H1 f1 E1 s1 i1 => q.nx _ _ _ _ f1 (E1.set i1 hP hI) s1⟩
theorem ds_asg {ts : List Nat} (h : DE X Wx P I e te F J) (hg : DG X P J tg ts tg1 g) (hs : swapsWithSole [tg] e pos.line X.env = pure false := by rfl) (hw : swappedStores [tg] e X.env = pure none := by rfl)
    (h1 : (assignEach [tg] X.env).map (·.2) = [assign tg X.env] := by rfl) : DS X Wx P L I (.Assign [tg] e pos) (fAsg g F) J := by
  obtain ⟨p, k⟩ := h
  obtain ⟨pg, kg⟩ := hg
  exact ⟨_, ps_asg p pg hs hw h1, fun W ρ σ Hb H D S E f q => k W ρ σ Hb H _ _ _ E f (q.xok σ) fun d ρ1 v Hb1 H1 f1 E1 s1 i1 => kg W ρ1 σ Hb1 H1 v d _ _ E1 i1 f1 fun ρ2 σ2 f2 E2 _ => q.nx _ _ _ _ f2 E2 s1⟩
/-- a, b = x, y: two local names -/
def fPar (i j : Nat) (A : FA) : FS := fun ρ S => A ρ (fun ds ρ1 => match ds with
  | [x, y] => S.nx (put (put ρ1 i (some x)) j (some y))
  | _ => False) S.ex
@[simp ↓] theorem fPar_ap (i j : Nat) (A : FA) (ρ : Env) (S : SPo) : fPar i j A ρ S = (A ρ (fun ds ρ1 => match ds with
  | [x, y] => S.nx (put (put ρ1 i (some x)) j (some y))
  | _ => False) S.ex) := (rfl)
theorem ds_par (i j : Nat) {x y : Str} {a b : Expr} {Fl : FA} {px py pt : Pos} {kt k2 pt2} (hc : X.calm = true) (hN : X.N.Nodup) (ha : DA X Wx P I [a, b] tA Fl J) (hi : X.N[i]? = some x := by rfl) (hj : X.N[j]? = some y := by rfl) (hij : i ≠ j := by decide)
    (hx : X.env.scope.names.lookup x = some .local := by rfl) (hy : X.env.scope.names.lookup y = some .local := by rfl)
    (hw : swappedStores [.Tuple [.Name x px, .Name y py] kt pt] (.Tuple [a, b] k2 pt2) X.env = pure (some [x, y]) := by rfl)
    (hs : swapsWithSole [.Tuple [.Name x px, .Name y py] kt pt] (.Tuple [a, b] k2 pt2) pos.line X.env = pure false := by rfl)
    (hP1 : i ∉ P := by decide) (hI1 : i ∉ J := by decide) (hP2 : j ∉ P := by decide) (hI2 : j ∉ J := by decide) :
    DS X Wx P L I (.Assign [.Tuple [.Name x px, .Name y py] kt pt] (.Tuple [a, b] k2 pt2) pos) (fPar i j Fl) J := by
  obtain ⟨p, k⟩ := ha
  refine ⟨_, ps_par hc hN hi hj hij hx hy p hw hs, fun W ρ σ Hb H D S E f q => k W ρ σ Hb H _ _ _ E f (q.xok σ) fun ds ρ1 vs Hb1 H1 f1 E1 s1 i1 => ?_⟩
  match ds, i1, f1 with
  | [x, y], .cons a (.cons b .nil), f1 => exact ⟨_, _, rfl, q.nx _ _ _ _ f1 ((E1.set a hP1 hI1).set b hP2 hI2) s1⟩
end

/-! ### loops -/
/-- the data that a walk yields -/
def ItD (K : PySem.W.Frag) (J : It) (Hb : Hp) (ds : List D) : Prop := ∀ (i : Nat) (H1 Hb1 : Hp), Sub Hb Hb1 → Sub Hb1 H1 →
  (∀ d, ds[i]? = some d → J.go i H1 ∧ ∀ x H2, J.yld i H1 x H2 → ∃ Hb2, Grow Hb1 H1 Hb2 H2 ∧ Is K Hb2 x d) ∧ (i = ds.length → J.stop i H1)
structure DI (X : Cx) (Wx : WX) (P I : List Nat) (tg iter : Expr) (wi : TI) (F : FA) (J : List Nat) : Prop where
  pe : PI X tg iter wi
  ev : ∀ (W : Wd) (ρ : Env) (σ : St) (Hb H : Hp) (R : It → Hp → Prop) (post : List D → Env → Prop) (xp : XP), EnvOk X.K W P I ρ σ Hb H → F ρ post xp → XOk X Wx W P σ xp →
    (∀ ds ρ' Jt Hb' H', post ds ρ' → EnvOk X.K W P J ρ' σ Hb' H' → Sub Hb Hb' → ItD X.K Jt Hb' ds → R Jt H') → wi σ H R
/-- a list or a tuple -/
def fSeqI (F : FE) : FA := fun ρ post xp => F ρ (fun d ρ1 => match d with
  | .lst ds => post ds ρ1
  | .tup ds => post ds ρ1
  | .ktp ds => post ds ρ1
  | .slst ds => post ds ρ1
  | _ => False) xp
@[simp ↓] theorem fSeqI_ap (F : FE) (ρ : Env) (post : List D → Env → Prop) (xp : XP) : fSeqI F ρ post xp = (F ρ (fun d ρ1 => match d with
  | .lst ds => post ds ρ1
  | .tup ds => post ds ρ1
  | .ktp ds => post ds ρ1
  | .slst ds => post ds ρ1
  | _ => False) xp) := (rfl)
def fRange1 (A : FA) : FA := fun ρ post xp => A ρ (fun ds ρ1 => match ds with
  | [.int n] => (-(2 ^ 62) ≤ n ∧ n < 2 ^ 62) ∧ post ((List.range n.toNat).map fun k : Nat => D.int (k : Int)) ρ1
  | _ => False) xp
@[simp ↓] theorem fRange1_ap (A : FA) (ρ : Env) (post : List D → Env → Prop) (xp : XP) : fRange1 A ρ post xp = (A ρ (fun ds ρ1 => match ds with
  | [.int n] => (-(2 ^ 62) ≤ n ∧ n < 2 ^ 62) ∧ post ((List.range n.toNat).map fun k : Nat => D.int (k : Int)) ρ1
  | _ => False) xp) := (rfl)
def fRange2 (A : FA) : FA := fun ρ post xp => A ρ (fun ds ρ1 => match ds with
  | [.int a, .int b] => (-(2 ^ 62) ≤ a ∧ a < 2 ^ 62 ∧ -(2 ^ 62) ≤ b ∧ b < 2 ^ 62) ∧ post ((List.range (b - a).toNat).map fun k : Nat => D.int (a + (k : Int))) ρ1
  | _ => False) xp
@[simp ↓] theorem fRange2_ap (A : FA) (ρ : Env) (post : List D → Env → Prop) (xp : XP) : fRange2 A ρ post xp = (A ρ (fun ds ρ1 => match ds with
  | [.int a, .int b] => (-(2 ^ 62) ≤ a ∧ a < 2 ^ 62 ∧ -(2 ^ 62) ≤ b ∧ b < 2 ^ 62) ∧ post ((List.range (b - a).toNat).map fun k : Nat => D.int (a + (k : Int))) ρ1
  | _ => False) xp) := (rfl)
def iSeq (K : PySem.W.Frag) (tl : TE) : TI := fun σ H R => tl σ H fun x H1 => ∃ a, x = .ref a ∧ (((∃ xs, SqL K H1 a xs) ∧ R (Itl K a) H1) ∨ ((∃ xs, SqT K H1 a xs) ∧ R (Itt K a) H1))
theorem pi_seq {X : Cx} {tg l : Expr} {tl : TE} (hl : PE X l tl) : PI X tg l (iSeq X.K tl) := by
  refine ⟨fun pins s σ H R I h => ?_⟩
  refine thn (hl.run pins s σ H _ I h) fun v s1 ⟨x, H1, I1, r1, q1⟩ => ?_
  obtain ⟨a, e, ⟨⟨xs, hq⟩, q⟩ | ⟨⟨xs, hq⟩, q⟩⟩ := q1
  · subst e
    cases r1
    obtain ⟨its, rv, p, hz⟩ := I1.list hq
    refine wpAny_pyIter_list p.isList ?_
    refine ⟨s1.heap.objs.size, [s1.heap.objs.size], _, _, H1, rfl, I1.kept (t' := s1.toks) fun b o e => Heap.get?_push_of_some _ e, turn_list a _, ⟨_, Heap.get?_push_size _ rfl, rfl, rfl⟩, fun b hb => ?_, q⟩
    have e : b = s1.heap.objs.size := by simpa using hb
    subst e
    exact I1.fpOk (Nat.le_refl _) (I1.hok.fresh (Nat.le_refl _))
  · subst e
    cases r1
    obtain ⟨its, rv, p, hz⟩ := I1.tuple hq
    refine wpAny_pyIter_tuple (show s1.heap.IsTuple a its.toArray from p) ?_
    refine ⟨s1.heap.objs.size, [s1.heap.objs.size], _, _, H1, rfl, I1.kept (t' := s1.toks) fun b o e => Heap.get?_push_of_some _ e, turn_tuple a _, ⟨_, Heap.get?_push_size _ rfl, rfl, rfl⟩, fun b hb => ?_, q⟩
    have e : b = s1.heap.objs.size := by simpa using hb
    subst e
    exact I1.fpOk (Nat.le_refl _) (I1.hok.fresh (Nat.le_refl _))
theorem itd_list {K : PySem.W.Frag} {Hb : Hp} {a : Addr} {vs : List V} {ds : List D} (h : SqL K Hb a vs) (l : IsL K Hb vs ds) : ItD K (Itl K a) Hb ds := fun i H1 Hb1 s1 s2 => by
  have h1 := (s1.trans s2).sqL h
  refine ⟨fun d hd => ?_, fun e => ⟨vs, h1, by rw [l.length]; omega⟩⟩
  obtain ⟨v, hv, iv⟩ := l.get hd
  refine ⟨⟨vs, v, h1, hv⟩, fun x H2 ⟨e, q⟩ => ?_⟩
  subst e
  have ex := q vs h1
  rw [hv] at ex; cases ex
  exact ⟨Hb1, .refl, iv.mono s1⟩
theorem itd_tup {K : PySem.W.Frag} {Hb : Hp} {a : Addr} {vs : List V} {ds : List D} (h : SqT K Hb a vs) (l : IsL K Hb vs ds) : ItD K (Itt K a) Hb ds := fun i H1 Hb1 s1 s2 => by
  have h1 := (s1.trans s2).sqT h
  refine ⟨fun d hd => ?_, fun e => ⟨vs, h1, by rw [l.length]; omega⟩⟩
  obtain ⟨v, hv, iv⟩ := l.get hd
  refine ⟨⟨vs, v, h1, hv⟩, fun x H2 ⟨e, q⟩ => ?_⟩
  subst e
  have ex := q vs h1
  rw [hv] at ex; cases ex
  exact ⟨Hb1, .refl, iv.mono s1⟩
theorem itd_range {K : PySem.W.Frag} {Hb : Hp} (lo : Int) (n : Nat) : ItD K (Itr lo n) Hb ((List.range n).map fun k : Nat => D.int (lo + (k : Int))) := fun i H1 Hb1 s1 s2 => by
  refine ⟨fun d hd => ?_, fun e => by show n ≤ i; rw [e]; simp⟩
  rw [List.getElem?_map] at hd
  cases q : (List.range n)[i]? with
  | none => rw [q] at hd; cases hd
  | some k =>
    rw [q] at hd; cases hd
    obtain ⟨hl, ek⟩ := List.getElem?_eq_some_iff.mp q
    rw [List.getElem_range] at ek
    subst ek
    have hl' : i < n := by simpa using hl
    refine ⟨hl', fun x H2 ⟨e, ex⟩ => ?_⟩
    subst e ex
    exact ⟨Hb1, .refl, .int _⟩
section
variable {X : Cx} {Wx : WX} {P L I J J1 J2 : List Nat} {e tg c iter : Expr} {es : List Expr} {st : Stmt} {body : List Stmt} {F : FE} {T : FT} {A : FA} {B : FS} {g : FG} {r : FGs} {pos pos' p : Pos} {te : TE} {tt : TT} {tA : TA} {tg1 : TG} {tgs : TGs} {wi : TI}
theorem di_seq (h : DE X Wx P I e te F J) : DI X Wx P I tg e (iSeq X.K te) (fSeqI F) J := by
  obtain ⟨p, k⟩ := h
  refine ⟨pi_seq p, fun W ρ σ Hb H R post xp E f x q => k W ρ σ Hb H _ _ xp E f x fun d ρ1 v Hb1 H1 f1 E1 s1 i1 => ?_⟩
  cases d <;> first | exact f1.elim | skip
  · obtain ⟨a, vs, rfl, h, l⟩ := is_tupD i1 rfl
    exact ⟨a, rfl, .inr ⟨⟨vs, E1.sub.sqT h⟩, q _ _ _ _ _ f1 E1 s1 (itd_tup h l)⟩⟩
  · obtain ⟨a, vs, rfl, h, l⟩ := is_lstD i1 rfl
    exact ⟨a, rfl, .inl ⟨⟨vs, E1.sub.sqL h⟩, q _ _ _ _ _ f1 E1 s1 (itd_list h l)⟩⟩
  · obtain ⟨a, vs, rfl, h, l⟩ := is_tupD i1 rfl
    exact ⟨a, rfl, .inr ⟨⟨vs, E1.sub.sqT h⟩, q _ _ _ _ _ f1 E1 s1 (itd_tup h l)⟩⟩
  · obtain ⟨a, vs, rfl, h, l⟩ := is_lstD i1 rfl
    exact ⟨a, rfl, .inl ⟨⟨vs, E1.sub.sqL h⟩, q _ _ _ _ _ f1 E1 s1 (itd_list h l)⟩⟩
theorem di_range1 (hm : X.mg "range" = none) (ha : DA X Wx P I [e] tA A J) (hg : Gl X "range" := by rfl) (hs : starEach [e] X.env = [(false, eval e X.env)] := by rfl) : DI X Wx P I tg (.Call (.Name "range" p) [e] [] pos) (iRng1 tA) (fRange1 A) J := by
  obtain ⟨pa, k⟩ := ha
  refine ⟨pi_range1 hg hm pa hs, fun W ρ σ Hb H R post xp E f x q => k W ρ σ Hb H _ _ xp E f x fun ds ρ1 vs Hb1 H1 f1 E1 s1 i1 => ?_⟩
  match ds, i1, f1 with
  | [.int n], .cons (.int _) .nil, f1 =>
    refine ⟨n, rfl, f1.1.1, f1.1.2, q _ _ _ _ _ f1.2 E1 s1 ?_⟩
    have := itd_range (K := X.K) (Hb := Hb1) 0 n.toNat
    simpa using this
theorem di_range2 {e2 : Expr} (hm : X.mg "range" = none) (ha : DA X Wx P I [e, e2] tA A J) (hg : Gl X "range" := by rfl) (hs : starEach [e, e2] X.env = [(false, eval e X.env), (false, eval e2 X.env)] := by rfl) (hs2 : starEach [e2] X.env = [(false, eval e2 X.env)] := by rfl) : DI X Wx P I tg (.Call (.Name "range" p) [e, e2] [] pos) (iRng2 tA) (fRange2 A) J := by
  obtain ⟨pa, k⟩ := ha
  refine ⟨pi_range2 hg hm pa hs hs2, fun W ρ σ Hb H R post xp E f x q => k W ρ σ Hb H _ _ xp E f x fun ds ρ1 vs Hb1 H1 f1 E1 s1 i1 => ?_⟩
  match ds, i1, f1 with
  | [.int a, .int b], .cons (.int _) (.cons (.int _) .nil), f1 =>
    exact ⟨a, b, rfl, f1.1, q _ _ _ _ _ f1.2 E1 s1 (itd_range a _)⟩

/-- a for loop, item by item -/
def loopL (g : FG) (B : FS) (S : SPo) : List D → Env → Prop
  | [], ρ => S.nx ρ
  | d :: ds, ρ => g d ρ fun ρ1 => B ρ1 { nx := loopL g B S ds, rt := S.rt, bk := S.nx, ct := loopL g B S ds, ex := S.ex }
inductive LockS (S : SPo) : Type | mk
def loopK (g : FG) (B : FS) (S : SPo) (_ : LockS S) (ds : List D) (ρ : Env) : Prop := loopL g B S ds ρ
def fFor (A : FA) (g : FG) (B : FS) : FS := fun ρ S => A ρ (fun ds ρ1 => loopK g B S .mk ds ρ1) S.ex
@[simp ↓] theorem fFor_ap (A : FA) (g : FG) (B : FS) (ρ : Env) (S : SPo) : fFor A g B ρ S = (A ρ (fun ds ρ1 => loopK g B S .mk ds ρ1) S.ex) := (rfl)
theorem ds_for (hp : PassesOwn (model X.prog X.w) X.A X.env X.xe) (hc : X.calm = true) {ts : List Nat} (hi : DI X Wx P I tg iter wi A J) (hg : DG X P J tg ts tg1 g) (hb : DSs X Wx P J J body B J)
    (hs : ∀ x, foldedSetIterable iter X.env x = pure x := by intro _; rfl) : DS X Wx P L I (.For tg iter body [] pos) (fFor A g B) J := by
  obtain ⟨pi, ki⟩ := hi
  obtain ⟨pg, kg⟩ := hg
  obtain ⟨tb, pb, kb⟩ := hb.run
  refine ⟨_, ps_for hp hc pi pg pb hs, fun W ρ σ Hb H D S E f q => ki W ρ σ Hb H _ _ _ E f (q.xok σ) fun ds ρ1 Jt Hb1 H1 f1 E1 s1 it => ?_⟩
  refine ⟨fun i m σ' H' => m = ds.length - i ∧ i ≤ ds.length ∧ ∃ ρ' Hb', EnvOk X.K W P J ρ' σ' Hb' H' ∧ Sub Hb1 Hb' ∧ loopL g B S (ds.drop i) ρ', ⟨_, rfl, Nat.zero_le _, ρ1, Hb1, E1, Sub.refl _, f1⟩, ?_⟩
  rintro i m σ2 H2 ⟨rfl, hi, ρ2, Hb2, E2, s2, f2⟩
  obtain ⟨i1, i2⟩ := it i H2 Hb2 s2 E2.sub
  by_cases hlt : i < ds.length
  · rw [List.drop_eq_getElem_cons hlt] at f2
    obtain ⟨go, yl⟩ := i1 ds[i] (List.getElem?_eq_getElem hlt)
    refine .inr ⟨go, fun σ' H' => ∃ ρ' Hb', EnvOk X.K W P J ρ' σ' Hb' H' ∧ Sub Hb1 Hb' ∧ loopL g B S (ds.drop (i + 1)) ρ', fun σ' H' h => ⟨ds.length - (i + 1), by omega, rfl, hlt, h⟩, fun x H3 y => ?_⟩
    obtain ⟨Hb3, gr, is⟩ := yl x H3 y
    obtain ⟨E3, s3⟩ := gr.env E2
    refine kg W ρ2 σ2 Hb3 H3 x _ _ _ E3 is f2 fun ρ4 σ4 f4 E4 _ => ?_
    refine kb W ρ4 σ4 Hb3 H3 _ _ E4 f4 ⟨fun ρ' σ' Hb' H' a b c => ⟨ρ', Hb', b, (s2.trans s3).trans c, a⟩, q.rt, fun ρ' σ' Hb' H' a b c => q.nx _ _ _ _ a b (((s1.trans s2).trans s3).trans c), fun ρ' σ' Hb' H' a b c => ⟨ρ', Hb', b, (s2.trans s3).trans c, a⟩, q.ex⟩
  · have e : i = ds.length := by omega
    subst e
    rw [List.drop_length] at f2
    exact .inl ⟨i2 rfl, q.nx _ _ _ _ f2 E2 (s1.trans s2)⟩

/-- a while loop: at most n turns -/
def whileN (T : FT) (B : FS) (S : SPo) : Nat → Env → Prop
  | 0, _ => False
  | n + 1, ρ => T ρ (fun b ρ1 => if b = true then B ρ1 { nx := whileN T B S n, rt := S.rt, bk := S.nx, ct := whileN T B S n, ex := S.ex } else S.nx ρ1) S.ex
def fWhile (T : FT) (B : FS) : FS := fun ρ S => ∃ n, whileN T B S n ρ
theorem ds_while (hp : PassesOwn (model X.prog X.w) X.A X.env X.xe) (hc : DT X Wx P I c tt T I) (hb : DSs X Wx P I I body B I) : DS X Wx P L I (.While c body [] pos) (fWhile T B) I := by
  obtain ⟨pc, kc⟩ := hc
  obtain ⟨tb, pb, kb⟩ := hb.run
  refine ⟨_, ps_while hp pc pb, fun W ρ σ Hb H D S E f q => ?_⟩
  obtain ⟨n0, f⟩ := f
  refine ⟨fun m σ' H' => ∃ ρ' Hb', EnvOk X.K W P I ρ' σ' Hb' H' ∧ Sub Hb Hb' ∧ whileN T B S m ρ', ⟨n0, ρ, Hb, E, Sub.refl _, f⟩, ?_⟩
  rintro m σ1 H1 ⟨ρ1, Hb1, E1, s1, f1⟩
  cases m with
  | zero => exact f1.elim
  | succ m =>
    refine kc W ρ1 σ1 Hb1 H1 _ _ _ E1 f1 (q.xok σ1) fun b ρ2 Hb2 H2 f2 E2 s2 => ?_
    cases b with
    | true =>
      rw [if_pos rfl] at f2 ⊢
      refine ⟨fun σ' H' => ∃ ρ' Hb', EnvOk X.K W P I ρ' σ' Hb' H' ∧ Sub Hb Hb' ∧ whileN T B S m ρ', fun σ' H' h => ⟨m, by omega, h⟩, ?_⟩
      exact kb W ρ2 σ1 Hb2 H2 _ _ E2 f2 ⟨fun ρ' σ' Hb' H' a b c => ⟨ρ', Hb', b, (s1.trans s2).trans c, a⟩, q.rt, fun ρ' σ' Hb' H' a b c => q.nx _ _ _ _ a b ((s1.trans s2).trans c), fun ρ' σ' Hb' H' a b c => ⟨ρ', Hb', b, (s1.trans s2).trans c, a⟩, q.ex⟩
    | false =>
      rw [if_neg Bool.false_ne_true] at f2 ⊢
      exact q.nx _ _ _ _ f2 E2 (s1.trans s2)
end
end DL

/-! DL5: cells that a slot owns: lists that are appended to, dicts. -/
namespace DL
open PySem L2
open PyProof.Rows hiding St

/-- a new cell at p that nothing else knows -/
structure NewAt (K : PySem.W.Frag) (W : Wd) (P J : List Nat) (ρ : Env) (σ : St) (Hb H : Hp) (p : Addr) (d : D) : Prop where
  cell : Cell K Hb H p d
  nbF : ∀ a, foot H p d a → Hb a = none ∧ W.H a = none
  unF : ∀ i di q a, (i ∈ P ∨ i ∈ J) → get ρ i = some di → σ[i]? = some (some (.ref q)) → foot H p d a → ¬ foot H q di a
theorem NewAt.nb {K : PySem.W.Frag} {W : Wd} {P J : List Nat} {ρ : Env} {σ : St} {Hb H : Hp} {p : Addr} {d : D} (n : NewAt K W P J ρ σ Hb H p d) : Hb p = none := (n.nbF p foot.root).1
theorem NewAt.wn {K : PySem.W.Frag} {W : Wd} {P J : List Nat} {ρ : Env} {σ : St} {Hb H : Hp} {p : Addr} {d : D} (n : NewAt K W P J ρ σ Hb H p d) : W.H p = none := (n.nbF p foot.root).2
theorem NewAt.un {K : PySem.W.Frag} {W : Wd} {P J : List Nat} {ρ : Env} {σ : St} {Hb H : Hp} {p : Addr} {d : D} (n : NewAt K W P J ρ σ Hb H p d) : ∀ i, (i ∈ P ∨ i ∈ J) → get ρ i ≠ none → σ[i]? ≠ some (some (.ref p)) := fun i hi g e => by
  cases q : get ρ i with
  | none => exact g q
  | some di => exact n.unF i di p p hi q e foot.root foot.root
structure DNw (X : Cx) (Wx : WX) (P I : List Nat) (e : Expr) (t : TE) (F : FE) (J : List Nat) : Prop where
  pe : PE X e t
  ev : ∀ (W : Wd) (ρ : Env) (σ : St) (Hb H : Hp) (Q : VK) (post : Post) (xp : XP), EnvOk X.K W P I ρ σ Hb H → F ρ post xp → XOk X Wx W P σ xp →
    (∀ d ρ' p Hb' H', post d ρ' → EnvOk X.K W P J ρ' σ Hb' H' → Sub Hb Hb' → NewAt X.K W P J ρ' σ Hb' H' p d → Q (.ref p) H') → t σ H Q
section
variable {K : PySem.W.Frag} {W : Wd} {P I J : List Nat} {ρ : Env} {σ : St} {Hb H : Hp} {p : Addr} {d : D} {o : HO}
theorem EnvOk.addr (E : EnvOk K W P I ρ σ Hb H) {i : Nat} (hi : i ∈ P ∨ i ∈ I) (g : get ρ i ≠ none) {q : Addr} (e : σ[i]? = some (some (.ref q))) : ∃ o, H q = some o := by
  cases r : get ρ i with
  | none => exact absurd r g
  | some d =>
    obtain ⟨p, ep, _, c, _⟩ := E.cel i d hi r
    rw [e] at ep; cases ep
    exact c.some
theorem flat_foot {d : D} (fl : ∀ o, partOf o d = none) {H : Hp} {p a : Addr} (h : foot H p d a) : a = p := h.elim id fun e => by rw [fl] at e; cases e
/-- what a slot owns is none of what is not there -/
theorem EnvOk.noneF (E : EnvOk K W P I ρ σ Hb H) {i : Nat} {di : D} {q a : Addr} (hi : i ∈ P ∨ i ∈ I) (g : get ρ i = some di) (e : σ[i]? = some (some (.ref q))) (ft : foot H q di a) : ∃ o, H a = some o := by
  obtain ⟨p, ep, c, _⟩ := E.celF i di hi g
  rw [e] at ep; cases ep
  obtain ⟨o, ho, _⟩ := c.footS ft
  exact ⟨o, ho⟩
theorem NewAt.mk' (E : EnvOk K W P I ρ σ Hb H) (h : H p = none) (c : Cell K Hb (upd H p o) p d) (fl : ∀ o, partOf o d = none := by intro o; cases o <;> (try rename_i o; cases o) <;> rfl) : NewAt K W P I ρ σ Hb (upd H p o) p d where
  cell := c
  nbF := fun a ha => by
    have := flat_foot fl ha
    subst this
    exact ⟨E.sub.none h, E.stp.al a h⟩
  unF := fun i di q a hi g e ha fa => by
    have := flat_foot fl ha
    subst this
    have nq : q ≠ a := fun z => by
      subst z
      obtain ⟨u, hu⟩ := E.noneF hi g e foot.root
      rw [h] at hu; cases hu
    have fa := foot.cong (H := H) (by rw [upd_ne nq]) fa
    obtain ⟨u, hu⟩ := E.noneF hi g e fa
    rw [h] at hu; cases hu
/-- frozen -/
theorem EnvOk.freeze (E : EnvOk K W P I ρ σ Hb H) (n : NewAt K W P I ρ σ Hb H p d) : ∃ Hb', EnvOk K W P I ρ σ Hb' H ∧ Sub Hb Hb' ∧ Is K Hb' (.ref p) d := by
  classical
  let Hb' : Hp := fun a => if foot H p d a then H a else Hb a
  have hpos : ∀ {a}, foot H p d a → Hb' a = H a := fun {a} h => if_pos h
  have hneg : ∀ {a}, ¬ foot H p d a → Hb' a = Hb a := fun {a} h => if_neg h
  have sb : Sub Hb Hb' := fun a o e => by
    by_cases h : foot H p d a
    · rw [(n.nbF a h).1] at e; cases e
    · rw [hneg h]; exact ⟨_, e, .inl rfl⟩
  obtain ⟨k1, k2⟩ := E.cells (H' := H) (W' := W) sb (fun i x q a u hi g e ha hu => ⟨hu, by
    obtain ⟨q', e', _, _, f⟩ := E.celF i x hi g
    rw [e] at e'; cases e'
    rw [hneg fun z => n.unF i x q a hi g e z ha]
    exact (f a ha).1⟩) (fun _ _ _ _ _ _ _ _ => ⟨id, id⟩) (fun _ _ _ _ _ _ _ _ => id)
  refine ⟨Hb', ⟨fun a u e => ?_, ⟨E.stp.hb.trans sb, E.stp.fr, fun a u e => ?_, E.stp.al, E.stp.tp⟩, E.len, fun i x g nP nI => ?_, k1, k2⟩, sb, ?_⟩
  · by_cases ha : foot H p d a
    · rw [hpos ha] at e; exact ⟨_, e, .inl rfl⟩
    · rw [hneg ha] at e; exact E.sub a u e
  · by_cases ha : foot H p d a
    · exact .inr (.inl (n.nbF a ha).2)
    · rw [hneg ha] at e; exact E.stp.fs a u e
  · obtain ⟨v, e, q⟩ := E.val i x g nP nI
    exact ⟨v, e, q.mono sb⟩
  · exact (n.cell.mono sb (H' := Hb') fun a u ha e => by rw [hpos ha]; exact e).is (Sub.refl _)
/-- a slot takes the new cell -/
theorem EnvOk.take (E : EnvOk K W P J ρ σ Hb H) (n : NewAt K W P J ρ σ Hb H p d) {i : Nat} (hP : i ∉ P) (hi : i < ρ.length) : EnvOk K W P (i :: J) (put ρ i (some d)) (σ.set i (some (.ref p))) Hb H where
  sub := E.sub
  stp := E.stp
  len := by rw [List.length_set, put_length]; exact E.len
  val := fun j x g nP nI => by
    have hn : j ≠ i := fun q => nI (by rw [q]; exact List.mem_cons_self)
    rw [get_put_ne _ _ _ _ (Ne.symm hn)] at g
    obtain ⟨w, e1, e2⟩ := E.val j x g nP fun q => nI (List.mem_cons_of_mem _ q)
    exact ⟨w, by rw [List.getElem?_set_ne (Ne.symm hn)]; exact e1, e2⟩
  celF := fun j x hj g => by
    by_cases hn : j = i
    · subst hn
      rw [get_put_same _ _ _ hi] at g; cases g
      exact ⟨p, by rw [List.getElem?_set_self (by rw [E.len]; exact hi)], n.cell, fun q => absurd q hP, fun a ha => ⟨(n.nbF a ha).1, fun q => absurd q hP, fun _ => (n.nbF a ha).2⟩⟩
    · rw [get_put_ne _ _ _ _ (Ne.symm hn)] at g
      have hj' : j ∈ P ∨ j ∈ J := hj.imp id fun q => (List.mem_cons.mp q).resolve_left hn
      obtain ⟨q, e1, e2, e3, e4⟩ := E.celF j x hj' g
      exact ⟨q, by rw [List.getElem?_set_ne (Ne.symm hn)]; exact e1, e2, e3, fun a ha => ⟨(e4 a ha).1, (e4 a ha).2.1, fun z => (e4 a ha).2.2 ((List.mem_cons.mp z).resolve_left hn)⟩⟩
  sepF := fun j k q q' dj dk a hj hk gj gk ej ek fj fk => by
    have other : ∀ {m : Nat} {dm : D} {r : Addr}, m ≠ i → (m ∈ P ∨ m ∈ i :: J) → get (put ρ i (some d)) m = some dm → (σ.set i (some (.ref p)))[m]? = some (some (.ref r)) → (m ∈ P ∨ m ∈ J) ∧ get ρ m = some dm ∧ σ[m]? = some (some (.ref r)) := fun {m dm r} hn hm gm em => by
      rw [get_put_ne _ _ _ _ (Ne.symm hn)] at gm
      rw [List.getElem?_set_ne (Ne.symm hn)] at em
      exact ⟨hm.imp id fun z => (List.mem_cons.mp z).resolve_left hn, gm, em⟩
    by_cases hj0 : j = i
    · by_cases hk0 : k = i
      · rw [hj0, hk0]
      · obtain ⟨a1, a2, a3⟩ := other hk0 hk gk ek
        subst hj0
        rw [List.getElem?_set_self (by rw [E.len]; exact hi)] at ej
        cases ej
        rw [get_put_same _ _ _ hi] at gj; cases gj
        exact absurd fk (n.unF k dk q' a a1 a2 a3 fj)
    · obtain ⟨b1, b2, b3⟩ := other hj0 hj gj ej
      by_cases hk0 : k = i
      · subst hk0
        rw [List.getElem?_set_self (by rw [E.len]; exact hi)] at ek
        cases ek
        rw [get_put_same _ _ _ hi] at gk; cases gk
        exact absurd fj (n.unF j dj q a b1 b2 b3 fk)
      · obtain ⟨a1, a2, a3⟩ := other hk0 hk gk ek
        exact E.sepF j k q q' dj dk a b1 a1 b2 a2 b3 a3 fj fk
/-- an address of a slot's cell is written; the cell's addresses stay -/
theorem EnvOk.writeF {i : Nat} {d0 : D} {r : Addr} (E : EnvOk K W P I ρ σ Hb H) (hi : i ∈ P ∨ i ∈ I) (g : get ρ i = some d0) (e : σ[i]? = some (some (.ref r))) (fp : foot H r d0 p) (c : Cell K Hb (upd H p o) r d) (nt : ∀ vs : List V, o ≠ .tup vs) (same : ∀ a, foot (upd H p o) r d a → foot H r d0 a) : EnvOk K W P I (put ρ i (some d)) σ Hb (upd H p o) := by
  obtain ⟨p', ep, c0, hr, f⟩ := E.celF i d0 hi g
  rw [e] at ep; cases ep
  obtain ⟨nb, h1, h2⟩ := f p fp
  -- the others
  have oth : ∀ {j x q}, j ≠ i → (j ∈ P ∨ j ∈ I) → get ρ j = some x → σ[j]? = some (some (.ref q)) → ∀ a, foot H q x a → a ≠ p := fun {j x q} hn hj gj ej a ha z => by
    subst z
    exact hn (E.sepF j i q r x d0 a hj hi gj g ej e ha fp)
  have rt : ∀ {j x q}, j ≠ i → (j ∈ P ∨ j ∈ I) → get ρ j = some x → σ[j]? = some (some (.ref q)) → ∀ a, foot (upd H p o) q x a → foot H q x a := fun {j x q} hn hj gj ej a ha =>
    foot.cong (by rw [upd_ne (oth hn hj gj ej q foot.root)]) ha
  refine ⟨fun a x ea => ?_, ⟨E.stp.hb, fun a x ea n => ?_, E.stp.fs, fun a ea => ?_, fun a vs ea => ?_⟩, by rw [put_length]; exact E.len, fun j x gj nP nI => ?_, fun j x hj gj => ?_, fun j k q q' dj dk a hj hk gj gk ej ek fj fk => ?_⟩
  · have ha : a ≠ p := fun z => by subst z; rw [nb] at ea; cases ea
    rw [upd_ne ha]; exact E.sub a x ea
  · have ha : a ≠ p := fun z => by
      subst z
      rcases hi with hi | hi
      · rcases h1 hi with h1 | h1
        · exact n i h1
        · rw [h1] at ea; cases ea
      · rw [h2 hi] at ea; cases ea
    rw [upd_ne ha]; exact E.stp.fr a x ea n
  · by_cases ha : a = p
    · subst ha; rw [upd_same] at ea; cases ea
    · rw [upd_ne ha] at ea; exact E.stp.al a ea
  · by_cases ha : a = p
    · subst ha; rw [upd_same] at ea; cases ea; exact absurd rfl (nt vs)
    · rw [upd_ne ha] at ea; exact E.stp.tp a vs ea
  · have hn : j ≠ i := fun q => by subst q; exact hi.elim nP nI
    rw [get_put_ne _ _ _ _ (Ne.symm hn)] at gj
    exact E.val j x gj nP nI
  · by_cases hn : j = i
    · subst hn
      rw [get_put_same _ _ _ (get_lt g)] at gj; cases gj
      exact ⟨r, e, c, hr, fun a ha => f a (same a ha)⟩
    · rw [get_put_ne _ _ _ _ (Ne.symm hn)] at gj
      obtain ⟨q, e1, e2, e3, e4⟩ := E.celF j x hj gj
      exact ⟨q, e1, e2.mono (Sub.refl _) fun a o ha eo => by rw [upd_ne (oth hn hj gj e1 a ha)]; exact eo, e3, fun a ha => e4 a (rt hn hj gj e1 a ha)⟩
  · by_cases hj0 : j = i
    · by_cases hk0 : k = i
      · rw [hj0, hk0]
      · subst hj0
        rw [get_put_same _ _ _ (get_lt g)] at gj; cases gj
        rw [get_put_ne _ _ _ _ (Ne.symm hk0)] at gk
        rw [e] at ej; cases ej
        exact E.sepF j k r q' d0 dk a hj hk g gk e ek (same a fj) (rt hk0 hk gk ek a fk)
    · rw [get_put_ne _ _ _ _ (Ne.symm hj0)] at gj
      by_cases hk0 : k = i
      · subst hk0
        rw [get_put_same _ _ _ (get_lt g)] at gk; cases gk
        rw [e] at ek; cases ek
        exact E.sepF j k q r dj d0 a hj hk gj g ej e (rt hj0 hj gj ej a fj) (same a fk)
      · rw [get_put_ne _ _ _ _ (Ne.symm hk0)] at gk
        exact E.sepF j k q q' dj dk a hj hk gj gk ej ek (rt hj0 hj gj ej a fj) (rt hk0 hk gk ek a fk)
/-- the cell of a slot is written -/
theorem EnvOk.write (E : EnvOk K W P I ρ σ Hb H) {i : Nat} {d0 : D} (hi : i ∈ P ∨ i ∈ I) (g : get ρ i = some d0) (e : σ[i]? = some (some (.ref p))) (c : Cell K Hb (upd H p o) p d) (fl : ∀ a, partOf (some o) d = some a → foot H p d0 a := by intro a z; cases z) : EnvOk K W P I (put ρ i (some d)) σ Hb (upd H p o) :=
  E.writeF hi g e foot.root c (fun vs z => c.nt vs (by rw [upd_same, z])) fun a ha => by
    rcases ha with ha | ha
    · exact .inl ha
    · rw [upd_same] at ha; exact fl a ha
end

section
variable {X : Cx} {Wx : WX} {P L I J J1 J2 : List Nat} {e a b c : Expr} {es : List Expr} {F G : FE} {A : FA} {pos pos' apos cpos : Pos} {te : TE} {tA : TA}
theorem de_new (h : DNw X Wx P I e te F J) : DE X Wx P I e te F J := by
  obtain ⟨p, k⟩ := h
  refine ⟨p, fun W ρ σ Hb H Q post xp E f x q => k W ρ σ Hb H Q post xp E f x fun d ρ' p Hb' H' f' E' s' n => ?_⟩
  obtain ⟨Hb2, E2, s2, i2⟩ := E'.freeze n
  exact q _ _ _ _ _ f' E2 (s'.trans s2) i2
theorem dn_lst (h : DA X Wx P I es tA A J) : DNw X Wx P I (.List es pos) (tLst tA) (fun ρ post xp => A ρ (fun xs ρ1 => xs.length ≤ 1000000 ∧ post (.lst xs) ρ1) xp) J := by
  obtain ⟨pa, ka⟩ := h
  refine ⟨pe_lst pa, fun W ρ σ Hb H Q post xp E f x q => ka W ρ σ Hb H _ _ xp E f x fun ds ρ1 vs Hb1 H1 f1 E1 s1 i1 => ⟨?_, fun p hp => ?_⟩⟩
  · rw [i1.length]; exact Nat.le_trans f1.1 (by decide)
  · exact q _ _ _ _ _ f1.2 (E1.more hp) s1 (NewAt.mk' E1 hp ⟨vs, upd_same, i1⟩)
/-- list(xs) -/
theorem dn_list {x : Str} {p2 : Pos} (hm : X.mg x = none) (hv : bootBuiltins x = some (.type "list")) (ha : DAo X Wx P I [e] tA A J) (hg : Gl X x := by rfl) (hn : x ≠ "__name__" := by decide) (hdb : (x == ("__debug__" : Str)) = false := by decide)
    (he : starEach [e] X.env = (false, eval e X.env) :: starEach [] X.env := by rfl) (hpl : (backTo pos (starEach [] X.env)).any (·.1) = false := by rfl) : DNw X Wx P I (.Call (.Name x p2) [e] [] pos) (tCB (fun xs H Q => ∃ p ys, xs = [.ref p] ∧ (SqL X.K H p ys ∨ SqT X.K H p ys) ∧ ∀ l, H l = none → Q (.ref l) (upd H l (.lst ys))) tA) (fN gList A) J := by
  obtain ⟨pa, ka⟩ := ha
  refine ⟨pe_callTy call_list_of hg hm hv pa hn hdb he hpl, fun W ρ σ Hb H Q post xp E f x q => ka W ρ σ Hb H _ _ xp E f x fun ds ρ1 vs Hb1 H1 f1 E1 s1 i1 => ?_⟩
  obtain ⟨d, ys, rfl, e, f1⟩ := f1
  obtain ⟨v, rfl, i⟩ := o_one i1
  obtain ⟨a, us, rfl, h, l⟩ := o_seqD E1.sub i e
  exact ⟨a, us, rfl, h, fun p hp => q _ _ _ _ _ f1 (E1.more hp) s1 (NewAt.mk' E1 hp ⟨us, upd_same, l⟩)⟩
/-- x = a new cell; x owns it from here on -/
def fSetN (i : Nat) (F : FE) : FS := fun ρ S => F ρ (fun d ρ1 => i < ρ1.length ∧ S.nx (put ρ1 i (some d))) S.ex
@[simp ↓] theorem fSetN_ap (i : Nat) (F : FE) (ρ : Env) (S : SPo) : fSetN i F ρ S = (F ρ (fun d ρ1 => i < ρ1.length ∧ S.nx (put ρ1 i (some d))) S.ex) := (rfl)
theorem ds_setN (i : Nat) {x : Str} (hN : X.N.Nodup) (h : DNw X Wx P I e te F J) (hi : X.N[i]? = some x := by rfl) (hx : Loc X.env.scope x := by first | exact Or.inl rfl | exact Or.inr rfl) (hs : swapsWith e (some (.Name x pos')) pos.line X.env = pure false := by rfl)
    (hf : X.fn x = true ∨ X.env.scope.names.lookup x = some .local := by first | exact .inl rfl | exact .inr rfl | assumption) (hP : i ∉ P := by decide) : DS X Wx P L I (.Assign [.Name x pos'] e pos) (fSetN i F) (i :: J) := by
  obtain ⟨p, k⟩ := h
  exact ⟨_, ps_set hN hi hx p hs hf, fun W ρ σ Hb H D S E f q => k W ρ σ Hb H _ _ _ E f (q.xok σ) fun d ρ1 p Hb1 H1 f1 E1 s1 n => q.nx _ _ _ _ f1.2 (E1.take n hP f1.1) s1⟩
/-- x.append(e), x owns its list -/
def fAppend (i : Nat) (F : FE) : FS := fun ρ S => (∃ ds, get ρ i = some (.lst ds)) ∧ F ρ (fun y ρ1 => ∃ ds, get ρ1 i = some (.lst ds) ∧ ds.length < 1000000 ∧ S.nx (put ρ1 i (some (.lst (ds ++ [y]))))) S.ex
@[simp ↓] theorem fAppend_ap (i : Nat) (F : FE) (ρ : Env) (S : SPo) : fAppend i F ρ S = ((∃ ds, get ρ i = some (.lst ds)) ∧ F ρ (fun y ρ1 => ∃ ds, get ρ1 i = some (.lst ds) ∧ ds.length < 1000000 ∧ S.nx (put ρ1 i (some (.lst (ds ++ [y]))))) S.ex) := (rfl)
theorem ds_append (i : Nat) {x : Str} (h : DE X Wx P I e te F J) (hi : i ∈ P ∨ i ∈ I := by decide) (hj : i ∈ P ∨ i ∈ J := by decide) (hN : X.N[i]? = some x := by rfl) (hv : Vis X.env.scope x := by first | exact Or.inl rfl | exact Or.inr (Or.inl rfl) | exact Or.inr (Or.inr rfl)) (hd : (x == ("__debug__" : Str)) = false := by decide)
    (hcd : (x == ("__classdict__" : Str)) = false := by decide) (hs : swapsWith (.Call (.Attribute (.Name x pos') "append" apos) [e] [] cpos) none pos.line X.env = pure false := by rfl)
    (hbase : attributeBase (.Name x pos') "append" X.env (eval (.Name x pos') X.env) = eval (.Name x pos') X.env := by rfl)
    (hfew : ((backTo cpos (starEach [e] X.env)).all (fun x => !x.1) && (backToKw cpos (keywordEach [] X.env)).all (fun x => x.1.isSome)
      && decide ([e].length + ([] : List Keyword).length + (if ([] : List Keyword).isEmpty then 0 else 1) < 30)) = true := by rfl)
    (hline : (apos.endLine == cpos.line) = true := by rfl) (hst : starEach [e] X.env = (false, eval e X.env) :: starEach [] X.env := by rfl) (hplain : (backTo cpos (starEach [] X.env)).any (·.1) = false := by rfl) :
    DS X Wx P L I (.Expr (.Call (.Attribute (.Name x pos') "append" apos) [e] [] cpos) pos) (fAppend i F) J := by
  obtain ⟨p, k⟩ := h
  refine ⟨_, ps_expr (pe_bm PySem.F.plainAttrs_list PySem.F.slot_list_append PySem.F.type_list_append mt_append (pe_var hN hv hd hcd) (pa_cons p pa_nil hst) hbase hfew hline hst hplain) hs, fun W ρ σ Hb H D S E f q => ?_⟩
  obtain ⟨⟨ds0, g0⟩, f⟩ := f
  obtain ⟨p, ep, n0, ⟨vs0, hp0, _⟩, _, _⟩ := E.cel i _ hi g0
  refine ⟨_, ep, .inl ⟨rfl, _, SqL.of hp0⟩, ?_⟩
  refine k W ρ σ Hb H _ _ _ E f (q.xok σ) fun d ρ1 v Hb1 H1 f1 E1 s1 i1 => ?_
  obtain ⟨ds, g1, hz, f2⟩ := f1
  obtain ⟨p', ep', n1, ⟨vs, hp, l⟩, _, _⟩ := E1.cel i _ hj g1
  rw [ep] at ep'; cases ep'
  refine ⟨p, vs, v, rfl, rfl, hp, by rw [l.length]; exact Nat.lt_of_lt_of_le hz (by decide), ?_⟩
  exact q.nx _ _ _ _ f2 (E1.write hj g1 ep ⟨_, upd_same, l.snoc i1⟩) s1

end
end DL

/-! DL6: dicts, slices, comprehensions over data. -/
namespace DL
open PySem L2
open PyProof.Rows hiding St

/-! ### a store into a slot's own dict -/
def fPutO (i : Nat) (Fv Fk : FE) : FS := fun ρ S => Fv ρ (fun v ρ1 => (∃ d0, get ρ1 i = some d0 ∧ isDict d0) ∧ Fk ρ1 (fun k ρ2 => ∃ d d', get ρ2 i = some d ∧ sizeD d < 1000000 ∧ putKD d k v = some d' ∧ S.nx (put ρ2 i (some d'))) S.ex) S.ex
@[simp ↓] theorem fPutO_ap (i : Nat) (Fv Fk : FE) (ρ : Env) (S : SPo) : fPutO i Fv Fk ρ S = (Fv ρ (fun v ρ1 => (∃ d0, get ρ1 i = some d0 ∧ isDict d0) ∧ Fk ρ1 (fun k ρ2 => ∃ d d', get ρ2 i = some d ∧ sizeD d < 1000000 ∧ putKD d k v = some d' ∧ S.nx (put ρ2 i (some d'))) S.ex) S.ex) := (rfl)
section
variable {X : Cx} {Wx : WX} {P L I J J1 J2 : List Nat} {e a b c o k : Expr} {es : List Expr} {F G : FE} {A : FA} {pos pos' apos cpos : Pos} {ta tb : TE}
/-- d[k] = v, d a slot's own -/
theorem ds_putO (i : Nat) {x : Str} {value : Expr} {spos : Pos} (hu : X.A.units + 1 < cLine) (hv : DE X Wx P I value ta F J1) (hk : DE X Wx P J1 k tb G J) (hi : i ∈ P ∨ i ∈ J1 := by decide) (hj : i ∈ P ∨ i ∈ J := by decide) (hN : X.N[i]? = some x := by rfl) (hvx : Vis X.env.scope x := by first | exact Or.inl rfl | exact Or.inr (Or.inl rfl) | exact Or.inr (Or.inr rfl)) (hd : (x == ("__debug__" : Str)) = false := by decide)
    (hcd : (x == ("__classdict__" : Str)) = false := by decide) (hs : swapsWith value (some (.Subscript (.Name x pos') k spos)) pos.line X.env = pure false := by rfl) :
    DS X Wx P L I (.Assign [.Subscript (.Name x pos') k spos] value pos) (fPutO i F G) J := by
  obtain ⟨p1, k1⟩ := hv
  obtain ⟨p2, k2⟩ := hk
  refine ⟨_, ps_dput hu (pe_var hN hvx hd hcd) p2 p1 hs, fun W ρ σ Hb H D S E f q => k1 W ρ σ Hb H _ _ _ E f (q.xok σ) fun z ρ1 v Hb1 H1 f1 E1 s1 i1 => ?_⟩
  obtain ⟨⟨d0, g0, _⟩, f1⟩ := f1
  obtain ⟨p, ep, _⟩ := E1.cel i d0 hi g0
  refine ⟨_, ep, k2 W ρ1 σ Hb1 H1 _ _ _ E1 f1 (q.xok σ) fun kd ρ2 y Hb2 H2 f2 E2 s2 i2 => ?_⟩
  obtain ⟨d, d', gd, hz, g, f2⟩ := f2
  obtain ⟨p', ep', _, c, _⟩ := E2.cel i d hj gd
  rw [ep] at ep'; cases ep'
  obtain ⟨o, dp, c', fl⟩ := cell_put c i2 (i1.mono s2) E2.sub hz g
  exact ⟨p, _, rfl, dp, q.nx _ _ _ _ f2 (E2.write hj gd ep c' fl) (s1.trans s2)⟩
end

/-! ### slices -/
def cutL (ds : List D) (lo hi : Option Int) : List D := (ds.drop (HT.sIx ds.length 0 lo)).take (HT.sIx ds.length ds.length hi - HT.sIx ds.length 0 lo)
theorem cut_is {K : PySem.W.Frag} {H : Hp} {vs : List V} {ds : List D} (l : IsL K H vs ds) (lo hi : Option Int) : IsL K H (cutV vs lo hi) (cutL ds lo hi) := by
  unfold cutV cutL
  rw [l.length]
  exact (l.drop _).take _
abbrev FO := Env → (Option Int → Env → Prop) → XP → Prop
structure DOp (X : Cx) (Wx : WX) (P I : List Nat) (e : Option Expr) (t : TO) (F : FO) (J : List Nat) : Prop where
  pe : PO X e t
  ev : ∀ (W : Wd) (ρ : Env) (σ : St) (Hb H : Hp) (Q : Option Int → Hp → Prop) (post : Option Int → Env → Prop) (xp : XP), EnvOk X.K W P I ρ σ Hb H → F ρ post xp → XOk X Wx W P σ xp →
    (∀ o ρ' Hb' H', post o ρ' → EnvOk X.K W P J ρ' σ Hb' H' → Sub Hb Hb' → Q o H') → t σ H Q
def oNone : FO := fun ρ post _ => post none ρ
@[simp ↓] theorem oNone_ap (ρ : Env) (post : Option Int → Env → Prop) (z_2 : XP) : oNone  ρ post z_2 = (post none ρ) := (rfl)
def oSome (F : FE) : FO := fun ρ post xp => F ρ (fun d ρ1 => match d with
  | .int i => post (some i) ρ1
  | _ => False) xp
@[simp ↓] theorem oSome_ap (F : FE) (ρ : Env) (post : Option Int → Env → Prop) (xp : XP) : oSome F ρ post xp = (F ρ (fun d ρ1 => match d with
  | .int i => post (some i) ρ1
  | _ => False) xp) := (rfl)
def gCut (d : D) (lo hi : Option Int) (k : D → Prop) : Prop := match d with
  | .lst ds => k (.lst (cutL ds lo hi))
  | .slst ds => k (.lst (cutL ds lo hi))
  | .tup ds => k (.tup (cutL ds lo hi))
  | _ => False
def fCut (F : FE) (A B : FO) : FE := fun ρ post xp => F ρ (fun d ρ1 => A ρ1 (fun lo ρ2 => B ρ2 (fun hi ρ3 => gCut d lo hi fun z => post z ρ3) xp) xp) xp
@[simp ↓] theorem fCut_ap (F : FE) (A B : FO) (ρ : Env) (post : Post) (xp : XP) : fCut F A B ρ post xp = (F ρ (fun d ρ1 => A ρ1 (fun lo ρ2 => B ρ2 (fun hi ρ3 => gCut d lo hi fun z => post z ρ3) xp) xp) xp) := (rfl)
theorem cutL_whole {ds : List D} {lo hi : Option Int} (h : HT.sIx ds.length 0 lo = 0 ∧ HT.sIx ds.length ds.length hi = ds.length) : cutL ds lo hi = ds := by
  unfold cutL
  rw [h.1, h.2]
  simp
section
variable {X : Cx} {Wx : WX} {P L I J J1 J2 : List Nat} {e a b c o k : Expr} {eo : Option Expr} {es : List Expr} {F G : FE} {A B : FO} {pos p2 : Pos} {ta : TE} {tl th : TO}
theorem do_none : DOp X Wx P I none tNoPart oNone I := ⟨po_none, fun W ρ σ Hb H Q post xp E f _ q => q _ _ _ _ f E (Sub.refl _)⟩
theorem do_some (h : DE X Wx P I e ta F J) : DOp X Wx P I (some e) (tPart ta) (oSome F) J := by
  obtain ⟨p, k⟩ := h
  refine ⟨po_some p, fun W ρ σ Hb H Q post xp E f x q => k W ρ σ Hb H _ _ xp E f x fun d ρ1 v Hb1 H1 f1 E1 s1 i1 => ?_⟩
  cases d <;> first | exact f1.elim | skip
  exact ⟨_, is_int i1, q _ _ _ _ f1 E1 s1⟩
theorem cut_core {lo hi : Option Expr} (h : DE X Wx P I e ta F J1) (ha : DOp X Wx P J1 lo tl A J2) (hb : DOp X Wx P J2 hi th B J) : ∀ (W : Wd) (ρ : Env) (σ : St) (Hb H : Hp) (Q : VK) (post : D → Option Int → Option Int → Env → Prop) (xp : XP), EnvOk X.K W P I ρ σ Hb H →
    F ρ (fun d ρ1 => A ρ1 (fun lo ρ2 => B ρ2 (fun hi ρ3 => post d lo hi ρ3) xp) xp) xp → XOk X Wx W P σ xp →
    ∀ r : V → Option Int → Option Int → Hp → VK → Prop, (∀ d lo hi ρ' v Hb' H', post d lo hi ρ' → EnvOk X.K W P J ρ' σ Hb' H' → Sub Hb Hb' → Is X.K Hb' v d → r v lo hi H' Q) → tSl r ta tl th σ H Q := by
  obtain ⟨p1, k1⟩ := h
  obtain ⟨p2, k2⟩ := ha
  obtain ⟨p3, k3⟩ := hb
  exact fun W ρ σ Hb H Q post xp E f x r q => k1 W ρ σ Hb H _ _ xp E f x fun d ρ1 v Hb1 H1 f1 E1 s1 i1 => k2 W ρ1 σ Hb1 H1 _ _ xp E1 f1 x fun lo ρ2 Hb2 H2 f2 E2 s2 =>
    k3 W ρ2 σ Hb2 H2 _ _ xp E2 f2 x fun hi ρ3 Hb3 H3 f3 E3 s3 => q _ _ _ _ _ _ _ f3 E3 ((s1.trans s2).trans s3) ((i1.mono s2).mono s3)
theorem de_cut {lo hi : Option Expr} (h : DE X Wx P I e ta F J1) (ha : DOp X Wx P J1 lo tl A J2) (hb : DOp X Wx P J2 hi th B J) : DE X Wx P I (.Subscript e (.Slice lo hi none p2) pos) (tSl (fun x lo hi H Q => rSlL X.K x lo hi H Q ∨ rSlA X.K x lo hi H Q) ta tl th) (fCut F A B) J := by
  have kk := cut_core h ha hb
  refine de_of (pe_slice (SlR.or sl_list sl_tupA) h.pe ha.pe hb.pe) fun W ρ σ Hb H Q post xp E f x q => kk W ρ σ Hb H Q _ xp E f x _ fun d lo hi ρ' v Hb' H' f1 E1 s1 i1 => ?_
  unfold gCut at f1
  split at f1
  · obtain ⟨a, vs, rfl, hs, l⟩ := is_lstD i1 rfl
    exact .inl ⟨a, vs, rfl, E1.sub.sqL hs, fun p hp => q _ _ _ _ _ f1 (E1.alloc hp) (s1.trans (Sub.new (E1.sub.none hp))) (.lst upd_same ((cut_is l lo hi).mono (Sub.new (E1.sub.none hp))))⟩
  · obtain ⟨a, vs, rfl, hs, l⟩ := is_lstD i1 rfl
    exact .inl ⟨a, vs, rfl, E1.sub.sqL hs, fun p hp => q _ _ _ _ _ f1 (E1.alloc hp) (s1.trans (Sub.new (E1.sub.none hp))) (.lst upd_same ((cut_is l lo hi).mono (Sub.new (E1.sub.none hp))))⟩
  · obtain ⟨a, vs, rfl, hs, l⟩ := is_tupD i1 rfl
    refine .inr ⟨a, vs, rfl, E1.sub.sqT hs, fun hw => ?_, fun hw p hp => ?_⟩
    · rw [l.length] at hw
      rw [cutL_whole hw] at f1
      exact q _ _ _ _ _ f1 E1 s1 i1
    · exact q _ _ _ _ _ f1 (E1.alloc hp) (s1.trans (Sub.new (E1.sub.none hp))) (.tup upd_same ((cut_is l lo hi).mono (Sub.new (E1.sub.none hp))))
  · exact f1.elim
/-- a slice of a list as a new cell -/
theorem dn_cut {lo hi : Option Expr} (h : DE X Wx P I e ta F J1) (ha : DOp X Wx P J1 lo tl A J2) (hb : DOp X Wx P J2 hi th B J) : DNw X Wx P I (.Subscript e (.Slice lo hi none p2) pos) (tSl (rSlL X.K) ta tl th)
    (fun ρ post xp => F ρ (fun d ρ1 => A ρ1 (fun lo ρ2 => B ρ2 (fun hi ρ3 => ∃ ds, lstD d = some ds ∧ post (.lst (cutL ds lo hi)) ρ3) xp) xp) xp) J := by
  have kk := cut_core h ha hb
  refine ⟨pe_slice sl_list h.pe ha.pe hb.pe, fun W ρ σ Hb H Q post xp E f x q => kk W ρ σ Hb H Q _ xp E f x _ fun d lo hi ρ' v Hb' H' f1 E1 s1 i1 => ?_⟩
  obtain ⟨ds, ed, f1⟩ := f1
  obtain ⟨a, vs, rfl, hs, l⟩ := is_lstD i1 ed
  exact ⟨a, vs, rfl, E1.sub.sqL hs, fun p hp => q _ _ _ _ _ f1 (E1.more hp) s1 (NewAt.mk' E1 hp ⟨_, upd_same, cut_is l lo hi⟩)⟩
end
end DL

/-! DL7: list comprehensions over data. -/
namespace DL
open PySem L2
open PyProof.Rows hiding St

@[simp] def wipeE (ρ : Env) : List Nat → Env
  | [] => ρ
  | v :: vs => put (wipeE ρ vs) v none
/-- the slots vs as they were in ρ -/
@[simp] def unwipe (ρ ρ' : Env) : List Nat → Env
  | [] => ρ'
  | v :: vs => put (unwipe ρ ρ' vs) v (get ρ v)
theorem wipeE_len (ρ : Env) : ∀ vs, (wipeE ρ vs).length = ρ.length
  | [] => rfl
  | v :: vs => (put_length _ _ _).trans (wipeE_len ρ vs)
theorem unwipe_len (ρ ρ' : Env) : ∀ vs, (unwipe ρ ρ' vs).length = ρ'.length
  | [] => rfl
  | v :: vs => (put_length _ _ _).trans (unwipe_len ρ ρ' vs)
theorem get_wipe {ρ : Env} {i : Nat} {d : D} : ∀ {vs : List Nat}, get (wipeE ρ vs) i = some d → get ρ i = some d ∧ i ∉ vs
  | [], h => ⟨h, by simp⟩
  | v :: vs, h => by
    rcases get_put (show get (put (wipeE ρ vs) v none) i = some d from h) with ⟨_, q⟩ | ⟨n, q⟩
    · cases q
    · obtain ⟨a, b⟩ := get_wipe q
      exact ⟨a, by simp only [List.mem_cons, not_or]; exact ⟨n, b⟩⟩
theorem get_unwipe {ρ ρ' : Env} {i : Nat} {d : D} : ∀ {vs : List Nat}, get (unwipe ρ ρ' vs) i = some d → (i ∈ vs ∧ get ρ i = some d) ∨ (i ∉ vs ∧ get ρ' i = some d)
  | [], h => .inr ⟨by simp, h⟩
  | v :: vs, h => by
    rcases get_put (show get (put (unwipe ρ ρ' vs) v (get ρ v)) i = some d from h) with ⟨e, q⟩ | ⟨n, q⟩
    · subst e; exact .inl ⟨List.mem_cons_self, q⟩
    · rcases get_unwipe q with ⟨a, b⟩ | ⟨a, b⟩
      · exact .inl ⟨List.mem_cons_of_mem _ a, b⟩
      · exact .inr ⟨by simp only [List.mem_cons, not_or]; exact ⟨n, a⟩, b⟩
theorem wipe_get {σ : St} {i : Nat} : ∀ {vs : List Nat}, i ∉ vs → (wipe σ vs)[i]? = σ[i]?
  | [], _ => rfl
  | v :: vs, h => by
    simp only [List.mem_cons, not_or] at h
    unfold wipe
    rw [List.getElem?_set_ne (Ne.symm h.1)]
    exact wipe_get h.2
theorem wipe_in {σ : St} {i : Nat} : ∀ {vs : List Nat}, i ∈ vs → i < σ.length → (wipe σ vs)[i]? = some none
  | [], h, _ => by cases h
  | v :: vs, h, hl => by
    unfold wipe
    by_cases e : v = i
    · subst e
      rw [List.getElem?_set_self (by rw [wipe_length]; exact hl)]
    · rw [List.getElem?_set_ne e]
      exact wipe_in ((List.mem_cons.mp h).resolve_left (Ne.symm e)) hl
theorem wipe_ext {σ σ' : St} {vs : List Nat} (hl : σ'.length = σ.length) (h : ∀ i, i ∉ vs → σ'[i]? = σ[i]?) : wipe σ' vs = wipe σ vs := by
  apply List.ext_getElem?
  intro i
  by_cases hi : i ∈ vs
  · by_cases hb : i < σ.length
    · rw [wipe_in hi hb, wipe_in hi (by rw [hl]; exact hb)]
    · rw [List.getElem?_eq_none (by rw [wipe_length]; omega), List.getElem?_eq_none (by rw [wipe_length]; omega)]
  · rw [wipe_get hi, wipe_get hi, h i hi]
section
variable {K : PySem.W.Frag} {W : Wd} {P I : List Nat} {ρ : Env} {σ : St} {Hb H : Hp} {vs : List Nat}
theorem EnvOk.wiped (E : EnvOk K W P I ρ σ Hb H) (hP : ∀ v ∈ vs, v ∉ P ∧ v ∉ I) : EnvOk K W P I (wipeE ρ vs) (wipe σ vs) Hb H where
  sub := E.sub
  stp := E.stp
  len := by rw [wipe_length, wipeE_len]; exact E.len
  val := fun i d g nP nI => by
    obtain ⟨g, h⟩ := get_wipe g
    obtain ⟨v, e, is⟩ := E.val i d g nP nI
    exact ⟨v, by rw [wipe_get h]; exact e, is⟩
  celF := fun i d hi g => by
    obtain ⟨g, h⟩ := get_wipe g
    obtain ⟨p, e, r⟩ := E.celF i d hi g
    exact ⟨p, by rw [wipe_get h]; exact e, r⟩
  sepF := fun i j p q di dj a hi hj gi gj ei ej => by
    obtain ⟨a1, b1⟩ := get_wipe gi
    obtain ⟨a2, b2⟩ := get_wipe gj
    rw [wipe_get b1] at ei
    rw [wipe_get b2] at ej
    exact E.sepF i j p q di dj a hi hj a1 a2 ei ej
/-- out of the block: its own names as they were -/
theorem EnvOk.unwiped {W' : Wd} {ρ' : Env} {σ' : St} {Hb' H' : Hp} (E : EnvOk K W P I ρ σ Hb H) (E' : EnvOk K W' P I ρ' σ' Hb' H') (s : Sub Hb Hb') (o : σ'.length = σ.length ∧ ∀ i, i ∉ vs → σ'[i]? = σ[i]?) (hP : ∀ v ∈ vs, v ∉ P ∧ v ∉ I) :
    EnvOk K W' P I (unwipe ρ ρ' vs) σ Hb' H' where
  sub := E'.sub
  stp := E'.stp
  len := by rw [unwipe_len, ← E'.len, o.1]
  val := fun i d g nP nI => by
    rcases get_unwipe g with ⟨a, b⟩ | ⟨a, b⟩
    · obtain ⟨v, e, is⟩ := E.val i d b nP nI
      exact ⟨v, e, is.mono s⟩
    · obtain ⟨v, e, is⟩ := E'.val i d b nP nI
      exact ⟨v, by rw [← o.2 i a]; exact e, is⟩
  celF := fun i d hi g => by
    rcases get_unwipe g with ⟨a, b⟩ | ⟨a, b⟩
    · exact absurd hi (fun q => q.elim (hP i a).1 (hP i a).2)
    · obtain ⟨p, e, r⟩ := E'.celF i d hi b
      exact ⟨p, by rw [← o.2 i a]; exact e, r⟩
  sepF := fun i j p q di dj a hi hj gi gj ei ej => by
    have back : ∀ {k : Nat} {d : D}, (k ∈ P ∨ k ∈ I) → get (unwipe ρ ρ' vs) k = some d → get ρ' k = some d ∧ k ∉ vs := fun {k d} hk g => by
      rcases get_unwipe g with ⟨a, b⟩ | ⟨a, b⟩
      · exact absurd hk (fun q => q.elim (hP k a).1 (hP k a).2)
      · exact ⟨b, a⟩
    obtain ⟨a1, b1⟩ := back hi gi
    obtain ⟨a2, b2⟩ := back hj gj
    exact E'.sepF i j p q di dj a hi hj a1 a2 (by rw [o.2 i b1]; exact ei) (by rw [o.2 j b2]; exact ej)
/-- an object that nothing here knows is written -/
theorem EnvOk.pokeF {p : Addr} {o : HO} (E : EnvOk K W P I ρ σ Hb H) (nb : Hb p = none) (wn : W.H p = none) (un : ∀ i di q, (i ∈ P ∨ i ∈ I) → get ρ i = some di → σ[i]? = some (some (.ref q)) → ¬ foot H q di p) : EnvOk K W P I ρ σ Hb (upd H p o) := by
  have ne : ∀ i d q a, (i ∈ P ∨ i ∈ I) → get ρ i = some d → σ[i]? = some (some (.ref q)) → foot H q d a → a ≠ p := fun i d q a hi g e ha z => by
    subst z; exact un i d q hi g e ha
  obtain ⟨k1, k2⟩ := E.cells (H' := upd H p o) (W' := W) (Sub.refl Hb) (fun i d q a u hi g e ha hu => ⟨by rw [upd_ne (ne i d q a hi g e ha)]; exact hu, by
    obtain ⟨q', e', _, _, f⟩ := E.celF i d hi g
    rw [e] at e'; cases e'
    exact (f a ha).1⟩) (fun _ _ _ _ _ _ _ _ => ⟨id, id⟩) (fun _ _ _ _ _ _ _ _ => id)
  refine ⟨fun a x ea => ?_, ⟨E.stp.hb, fun a x ea n => ?_, E.stp.fs, fun a ea => ?_, fun a vs ea => ?_⟩, E.len, E.val, k1, k2⟩
  · have ha : a ≠ p := fun z => by subst z; rw [nb] at ea; cases ea
    rw [upd_ne ha]; exact E.sub a x ea
  · have ha : a ≠ p := fun z => by subst z; rw [wn] at ea; cases ea
    rw [upd_ne ha]; exact E.stp.fr a x ea n
  · by_cases ha : a = p
    · subst ha; rw [upd_same] at ea; cases ea
    · rw [upd_ne ha] at ea; exact E.stp.al a ea
  · by_cases ha : a = p
    · subst ha; exact .inl wn
    · rw [upd_ne ha] at ea; exact E.stp.tp a vs ea
theorem NewAt.grow {p : Addr} {d : D} {Hb' H' : Hp} (E : EnvOk K W P I ρ σ Hb H) (n : NewAt K W P I ρ σ Hb H p d) (g : Grow Hb H Hb' H') : NewAt K W P I ρ σ Hb' H' p d := by
  induction g with
  | refl => exact n
  | @step Hb1 H1 r o g h ih =>
    have E1 := (g.env E).1
    have hne : ∀ a, foot H1 p d a → a ≠ r := fun a ha z => by
      subst z
      obtain ⟨o, ho, _⟩ := ih.cell.footS ha
      rw [h] at ho; cases ho
    have rt : ∀ a, foot (upd H1 r o) p d a → foot H1 p d a := fun a ha => foot.cong (by rw [upd_ne (hne p foot.root)]) ha
    refine ⟨ih.cell.mono (Sub.new (E1.sub.none h)) fun a o ha eo => by rw [upd_ne (hne a ha)]; exact eo, fun a ha => ⟨by rw [upd_ne (hne a (rt a ha))]; exact (ih.nbF a (rt a ha)).1, (ih.nbF a (rt a ha)).2⟩, fun i di q a hi g e ha fa => ?_⟩
    have hq : q ≠ r := fun z => by
      subst z
      obtain ⟨o, ho⟩ := E1.noneF hi g e foot.root
      rw [h] at ho; cases ho
    exact ih.unF i di q a hi g e (rt a ha) (foot.cong (by rw [upd_ne hq]) fa)
  | @know Hb1 H1 r vs g h ih =>
    have hne : ∀ a, foot H1 p d a → a ≠ r := fun a ha z => by
      subst z
      obtain ⟨o, ho, nt⟩ := ih.cell.footS ha
      rw [h] at ho; cases ho
      exact nt _ rfl
    exact ⟨ih.cell.mono ((g.env E).1.know h).2 fun a o ha eo => eo, fun a ha => ⟨by rw [upd_ne (hne a ha)]; exact (ih.nbF a ha).1, (ih.nbF a ha).2⟩, ih.unF⟩
/-- a new cell, over a stretch in which it was not known -/
theorem NewAt.over {p : Addr} {d : D} {ρ' : Env} {Hb' H' : Hp} (n : NewAt K W P I ρ σ Hb H p d) (E8 : EnvOk K (here P I ρ σ Hb H) (P ++ I) [] ρ' σ Hb' H') : NewAt K W P I ρ' σ Hb' H' p d := by
  have kp : ∀ a, foot H p d a → ∃ o, H a = some o ∧ H' a = some o ∧ Hb' a = none := fun a ha => by
    obtain ⟨o, ho, nt⟩ := n.cell.footS ha
    have no : ∀ i, ¬ (here P I ρ σ Hb H).ps i a := fun i ⟨hi, di, q, g, e, fa⟩ => n.unF i di q a hi g e ha fa
    exact ⟨o, ho, E8.stp.own (n.nbF a ha).1 ho no, E8.stp.nb (n.nbF a ha).1 ho nt⟩
  have rt : H' p = H p := by
    obtain ⟨o, e1, e2, _⟩ := kp p foot.root
    rw [e1, e2]
  refine ⟨n.cell.mono E8.stp.hb fun a o ha eo => ?_, fun a ha => ?_, fun i di q a hi g e ha fa => ?_⟩
  · obtain ⟨o', e1, e2, _⟩ := kp a ha
    rw [eo] at e1; cases e1; exact e2
  · have ha := foot.cong rt ha
    obtain ⟨_, _, _, nb⟩ := kp a ha
    exact ⟨nb, (n.nbF a ha).2⟩
  · have ha := foot.cong rt ha
    obtain ⟨q', e', _, _, f⟩ := E8.celF i di (.inl (List.mem_append.mpr hi)) g
    rw [e] at e'; cases e'
    rcases (f a fa).2.1 (List.mem_append.mpr hi) with ⟨hi', d1, q1, g1, e1, f1⟩ | r
    · exact n.unF i d1 q1 a hi' g1 e1 ha f1
    · obtain ⟨o, e1, _⟩ := kp a ha
      have r : H a = none := r
      rw [e1] at r; cases r
/-- a new cell is written -/
theorem NewAt.write {p : Addr} {d d' : D} {o : HO} (E : EnvOk K W P I ρ σ Hb H) (n : NewAt K W P I ρ σ Hb H p d) (c : Cell K Hb (upd H p o) p d') (fl : ∀ o, partOf o d' = none := by intro o; cases o <;> (try rename_i o; cases o) <;> rfl) :
    EnvOk K W P I ρ σ Hb (upd H p o) ∧ NewAt K W P I ρ σ Hb (upd H p o) p d' := by
  refine ⟨E.pokeF n.nb n.wn fun i di q hi g e ft => n.unF i di q p hi g e foot.root ft, c, fun a ha => ?_, fun i di q a hi g e ha fa => ?_⟩
  · have := flat_foot fl ha
    subst this
    exact ⟨n.nb, n.wn⟩
  · have := flat_foot fl ha
    subst this
    have nq : q ≠ a := fun z => by subst z; exact n.unF i di q q hi g e foot.root foot.root
    exact n.unF i di q a hi g e foot.root (foot.cong (by rw [upd_ne nq]) fa)
end

/-- no exception leaves a comprehension -/
def noX : XP := fun _ _ => False
abbrev WN : WX := fun _ _ _ _ => False
/-- the comprehension's turns -/
def compL (vs : List Nat) (g : FG) (T : FT) (E : FE) (post : Post) : List D → List D → Env → Prop
  | [], acc, ρ => post (.lst acc) ρ
  | d :: ds, acc, ρ => g d (wipeE ρ vs) fun ρ1 => T ρ1 (fun b ρ2 => if b = true then E ρ2 (fun y ρ3 => acc.length < 1000000 ∧ compL vs g T E post ds (acc ++ [y]) (unwipe ρ ρ3 vs)) noX else compL vs g T E post ds acc (unwipe ρ ρ2 vs)) noX
def compK (vs : List Nat) (g : FG) (T : FT) (E : FE) (post : Post) (_ : Lock post noX) (ds acc : List D) (ρ : Env) : Prop := compL vs g T E post ds acc ρ
def fLc (A : FA) (vs : List Nat) (g : FG) (T : FT) (E : FE) : FE := fun ρ post xp => A ρ (fun ds ρ1 => compK vs g T E post .mk ds [] ρ1) xp
@[simp ↓] theorem fLc_ap (A : FA) (vs : List Nat) (g : FG) (T : FT) (E : FE) (ρ : Env) (post : Post) (xp : XP) : fLc A vs g T E ρ post xp = (A ρ (fun ds ρ1 => compK vs g T E post .mk ds [] ρ1) xp) := (rfl)
def tYesD : FT := fun ρ post _ => post true ρ
@[simp ↓] theorem tYesD_ap (ρ : Env) (post : Bool → Env → Prop) (z_2 : XP) : tYesD  ρ post z_2 = (post true ρ) := (rfl)
structure DTs (X : Cx) (Wx : WX) (P I : List Nat) (ifs : List Expr) (t : TT) (F : FT) (J : List Nat) : Prop where
  pe : PTs X ifs t
  ev : ∀ (W : Wd) (ρ : Env) (σ : St) (Hb H : Hp) (Q : Bool → Hp → Prop) (post : Bool → Env → Prop) (xp : XP), EnvOk X.K W P I ρ σ Hb H → F ρ post xp → XOk X Wx W P σ xp →
    (∀ b ρ' Hb' H', post b ρ' → EnvOk X.K W P J ρ' σ Hb' H' → Sub Hb Hb' → Q b H') → t σ H Q
theorem dts_nil {X : Cx} {Wx : WX} {P I : List Nat} : DTs X Wx P I [] tYes tYesD I := ⟨pts_nil, fun W ρ σ Hb H Q post xp E f _ q => q _ _ _ _ f E (Sub.refl _)⟩
theorem dts_one {X : Cx} {Wx : WX} {P I J : List Nat} {c : Expr} {t : TT} {F : FT} (h : DT X Wx P I c t F J) : DTs X Wx P I [c] t F J := ⟨pts_one h.pe, h.ev⟩
section
variable {X : Cx} {Wx : WX} {P L I J : List Nat} {elt tg iter : Expr} {ifs : List Expr} {scope : Scope} {own : List (Str × Nat)} {pos spos py : Pos} {wi : TI} {g : TG} {tt : TT} {te : TE} {A : FA} {gd : FG} {T : FT} {E : FE} {ts : List Nat}
theorem lc_ev (hi : DI X Wx P I tg iter wi A J) (hg : ∀ (s : Shared) (H : Hp) (C : Addr) (cl : List (Str × Addr)) (fp : List Addr), DG (X.blk s H scope (compEnvC scope cl C X.env) fp) (P ++ J) [] tg ts g gd)
    (ht : ∀ (s : Shared) (H : Hp) (C : Addr) (cl : List (Str × Addr)) (fp : List Addr), DTs (X.blk s H scope (compEnvC scope cl C X.env) fp) WN (P ++ J) [] ifs tt T [])
    (he : ∀ (s : Shared) (H : Hp) (C : Addr) (cl : List (Str × Addr)) (fp : List Addr), DE (X.blk s H scope (compEnvC scope cl C X.env) fp) WN (P ++ J) [] elt te E [])
    (hts : ∀ v ∈ ts, v ∈ own.map (·.2)) (hvs : ∀ v ∈ own.map (·.2), v ∉ P ∧ v ∉ J) :
    ∀ (W : Wd) (ρ : Env) (σ : St) (Hb H : Hp) (Q : VK) (post : Post) (xp : XP), EnvOk X.K W P I ρ σ Hb H → fLc A (own.map (·.2)) gd T E ρ post xp → XOk X Wx W P σ xp →
    (∀ d ρ' p Hb' H', post d ρ' → EnvOk X.K W P J ρ' σ Hb' H' → Sub Hb Hb' → NewAt X.K W P J ρ' σ Hb' H' p d → Q (.ref p) H') → tLc wi g tt te (own.map (·.2)) σ H Q := by
  intro W ρ σ Hb H Q post xp E0 f x q
  refine hi.ev W ρ σ Hb H _ _ xp E0 f x fun ds ρ1 Jt Hb1 H1 f1 E1 s1 it => ?_
  have f1 : compL (own.map (·.2)) gd T E post ds [] ρ1 := f1
  intro D hD
  let s0 : Shared := {}
  refine ⟨fun i m H' => m = ds.length - i ∧ i ≤ ds.length ∧ ∃ ρ' Hb' acc, EnvOk X.K W P J ρ' σ Hb' H' ∧ Sub Hb1 Hb' ∧ NewAt X.K W P J ρ' σ Hb' H' D (.lst acc) ∧ compL (own.map (·.2)) gd T E post (ds.drop i) acc ρ',
    ⟨_, rfl, Nat.zero_le _, ρ1, Hb1, [], E1.more hD, Sub.refl _, NewAt.mk' E1 hD ⟨[], upd_same, .nil⟩, f1⟩, ?_⟩
  rintro i m H2 ⟨rfl, hi, ρ2, Hb2, acc, E2, s2, n2, f2⟩
  obtain ⟨i1, i2⟩ := it i H2 Hb2 s2 E2.sub
  by_cases hlt : i < ds.length
  · rw [List.drop_eq_getElem_cons hlt] at f2
    unfold compL at f2
    obtain ⟨go, yl⟩ := i1 ds[i] (List.getElem?_eq_getElem hlt)
    refine .inr ⟨go, fun H' => ∃ ρ' Hb' acc, EnvOk X.K W P J ρ' σ Hb' H' ∧ Sub Hb1 Hb' ∧ NewAt X.K W P J ρ' σ Hb' H' D (.lst acc) ∧ compL (own.map (·.2)) gd T E post (ds.drop (i + 1)) acc ρ', fun H' h => ⟨ds.length - (i + 1), by omega, rfl, hlt, h⟩, fun y H3 yy => ?_⟩
    obtain ⟨Hb3, gr, is⟩ := yl y H3 yy
    obtain ⟨E3, s3⟩ := gr.env E2
    have n3 := n2.grow E2 gr
    have hP' : ∀ v ∈ own.map (·.2), v ∉ P ++ J ∧ v ∉ ([] : List Nat) := fun v hv => ⟨fun z => (List.mem_append.mp z).elim (hvs v hv).1 (hvs v hv).2, by simp⟩
    have EL := E3.lent
    have EW := EL.wiped hP'
    have xn : ∀ (Y : Cx) (σ' : St), XOk Y WN (here P J ρ2 σ Hb3 H3) (P ++ J) σ' noX := fun Y σ' c ρ' cls dx Hb' H' z => z.elim
    refine (hg s0 H3 0 [] []).ev (here P J ρ2 σ Hb3 H3) (wipeE ρ2 (own.map (·.2))) (wipe σ (own.map (·.2))) Hb3 H3 y _ _ _ EW is f2 fun ρ4 σ4 f4 E4 o4 => ?_
    have off : σ4.length = σ.length ∧ ∀ i, i ∉ own.map (·.2) → σ4[i]? = σ[i]? := ⟨by rw [o4.1, wipe_length], fun i hi => by rw [o4.2 i fun z => hi (hts i z), wipe_get hi]⟩
    refine ⟨wipe_ext off.1 off.2, (ht s0 H3 0 [] []).ev _ ρ4 σ4 Hb3 H3 _ _ noX E4 f4 (xn _ _) fun b ρ5 Hb5 H5 f5 E5 s5 => ?_⟩
    cases b with
    | true =>
      rw [if_pos rfl] at f5 ⊢
      refine (he s0 H3 0 [] []).ev _ ρ5 σ4 Hb5 H5 _ _ noX E5 f5 (xn _ _) fun z ρ6 v Hb6 H6 f6 E6 s6 i6 => ?_
      have E8 := EL.unwiped E6 (s5.trans s6) off hP'
      have E7 := E3.back E8
      have n7 := n3.over E8
      obtain ⟨vs, hv, lv⟩ := n7.cell
      obtain ⟨E9, n9⟩ := n7.write (o := .lst (vs ++ [v])) (d' := .lst (acc ++ [z])) E7 ⟨_, upd_same, lv.snoc i6⟩
      exact ⟨vs, hv, by rw [lv.length]; exact Nat.lt_of_lt_of_le f6.1 (by decide), _, Hb6, acc ++ [z], E9, ((s2.trans s3).trans s5).trans s6, n9, f6.2⟩
    | false =>
      rw [if_neg Bool.false_ne_true] at f5 ⊢
      have E8 := EL.unwiped E5 s5 off hP'
      exact ⟨_, Hb5, acc, E3.back E8, (s2.trans s3).trans s5, n3.over E8, f5⟩
  · have e : i = ds.length := by omega
    subst e
    rw [List.drop_length] at f2
    exact .inl ⟨i2 rfl, q _ _ _ _ _ f2 E2 (s1.trans s2) n2⟩
theorem dn_lc (own : List (Str × Nat)) (hc : X.calm = true) (hN : X.N.Nodup) (hi : DI X Wx P I tg iter wi A J) (ok : BlkOk X.N X.env.scope scope own)
    (hg : ∀ (s : Shared) (H : Hp) (C : Addr) (cl : List (Str × Addr)) (fp : List Addr), DG (X.blk s H scope (compEnvC scope cl C X.env) fp) (P ++ J) [] tg ts g gd)
    (ht : ∀ (s : Shared) (H : Hp) (C : Addr) (cl : List (Str × Addr)) (fp : List Addr), DTs (X.blk s H scope (compEnvC scope cl C X.env) fp) WN (P ++ J) [] ifs tt T [])
    (he : ∀ (s : Shared) (H : Hp) (C : Addr) (cl : List (Str × Addr)) (fp : List Addr), DE (X.blk s H scope (compEnvC scope cl C X.env) fp) WN (P ++ J) [] elt te E [])
    (hts : ∀ v ∈ ts, v ∈ own.map (·.2) := by decide) (hvs : ∀ v ∈ own.map (·.2), v ∉ P ∧ v ∉ J := by decide) (hs : ∀ x, foldedSetIterable iter X.env x = pure x := by intro _; rfl) :
    DNw X Wx P I (.ListComp elt [⟨tg, iter, ifs, 0⟩] scope pos) (tLc wi g tt te (own.map (·.2))) (fLc A (own.map (·.2)) gd T E) J :=
  ⟨pe_lc hc hN hi.pe ok (fun s H C cl fp => (hg s H C cl fp).pe) (fun s H C cl fp => (ht s H C cl fp).pe) (fun s H C cl fp => (he s H C cl fp).pe) hs, lc_ev hi hg ht he hts hvs⟩
/-- y = [..]: y owns its list -/
theorem ds_setLcN (i : Nat) {y : Str} (own : List (Str × Nat)) (hc : X.calm = true) (hN : X.N.Nodup) (hsw : swapsWith (.ListComp elt [⟨tg, iter, ifs, 0⟩] scope pos) (some (.Name y py)) spos.line X.env = pure true) (hi : DI X Wx P I tg iter wi A J) (ok : BlkOk X.N X.env.scope scope own)
    (hg : ∀ (s : Shared) (H : Hp) (C : Addr) (cl : List (Str × Addr)) (fp : List Addr), DG (X.blk s H scope (compEnvC scope cl C X.env) fp) (P ++ J) [] tg ts g gd)
    (ht : ∀ (s : Shared) (H : Hp) (C : Addr) (cl : List (Str × Addr)) (fp : List Addr), DTs (X.blk s H scope (compEnvC scope cl C X.env) fp) WN (P ++ J) [] ifs tt T [])
    (he : ∀ (s : Shared) (H : Hp) (C : Addr) (cl : List (Str × Addr)) (fp : List Addr), DE (X.blk s H scope (compEnvC scope cl C X.env) fp) WN (P ++ J) [] elt te E [])
    (hy : X.N[i]? = some y := by rfl) (hyl : X.env.scope.names.lookup y = some .local := by rfl) (hP : i ∉ P := by decide)
    (hts : ∀ v ∈ ts, v ∈ own.map (·.2) := by decide) (hvs : ∀ v ∈ own.map (·.2), v ∉ P ∧ v ∉ J := by decide) (hs : ∀ x, foldedSetIterable iter X.env x = pure x := by intro _; rfl) :
    DS X Wx P L I (.Assign [.Name y py] (.ListComp elt [⟨tg, iter, ifs, 0⟩] scope pos) spos) (fSetN i (fLc A (own.map (·.2)) gd T E)) (i :: J) :=
  ⟨_, ps_setLc hc hN hy hyl hsw hi.pe ok (fun s H C cl fp => (hg s H C cl fp).pe) (fun s H C cl fp => (ht s H C cl fp).pe) (fun s H C cl fp => (he s H C cl fp).pe) hs,
    fun W ρ σ Hb H D S E f q => lc_ev hi hg ht he hts hvs W ρ σ Hb H _ _ _ E f (q.xok σ) fun d ρ1 p Hb1 H1 f1 E1 s1 n => q.nx _ _ _ _ f1.2 (E1.take n hP f1.1) s1⟩
/-- y = [..]: the list is never changed -/
theorem ds_setLc (i : Nat) {y : Str} (own : List (Str × Nat)) (hc : X.calm = true) (hN : X.N.Nodup) (hsw : swapsWith (.ListComp elt [⟨tg, iter, ifs, 0⟩] scope pos) (some (.Name y py)) spos.line X.env = pure true) (hi : DI X Wx P I tg iter wi A J) (ok : BlkOk X.N X.env.scope scope own)
    (hg : ∀ (s : Shared) (H : Hp) (C : Addr) (cl : List (Str × Addr)) (fp : List Addr), DG (X.blk s H scope (compEnvC scope cl C X.env) fp) (P ++ J) [] tg ts g gd)
    (ht : ∀ (s : Shared) (H : Hp) (C : Addr) (cl : List (Str × Addr)) (fp : List Addr), DTs (X.blk s H scope (compEnvC scope cl C X.env) fp) WN (P ++ J) [] ifs tt T [])
    (he : ∀ (s : Shared) (H : Hp) (C : Addr) (cl : List (Str × Addr)) (fp : List Addr), DE (X.blk s H scope (compEnvC scope cl C X.env) fp) WN (P ++ J) [] elt te E [])
    (hy : X.N[i]? = some y := by rfl) (hyl : X.env.scope.names.lookup y = some .local := by rfl) (hP : i ∉ P := by decide) (hI : i ∉ J := by decide)
    (hts : ∀ v ∈ ts, v ∈ own.map (·.2) := by decide) (hvs : ∀ v ∈ own.map (·.2), v ∉ P ∧ v ∉ J := by decide) (hs : ∀ x, foldedSetIterable iter X.env x = pure x := by intro _; rfl) :
    DS X Wx P L I (.Assign [.Name y py] (.ListComp elt [⟨tg, iter, ifs, 0⟩] scope pos) spos) (fSet i (fLc A (own.map (·.2)) gd T E)) J :=
  ⟨_, ps_setLc hc hN hy hyl hsw hi.pe ok (fun s H C cl fp => (hg s H C cl fp).pe) (fun s H C cl fp => (ht s H C cl fp).pe) (fun s H C cl fp => (he s H C cl fp).pe) hs,
    fun W ρ σ Hb H D S E f q => lc_ev hi hg ht he hts hvs W ρ σ Hb H _ _ _ E f (q.xok σ) fun d ρ1 p Hb1 H1 f1 E1 s1 n => by
      obtain ⟨Hb2, E2, s2, i2⟩ := E1.freeze n
      exact q.nx _ _ _ _ f1 (E2.set i2 hP hI) (s1.trans s2)⟩
end
end DL

/-! DL8: a def by its body, over data; the law's end. -/
namespace DL
open PySem L2
open PyProof.Rows hiding St

/-- the lent parameters as they stand at the end -/
def maskF (io : List Nat) : Nat → Nat → Env → Env
  | _, 0, _ => []
  | i, n + 1, ρ => (if i ∈ io then get ρ i else none) :: maskF io (i + 1) n ρ
theorem maskF_len (io : List Nat) : ∀ (n i : Nat) (ρ : Env), (maskF io i n ρ).length = n
  | 0, _, _ => rfl
  | n + 1, i, ρ => congrArg (· + 1) (maskF_len io n (i + 1) ρ)
theorem get_mask (io : List Nat) : ∀ (n i j : Nat) (ρ : Env), j < n → get (maskF io i n ρ) j = if i + j ∈ io then get ρ (i + j) else none
  | 0, _, _, _, h => by omega
  | n + 1, i, 0, ρ, h => rfl
  | n + 1, i, j + 1, ρ, h => by
    have e : i + (j + 1) = i + 1 + j := by omega
    rw [e]
    exact get_mask io n (i + 1) j ρ (by omega)
theorem get_mask_some {io : List Nat} {n j : Nat} {ρ : Env} {d : D} (h : get (maskF io 0 n ρ) j = some d) : j ∈ io ∧ get ρ j = some d ∧ j < n := by
  have hl := get_lt h
  rw [maskF_len] at hl
  rw [get_mask io n 0 j ρ hl, Nat.zero_add] at h
  split at h
  · exact ⟨by assumption, h, hl⟩
  · cases h
section
variable {K : PySem.W.Frag} {io J : List Nat} {ρ ρ' : Env} {σ' : St} {Hb H Hb' H' : Hp} {vs : List V} {n m : Nat}
theorem EnvOk.masked {ρ0 : Env} (E : EnvOk K ⟨Hb, H, lentAt io vs ρ0 H, rootAt io vs⟩ io J ρ' σ' Hb' H') (hn : vs.length = n) : EnvOk K ⟨Hb, H, lentAt io vs ρ0 H, rootAt io vs⟩ io [] (maskF io 0 n ρ') (vs.map some) Hb' H' where
  sub := E.sub
  stp := E.stp
  len := by rw [maskF_len, List.length_map, hn]
  val := fun i d g nP _ => absurd (get_mask_some g).1 nP
  celF := fun i d hi g => by
    obtain ⟨h1, h2, h3⟩ := get_mask_some g
    obtain ⟨p, e, c, hp, f⟩ := E.celF i d (.inl h1) h2
    obtain ⟨_, ev⟩ := hp h1
    exact ⟨p, by rw [List.getElem?_map, ev]; rfl, c, hp, fun a ha => ⟨(f a ha).1, (f a ha).2.1, fun q => by cases q⟩⟩
  sepF := fun i j p q di dj a hi hj gi gj ei ej fi fj => by
    have back : ∀ {k : Nat} {d : D} {r : Addr}, get (maskF io 0 n ρ') k = some d → (vs.map some)[k]? = some (some (V.ref r)) → k ∈ io ∧ get ρ' k = some d ∧ σ'[k]? = some (some (.ref r)) := fun {k d r} g e => by
      obtain ⟨h1, h2, h3⟩ := get_mask_some g
      obtain ⟨p', e', c, hp, _⟩ := E.celF k d (.inl h1) h2
      obtain ⟨_, ev⟩ := hp h1
      rw [List.getElem?_map, ev] at e
      cases e
      exact ⟨h1, h2, e'⟩
    obtain ⟨a1, a2, a3⟩ := back gi ei
    obtain ⟨b1, b2, b3⟩ := back gj ej
    exact E.sepF i j p q di dj a (.inl a1) (.inl b1) a2 b2 a3 b3 fi fj
theorem get_append_none : ∀ (ρ : Env) (m i : Nat) (d : D), get (ρ ++ List.replicate m none) i = some d → get ρ i = some d
  | [], 0, _, _, h => by simp [get] at h
  | [], m + 1, 0, _, h => by simp [get, List.replicate_succ] at h
  | [], m + 1, i + 1, d, h => get_append_none [] m i d (by simpa [List.replicate_succ, get] using h)
  | x :: r, m, 0, _, h => h
  | x :: r, m, i + 1, d, h => get_append_none r m i d h
theorem EnvOk.entry {ρ0 : Env} (E : EnvOk K ⟨Hb, H, lentAt io vs ρ0 H, rootAt io vs⟩ io [] ρ (vs.map some) Hb H) : EnvOk K ⟨Hb, H, lentAt io vs ρ0 H, rootAt io vs⟩ io [] (ρ ++ List.replicate m none) (vs.map some ++ List.replicate m none) Hb H where
  sub := E.sub
  stp := E.stp
  len := by have := E.len; rw [List.length_append, List.length_append, this, List.length_replicate, List.length_replicate]
  val := fun i d g nP nI => by
    have g := get_append_none _ _ _ _ g
    obtain ⟨v, e, is⟩ := E.val i d g nP nI
    have hl := get_lt g
    exact ⟨v, by rw [List.getElem?_append_left (by rw [E.len]; exact hl)]; exact e, is⟩
  celF := fun i d hi g => by
    have g := get_append_none _ _ _ _ g
    obtain ⟨p, e, r⟩ := E.celF i d hi g
    have hl := get_lt g
    exact ⟨p, by rw [List.getElem?_append_left (by rw [E.len]; exact hl)]; exact e, r⟩
  sepF := fun i j p q di dj a hi hj gi gj ei ej => by
    have back : ∀ {k : Nat} {d : D} {r : Addr}, get (ρ ++ List.replicate m none) k = some d → (vs.map some ++ List.replicate m none)[k]? = some (some (V.ref r)) → get ρ k = some d ∧ (vs.map some)[k]? = some (some (V.ref r)) := fun {k d r} q e => by
      have q := get_append_none _ _ _ _ q
      have hl := get_lt q
      rw [List.getElem?_append_left (by rw [E.len]; exact hl)] at e
      exact ⟨q, e⟩
    obtain ⟨a1, a2⟩ := back gi ei
    obtain ⟨b1, b2⟩ := back gj ej
    exact E.sepF i j p q di dj a hi hj a1 b1 a2 b2
end
/-- how a body may end -/
def endS (io : List Nat) (n : Nat) (post : Post) (xp : XP) : SPo where
  nx := fun ρ' => post .non (maskF io 0 n ρ')
  rt := fun d ρ' => post d (maskF io 0 n ρ')
  bk := fun _ => False
  ct := fun _ => False
  ex := fun c ρ' => xp c (maskF io 0 n ρ')
abbrev WofE (E : XK) : WX := fun cls d _ H => E cls d H
section
variable {P : Program} {w : World} {K : PySem.W.Frag} {mg : Str → Option Value} {base : Heap}
theorem ok_of {x qual : Str} {st : Stmt} {f : Addr} {fd : FuncData} {N ps : List Str} {k n : Nat} {io : List Nat} {J : List Nat} {G : DFn} {Fd : FS} (F : Fun K x qual st f fd) (S : FnScope N ps (defScope st)) (hn : ps.length = n)
    (hb : ∀ (cdv : Value) (A : Around) (outer : List PySem.Env) (s : Shared) (H : Hp) (E : XK), Room k (A.deeper (envOfC qual (defScope st) s.heap.objs.size f cdv)) →
      DSs (cxOf (L2.CX P w) P w K mg base N qual (defScope st) f cdv A outer s H E) (WofE E) io [] [] (defBody st) Fd J)
    (hg : ∀ (ρ : DL.Env) (post : Post) (xp : XP), ρ.length = n → G ρ post xp → Fd (ρ ++ List.replicate (N.length - n) none) (endS io n post xp)) : FnOk P w K mg base (L2.CX P w) (k + 1) f fd ps (spD K n io G) := by
  refine F.okX S (fun vs H Q E h => h.1.trans hn.symm) fun cdv A outer s H vs Q E hr h => ?_
  obtain ⟨hl, ρ, Hb, post, xp, E0, g, q1, q2⟩ := h
  obtain ⟨t, pt, kt⟩ := (hb cdv A outer s H E hr).run
  refine ⟨t, pt, ?_⟩
  have hρ : ρ.length = n := by rw [← E0.len, List.length_map, hl]
  have e1 : L2.start N vs = vs.map some ++ List.replicate (N.length - n) none := by unfold L2.start; rw [hl]
  rw [e1]
  refine kt ⟨Hb, H, lentAt io vs ρ H, rootAt io vs⟩ _ _ Hb H _ _ E0.entry (hg ρ post xp hρ g) ⟨fun ρ' σ' Hb' H' a E' s' => ?_, fun d ρ' σ' v Hb' H' a E' is => ?_, fun _ _ _ _ a => a.elim, fun _ _ _ _ a => a.elim, fun c ρ' cls dx σ' Hb' H' a E' xi => ?_⟩
  · exact q1 _ _ _ _ _ a (E'.masked hl) .non
  · exact q1 _ _ _ _ _ a (E'.masked hl) is
  · exact q2 _ _ _ _ _ _ a (E'.masked hl) xi
/-- another promise that asks more -/
theorem spD_imp {n : Nat} {io : List Nat} {G G' : DFn} {CX : CXT} {k : Nat} {f : Addr} {fd : FuncData} {ps : List Str} (F : FnOk P w K mg base CX k f fd ps (spD K n io G)) (h : ∀ ρ post xp, G' ρ post xp → G ρ post xp) : FnOk P w K mg base CX k f fd ps (spD K n io G') :=
  F.imp fun vs H Q E ⟨hl, ρ, Hb, post, xp, E0, g, q⟩ => ⟨hl, ρ, Hb, post, xp, E0, h _ _ _ g, q⟩
end

/-! ### the law -/
def spLaw (K : PySem.W.Frag) : Sp := fun vs H Q _ => ∃ (a : Addr) (ns : List Int), vs = [.ref a] ∧ SqL K H a (ns.map V.int) ∧ ns.length ≤ 63 ∧ ∀ H', Q (.bl true) H'
theorem isL_ints {K : PySem.W.Frag} {H : Hp} : ∀ ns : List Int, IsL K H (ns.map V.int) (ns.map D.int)
  | [] => .nil
  | n :: r => .cons (.int n) (isL_ints r)
section
variable {P : Program} {w : World} {K : PySem.W.Frag} {mg : Str → Option Value} {base : Heap}
theorem ok_law {k : Nat} {f : Addr} {fd : FuncData} {ps : List Str} {G : DFn} (F : FnOk P w K mg base (L2.CX P w) k f fd ps (spD K 1 [] G))
    (h : ∀ ns : List Int, ns.length ≤ 63 → G [some (.slst (ns.map D.int))] (fun d _ => d = .bl true) fun _ _ => False) : FnOk P w K mg base (L2.CX P w) k f fd ps (spLaw K) :=
  F.imp fun vs H Q E ⟨a, ns, e, hs, hl, q⟩ => by
    subst e
    refine ⟨rfl, [some (.slst (ns.map D.int))], H, _, _, ⟨Sub.refl _, Stp.refl _ _ _ _, rfl, fun i d g _ _ => ?_, fun i d hi _ => ?_, fun i j p q di dj a hi => ?_⟩, h ns hl, fun d ρ' v Hb' H' e _ is => ?_, fun _ _ _ _ _ _ z => z.elim⟩
    · match i, g with
      | 0, g =>
        cases g
        exact ⟨_, rfl, .slst hs (isL_ints ns)⟩
      | i + 1, g => simp [get] at g
    · rcases hi with hi | hi <;> cases hi
    · rcases hi with hi | hi <;> cases hi
    · subst e
      rw [is_bl is]
      exact q _
end
end DL

/-! DL9: isinstance, repr of flat values, chains, dict displays, stores into own lists. -/
namespace DL
open PySem L2
open PyProof.Rows hiding St

/-! ### isinstance with a built-in class -/
def tyD : D → Option String
  | .non => some "NoneType"
  | .bl _ => some "bool"
  | .int _ => some "int"
  | .str _ => some "str"
  | .tup _ => some "tuple"
  | .ktp _ => some "tuple"
  | .lst _ => some "list"
  | .slst _ => some "list"
  | .dk _ => some "dict"
  | _ => none
inductive Kd where
  | int | bool | str | tuple | list | dict
@[simp] def Kd.name : Kd → String
  | .int => "int"
  | .bool => "bool"
  | .str => "str"
  | .tuple => "tuple"
  | .list => "list"
  | .dict => "dict"
@[simp] def isK : Kd → D → Option Bool
  | .int, .bl _ => some true
  | .int, .int _ => some true
  | .bool, .bl _ => some true
  | .str, .str _ => some true
  | .tuple, .tup _ => some true
  | .tuple, .ktp _ => some true
  | .list, .lst _ => some true
  | .list, .slst _ => some true
  | .dict, .dk _ => some true
  | _, .ty _ => none
  | _, .fn _ => none
  | _, .cl _ => none
  | _, .xc _ _ => none
  | _, .obj _ _ => none
  | _, .dt _ => none
  | _, .nest _ _ => none
  | _, .nobj _ _ _ => none
  | _, _ => some false
theorem isK_kit {K : PySem.W.Frag} (c : Kd) {d : D} {b : Bool} (h : isK c d = some b) : ∃ T, tyD d = some T ∧ PySem.W.kitOne K (.type T) (.type c.name) = some b := by
  cases c <;> cases d <;> simp only [isK] at h <;> first | (cases h; done) | (cases h; exact ⟨_, rfl, kit_ty (by decide +kernel)⟩)
theorem o_tyx {K : PySem.W.Frag} {Hb H : Hp} {v : V} {d : D} {T : String} (s : Sub Hb H) (h : IsO K Hb H v d) (e : tyD d = some T) : TyX K H v (.type T) := by
  have q := h.is s
  clear h s
  cases q with
  | non => cases e; exact .base .non
  | bl b => cases e; exact .base (.bl _)
  | int i => cases e; exact .base (.int _)
  | str z => cases e; exact .base (.str _)
  | ty n => cases e
  | fn n => cases e
  | cl n => cases e
  | xc0 _ _ => cases e
  | xcd _ _ _ _ _ => cases e
  | tup h l => cases e; exact .base (.tup h)
  | lst h l => cases e; exact .base (.lst h)
  | ktp h l =>
    cases e
    rcases h with (h | ⟨o, h⟩) | ⟨o, its, n, h1, h2, _⟩
    · exact .base (.tup h)
    · exact .fTuple h
    · exact .kTuple h1 h2
  | slst h l =>
    cases e
    rcases h with (h | ⟨o, h⟩) | ⟨o, its, n, h1, h2, _⟩
    · exact .base (.lst h)
    · exact .base (.frz h)
    · exact .kList h1 h2
  | dk h e2 l =>
    cases e
    rcases h with h | ⟨o, h⟩
    · exact .base (.dK h)
    · exact .fDict h
  | dt h e2 l => cases e
  | obj c h e2 l => cases e
  | nest h e2 l => cases e
  | nobj c h e2 l => cases e
def gIsi (c : Kd) : GN
  | [d, .ty n], k => n = c.name ∧ ∃ b, isK c d = some b ∧ k (.bl b)
  | _, _ => False
theorem rv_isi {K : PySem.W.Frag} (c : Kd) : RVN K (rIsi K) (gIsi c) := fun Hb H xs ds k Q s l g q => by
  unfold gIsi at g
  split at g
  · obtain ⟨e, b, h, g⟩ := g
    subst e
    obtain ⟨v, w, rfl, i, j⟩ := o_two l
    obtain rfl := o_ty j
    obtain ⟨T, h1, h2⟩ := isK_kit (K := K) c h
    exact ⟨_, _, _, _, b, rfl, .ty _, o_tyx s i h1, h2, q _ _ _ _ g .refl (.bl _)⟩
  · exact g.elim

/-! ### repr of flat values -/
section
variable {X : Cx}
@[simp] def flatText : D → Option Str
  | .non => some "None"
  | .bl b => some (if b then "True" else "False")
  | .int i => if i.natAbs.log2 < 1920 then some (toString i : String) else none
  | _ => none
abbrev rReprF : List V → Hp → VK → Prop := fun xs H Q => (xs = [.non] ∧ Q (.str ("None" : Str)) H) ∨ (∃ b, xs = [.bl b] ∧ Q (.str (if b then "True" else "False" : Str)) H) ∨ (∃ i, xs = [.int i] ∧ i.natAbs.log2 < 1920 ∧ Q (.str ((toString i : String) : Str)) H)
theorem call_reprF : CallR X (.builtin "repr") rReprF := by
  intro pins s σ H xs us Q I r h
  rcases h with ⟨rfl, q⟩ | ⟨b, rfl, q⟩ | ⟨i, rfl, hz, q⟩
  · obtain ⟨u, rfl, e⟩ := vals1 r
    cases (show u = Value.none from e)
    exact PySem.P.repr_of_none ⟨.str _, H, I.tok _, ⟨_, rfl⟩, q⟩
  · obtain ⟨u, rfl, e⟩ := vals1 r
    cases (show u = Value.bool b from e)
    exact PySem.P.repr_of_bool ⟨.str _, H, I.tok _, ⟨_, rfl⟩, q⟩
  · obtain ⟨u, rfl, t, rfl⟩ := vals1 r
    exact PySem.P.repr_of_int hz ⟨.str _, H, I.tok _, ⟨_, rfl⟩, q⟩
def gReprF : GN
  | [d], k => ∃ z, flatText d = some z ∧ k (.str z)
  | _, _ => False
theorem rv_reprF {K : PySem.W.Frag} : RVN K rReprF gReprF := fun Hb H xs ds k Q s l g q => by
  unfold gReprF at g
  split at g
  · obtain ⟨z, e, g⟩ := g
    obtain ⟨v, rfl, i⟩ := o_one l
    rename_i d
    cases d <;> simp only [flatText] at e <;> first | (cases e; done) | skip
    · cases e
      obtain rfl := o_non i
      exact .inl ⟨rfl, q _ _ _ _ g .refl (.str _)⟩
    · cases e
      obtain rfl := o_bl i
      exact .inr (.inl ⟨_, rfl, q _ _ _ _ g .refl (.str _)⟩)
    · split at e
      · cases e
        obtain rfl := o_int i
        exact .inr (.inr ⟨_, rfl, by assumption, q _ _ _ _ g .refl (.str _)⟩)
      · cases e
  · exact g.elim
end

/-! ### a op b op' c -/
section
variable {X : Cx} {Wx : WX} {P L I J J1 J2 : List Nat} {e a b c o k : Expr} {es : List Expr} {F G M : FE} {A : FA} {pos pos' p2 : Pos} {ta tb tc : TE}
def fChain (g g' : G2) (F G M : FE) : FE := fun ρ post xp => F ρ (fun x ρ1 => G ρ1 (fun y ρ2 => g x y fun z => gB z fun t => if t = true then M ρ2 (fun w ρ3 => g' y w fun z => post z ρ3) xp else post (.bl false) ρ2) xp) xp
@[simp ↓] theorem fChain_ap (g g' : G2) (F G M : FE) (ρ : Env) (post : Post) (xp : XP) : fChain g g' F G M ρ post xp = (F ρ (fun x ρ1 => G ρ1 (fun y ρ2 => g x y fun z => gB z fun t => if t = true then M ρ2 (fun w ρ3 => g' y w fun z => post z ρ3) xp else post (.bl false) ρ2) xp) xp) := (rfl)
theorem chain_core {r r' : R2} {g g' : G2} (hr : RV2 X.K r g) (hr' : RV2 X.K r' g') (ha : DE X Wx P I a ta F I) (hb : DE X Wx P I b tb G I) (hc : DE X Wx P I c tc M I) :
    ∀ (W : Wd) (ρ : Env) (σ : St) (Hb H : Hp) (Q : VK) (post : Post) (xp : XP), EnvOk X.K W P I ρ σ Hb H → fChain g g' F G M ρ post xp → XOk X Wx W P σ xp →
    (∀ d ρ' v Hb' H', post d ρ' → EnvOk X.K W P I ρ' σ Hb' H' → Sub Hb Hb' → Is X.K Hb' v d → Q v H') → tChain r r' ta tb tc σ H Q := by
  intro W ρ σ Hb H Q post xp E f x q
  refine ha.ev W ρ σ Hb H _ _ xp E f x fun d ρ1 v Hb1 H1 f1 E1 s1 i1 => ?_
  refine hb.ev W ρ1 σ Hb1 H1 _ _ xp E1 f1 x fun d2 ρ2 v2 Hb2 H2 f2 E2 s2 i2 => ?_
  refine hr Hb2 H2 v v2 d d2 _ _ E2.sub (.inl (i1.mono s2)) (.inl i2) f2 fun w dz Hb3 H3 kz gr iz => ?_
  obtain ⟨E3, s3⟩ := gr.env E2
  cases dz <;> first | exact kz.elim | skip
  rename_i t
  refine ⟨t, is_bl iz, ?_⟩
  cases t with
  | true =>
    have kz : M ρ2 (fun w ρ3 => g' d2 w fun z => post z ρ3) xp := by simpa [gB] using kz
    rw [if_pos rfl]
    refine hc.ev W ρ2 σ Hb3 H3 _ _ xp E3 kz x fun d4 ρ4 v4 Hb4 H4 f4 E4 s4 i4 => ?_
    refine hr' Hb4 H4 v2 v4 d2 d4 _ _ E4.sub (.inl ((i2.mono s3).mono s4)) (.inl i4) f4 fun w dz Hb5 H5 kz gr iz => ?_
    obtain ⟨E5, s5⟩ := gr.env E4
    exact q _ _ _ _ _ kz E5 ((((s1.trans s2).trans s3).trans s4).trans s5) iz
  | false =>
    have kz : post (.bl false) ρ2 := by simpa [gB] using kz
    rw [if_neg Bool.false_ne_true]
    exact q _ _ _ _ _ kz E3 ((s1.trans s2).trans s3) (.bl _)
theorem de_chain {op op' : CmpOp} {r r' : R2} {g g' : G2} (ho : OpR X (compareOp op) r) (hr : RV2 X.K r g) (ho' : OpR X (compareOp op') r') (hr' : RV2 X.K r' g') (ha : DE X Wx P I a ta F I) (hb : DE X Wx P I b tb G I) (hc : DE X Wx P I c tc M I)
    (hm : lastMarks [op, op'] [b, c] = false := by with_unfolding_all rfl) : DE X Wx P I (.Compare a [op, op'] [b, c] pos) (tChain r r' ta tb tc) (fChain g g' F G M) I :=
  de_of (pe_chain ho ho' ha.pe hb.pe hc.pe hm) (chain_core hr hr' ha hb hc)
theorem dt_chain {op op' : CmpOp} {r r' : R2} {g g' : G2} (ho : OpR X (compareOp op) r) (hr : RV2 X.K r g) (ho' : OpR X (compareOp op') r') (hr' : RV2 X.K r' g') (ha : DE X Wx P I a ta F I) (hb : DE X Wx P I b tb G I) (hc : DE X Wx P I c tc M I)
    (hm : lastMarks [op, op'] [b, c] = false := by with_unfolding_all rfl) : DT X Wx P I (.Compare a [op, op'] [b, c] pos) (tTest (tChain r r' ta tb tc)) (fTest (fChain g g' F G M)) I := by
  refine dt_of (pt_chain ho ho' ha.pe hb.pe hc.pe hm) fun W ρ σ Hb H Q post xp E f x q => chain_core hr hr' ha hb hc W ρ σ Hb H _ _ xp E f x fun d ρ1 v Hb1 H1 f1 E1 s1 i1 => ?_
  cases d <;> first | exact f1.elim | skip
  exact ⟨_, is_bl i1, q _ _ _ _ f1 E1 s1⟩

/-! ### dict displays: {}, {'k': v, ..} -/
@[simp] def dKey : D → Option Key
  | .int i => some (.inl i)
  | .str s => some (.inr s)
  | _ => none
structure DPs (X : Cx) (Wx : WX) (P I : List Nat) (pos : Pos) (keys : List (Option Expr)) (vals : List Expr) (t : List (TE × TE)) (F : Env → (List (Key × D) → Env → Prop) → XP → Prop) : Prop where
  pe : PPs X pos keys vals t
  ev : ∀ (W : Wd) (ρ : Env) (σ : St) (Hb H : Hp) (Q : List (V × V) → Hp → Prop) (post : List (Key × D) → Env → Prop) (xp : XP), EnvOk X.K W P I ρ σ Hb H → F ρ post xp → XOk X Wx W P σ xp →
    (∀ ds ρ' (vs : List (Key × V)) Hb' H', post ds ρ' → EnvOk X.K W P I ρ' σ Hb' H' → Sub Hb Hb' → ds.length = keys.length → vs.map (·.1) = ds.map (·.1) → IsL X.K Hb' (vs.map (·.2)) (ds.map (·.2)) → Q (vs.map fun kv => (kV kv.1, kv.2)) H') → tPairs t σ H Q
theorem dps_nil : DPs X Wx P I pos [] [] [] (fun ρ post _ => post [] ρ) := ⟨pps_nil, fun W ρ σ Hb H Q post xp E f _ q => q [] ρ [] Hb H f E (Sub.refl _) rfl rfl .nil⟩
theorem dps_cons {v : Expr} {ks : List (Option Expr)} {vs : List Expr} {trs : List (TE × TE)} {R : Env → (List (Key × D) → Env → Prop) → XP → Prop} (hk : DE X Wx P I k ta F I) (hv : DE X Wx P I v tb G I) (hr : DPs X Wx P I pos ks vs trs R) :
    DPs X Wx P I pos (some k :: ks) (v :: vs) ((ta, tb) :: trs) (fun ρ post xp => F ρ (fun kd ρ1 => G ρ1 (fun d ρ2 => ∃ key, dKey kd = some key ∧ R ρ2 (fun r ρ3 => post ((key, d) :: r) ρ3) xp) xp) xp) := by
  obtain ⟨p1, k1⟩ := hk
  obtain ⟨p2, k2⟩ := hv
  obtain ⟨p3, k3⟩ := hr
  refine ⟨pps_cons p1 p2 p3, fun W ρ σ Hb H Q post xp E f x q => k1 W ρ σ Hb H _ _ xp E f x fun kd ρ1 kv Hb1 H1 f1 E1 s1 i1 => k2 W ρ1 σ Hb1 H1 _ _ xp E1 f1 x fun d ρ2 v Hb2 H2 f2 E2 s2 i2 => ?_⟩
  obtain ⟨key, ek, f2⟩ := f2
  refine k3 W ρ2 σ Hb2 H2 _ _ xp E2 f2 x fun ds ρ3 us Hb3 H3 f3 E3 s3 z3 e3 l3 => ?_
  have ekv : kv = kV key := by
    cases kd <;> simp only [dKey] at ek <;> first | (cases ek; done) | cases ek
    · exact is_int i1
    · exact is_str i1
  subst ekv
  exact q ((key, d) :: ds) ρ3 ((key, v) :: us) Hb3 H3 f3 E3 ((s1.trans s2).trans s3) (congrArg (· + 1) z3) (by simp [e3]) (.cons (i2.mono s3) l3)
@[simp] def mergeD (kvs : List (Key × D)) : List (Key × D) := kvs.foldl (fun acc kv => putD acc kv.1 kv.2) []
def fDict (R : Env → (List (Key × D) → Env → Prop) → XP → Prop) : FE := fun ρ post xp => R ρ (fun kvs ρ1 => post (.dk (mergeD kvs)) ρ1) xp
@[simp ↓] theorem fDict_ap (R : Env → (List (Key × D) → Env → Prop) → XP → Prop) (ρ : Env) (post : Post) (xp : XP) : fDict R ρ post xp = (R ρ (fun kvs ρ1 => post (.dk (mergeD kvs)) ρ1) xp) := (rfl)
theorem any_keys {k : Key} : ∀ {vs : List (Key × V)} {ds : List (Key × D)}, vs.map (·.1) = ds.map (·.1) → (vs.any fun kv => decide (kv.1 = k)) = (ds.any fun kv => decide (kv.1 = k))
  | [], [], _ => rfl
  | v :: vs, d :: ds, e => by
    simp only [List.map_cons, List.cons.injEq] at e
    simp only [List.any_cons, e.1, any_keys e.2]
  | [], _ :: _, e => by simp at e
  | _ :: _, [], e => by simp at e
theorem putK_is {K : PySem.W.Frag} {H : Hp} {vs : List (Key × V)} {ds : List (Key × D)} {k : Key} {v : V} {d : D} (e : vs.map (·.1) = ds.map (·.1)) (l : IsL K H (vs.map (·.2)) (ds.map (·.2))) (i : Is K H v d) :
    (putK vs k v).map (·.1) = (putD ds k d).map (·.1) ∧ IsL K H ((putK vs k v).map (·.2)) ((putD ds k d).map (·.2)) := by
  unfold putK putD
  rw [any_keys e]
  split
  · have rec1 : ∀ {vs : List (Key × V)} {ds : List (Key × D)}, vs.map (·.1) = ds.map (·.1) → IsL K H (vs.map (·.2)) (ds.map (·.2)) →
        (vs.map fun kv => if kv.1 = k then (kv.1, v) else kv).map (·.1) = (ds.map fun kv => if kv.1 = k then (kv.1, d) else kv).map (·.1) ∧ IsL K H ((vs.map fun kv => if kv.1 = k then (kv.1, v) else kv).map (·.2)) ((ds.map fun kv => if kv.1 = k then (kv.1, d) else kv).map (·.2)) := by
      intro vs
      induction vs with
      | nil =>
        intro ds e l
        cases ds with
        | nil => exact ⟨rfl, .nil⟩
        | cons => simp at e
      | cons a vs ih =>
        intro ds e l
        cases ds with
        | nil => simp at e
        | cons b ds =>
          simp only [List.map_cons, List.cons.injEq] at e
          rw [List.map_cons, List.map_cons] at l
          cases l with
          | cons l1 l2 =>
            obtain ⟨r1, r2⟩ := ih e.2 l2
            rw [List.map_cons, List.map_cons, List.map_cons, List.map_cons, List.map_cons, List.map_cons, r1, e.1]
            by_cases hk : b.1 = k
            · rw [if_pos hk, if_pos hk]
              exact ⟨rfl, .cons i r2⟩
            · rw [if_neg hk, if_neg hk]
              exact ⟨by rw [e.1], .cons l1 r2⟩
    exact rec1 e l
  · simp only [List.map_append, List.map_cons, List.map_nil]
    exact ⟨by rw [e], l.snoc i⟩
theorem merge_is {K : PySem.W.Frag} {H : Hp} : ∀ {vs : List (Key × V)} {ds : List (Key × D)} {av : List (Key × V)} {ad : List (Key × D)}, vs.map (·.1) = ds.map (·.1) → IsL K H (vs.map (·.2)) (ds.map (·.2)) → av.map (·.1) = ad.map (·.1) → IsL K H (av.map (·.2)) (ad.map (·.2)) →
    (mergeK av vs).map (·.1) = (ds.foldl (fun acc kv => putD acc kv.1 kv.2) ad).map (·.1) ∧ IsL K H ((mergeK av vs).map (·.2)) ((ds.foldl (fun acc kv => putD acc kv.1 kv.2) ad).map (·.2))
  | [], [], _, _, _, _, e, l => ⟨e, l⟩
  | v :: vs, d :: ds, av, ad, e1, l1, e, l => by
    simp only [List.map_cons, List.cons.injEq] at e1
    rw [List.map_cons, List.map_cons] at l1
    cases l1 with
    | cons a l1 =>
      obtain ⟨p1, p2⟩ := putK_is (k := v.1) e l a
      have := merge_is e1.2 l1 p1 p2
      have em : mergeK av (v :: vs) = mergeK (putK av v.1 v.2) vs := rfl
      rw [em, List.foldl_cons, ← e1.1]
      exact this
  | [], _ :: _, _, _, e1, _, _, _ => by simp at e1
  | _ :: _, [], _, _, e1, _, _, _ => by simp at e1
/-- the world with one address more, that nobody lends -/
def Wd.plus (W : Wd) (p : Addr) (o : HO) : Wd := ⟨W.Hb, upd W.H p o, fun i a => W.ps i a ∧ a ≠ p, W.rt⟩
theorem EnvOk.over {K : PySem.W.Frag} {W : Wd} {P I : List Nat} {ρ : Env} {σ : St} {Hb H : Hp} {p : Addr} {o : HO} (E : EnvOk K W P I ρ σ Hb H) (hp : H p = none) : EnvOk K (W.plus p o) P I ρ σ Hb (upd H p o) := by
  have E1 := E.more (o := o) hp
  have nb := E.sub.none hp
  have wn := E.stp.al p hp
  obtain ⟨k1, k2⟩ := E.cells (H' := upd H p o) (W' := W.plus p o) (Sub.refl Hb) (fun i d q a u hi g e ha hu => ⟨by rw [upd_ne (ne_of_none hu hp)]; exact hu, by
    obtain ⟨q', e', _, _, f⟩ := E.celF i d hi g
    rw [e] at e'; cases e'
    exact (f a ha).1⟩) (fun i a d q hi g e ha => by
      obtain ⟨u, hu⟩ := E.noneF (.inl hi) g e ha
      have na : a ≠ p := ne_of_none hu hp
      exact ⟨fun h => ⟨h, na⟩, fun h => by show upd W.H p o a = none; rw [upd_ne na]; exact h⟩) (fun i a d q hi g e ha h => by
      obtain ⟨u, hu⟩ := E.noneF (.inr hi) g e ha
      have na : a ≠ p := ne_of_none hu hp
      show upd W.H p o a = none
      rw [upd_ne na]; exact h)
  refine ⟨E1.sub, ⟨E1.stp.hb, fun a u e n => ?_, fun a u e => ?_, fun a e => ?_, fun a vs e => ?_⟩, E1.len, E1.val, k1, k2⟩
  · by_cases ha : a = p
    · subst ha
      have e : upd W.H a o a = some u := e
      rw [upd_same] at e ⊢; exact .inl e
    · have e : upd W.H p o a = some u := e
      rw [upd_ne ha] at e
      exact E1.stp.fr a u e fun i q => n i ⟨q, ha⟩
  · have ha : a ≠ p := fun z => by subst z; rw [nb] at e; cases e
    rcases E1.stp.fs a u e with r | r | ⟨vs, r⟩
    · exact .inl r
    · exact .inr (.inl (by show upd W.H p o a = none; rw [upd_ne ha]; exact r))
    · exact .inr (.inr ⟨vs, by show upd W.H p o a = some (.tup vs); rw [upd_ne ha]; exact r⟩)
  · have ha : a ≠ p := fun z => by subst z; rw [upd_same] at e; cases e
    show upd W.H p o a = none
    rw [upd_ne ha]
    exact E1.stp.al a e
  · by_cases ha : a = p
    · subst ha
      rw [upd_same] at e
      exact .inr (by show upd W.H a o a = some (.tup vs); rw [upd_same]; exact e)
    · rw [upd_ne ha] at e
      show upd W.H p o a = none ∨ upd W.H p o a = some (.tup vs)
      rw [upd_ne ha]
      exact E.stp.tp a vs e
theorem EnvOk.under {K : PySem.W.Frag} {W : Wd} {P I : List Nat} {ρ : Env} {σ : St} {Hb H : Hp} {p : Addr} {o : HO} (E : EnvOk K (W.plus p o) P I ρ σ Hb H) (wn : W.H p = none) : EnvOk K W P I ρ σ Hb H := by
  refine ⟨E.sub, ⟨E.stp.hb, fun a u e n => ?_, fun a u e => ?_, fun a e => ?_, fun a vs e => ?_⟩, E.len, E.val, fun i d hi g => ?_, E.sepF⟩
  · have ha : a ≠ p := ne_of_none e wn
    exact E.stp.fr a u (by show upd W.H p o a = some u; rw [upd_ne ha]; exact e) fun i q => n i q.1
  · rcases E.stp.fs a u e with r | r | ⟨vs, r⟩
    · exact .inl r
    · have r : upd W.H p o a = none := r
      have ha : a ≠ p := fun z => by subst z; rw [upd_same] at r; cases r
      rw [upd_ne ha] at r
      exact .inr (.inl r)
    · have r : upd W.H p o a = some (.tup vs) := r
      by_cases ha : a = p
      · subst ha; exact .inr (.inl wn)
      · rw [upd_ne ha] at r
        exact .inr (.inr ⟨vs, r⟩)
  · have r : upd W.H p o a = none := E.stp.al a e
    have ha : a ≠ p := fun z => by subst z; rw [upd_same] at r; cases r
    rw [upd_ne ha] at r
    exact r
  · by_cases ha : a = p
    · subst ha; exact .inl wn
    · have r : upd W.H p o a = none ∨ upd W.H p o a = some (.tup vs) := E.stp.tp a vs e
      rw [upd_ne ha] at r
      exact r
  · obtain ⟨q, e, c, hr, f⟩ := E.celF i d hi g
    have low : ∀ a, upd W.H p o a = none → W.H a = none := fun a r => by
      have ha : a ≠ p := fun z => by subst z; rw [upd_same] at r; cases r
      rw [upd_ne ha] at r
      exact r
    exact ⟨q, e, c, hr, fun a ha => ⟨(f a ha).1, fun z => ((f a ha).2.1 z).imp (·.1) (low a), fun z => low a ((f a ha).2.2 z)⟩⟩
theorem EnvOk.at_plus {K : PySem.W.Frag} {W : Wd} {P I : List Nat} {ρ : Env} {σ : St} {Hb H : Hp} {p : Addr} {o : HO} (E : EnvOk K (W.plus p o) P I ρ σ Hb H) (nb : W.Hb p = none) (nt : ∀ vs : List V, o ≠ .tup vs := by intro _ z; cases z) : Hb p = none ∧ H p = some o ∧ ∀ i di q, (i ∈ P ∨ i ∈ I) → get ρ i = some di → σ[i]? = some (some (.ref q)) → ¬ foot H q di p := by
  refine ⟨E.stp.nb nb (o := o) upd_same nt, E.stp.own nb upd_same fun i q => q.2 rfl, fun i di q hi g e ft => ?_⟩
  obtain ⟨q', e', _, _, f⟩ := E.celF i di hi g
  rw [e] at e'; cases e'
  have nn : ¬ (W.plus p o).H p = none := fun r => by
    have r : upd W.H p o p = none := r
    rw [upd_same] at r; cases r
  rcases hi with hi | hi
  · rcases (f p ft).2.1 hi with h | h
    · exact h.2 rfl
    · exact nn h
  · exact nn ((f p ft).2.2 hi)
theorem dn_dict {keys : List (Option Expr)} {vals : List Expr} {trs : List (TE × TE)} {R : Env → (List (Key × D) → Env → Prop) → XP → Prop} (h : DPs X Wx P I pos keys vals trs R) (hall : keys.all (·.isSome) = true := by rfl) (hl : keys.length = vals.length := by rfl) (h0 : keys ≠ [] := by exact fun h => nomatch h)
    (h15 : keys.length ≤ 15 := by decide) : DNw X Wx P I (.Dict keys vals pos) (tDisp trs) (fDict R) I := by
  obtain ⟨pp, kk⟩ := h
  refine ⟨pe_disp pp hall hl h0 h15, fun W ρ σ Hb H Q post xp E f x q p hp => ?_⟩
  have nb : W.Hb p = none := E.stp.hb.none (E.sub.none hp)
  have wn : W.H p = none := E.stp.al p hp
  refine kk (W.plus p (.dK [])) ρ σ Hb _ _ _ xp (E.over hp) f (fun c ρ' cls dx Hb' H' z E' xi => x c ρ' cls dx Hb' H' z (E'.under wn) xi) fun ds ρ' vs Hb2 H2 f2 E2 s2 z2 e2 l2 => ?_
  obtain ⟨n2, h2, un⟩ := E2.at_plus nb
  obtain ⟨m1, m2⟩ := merge_is (av := []) (ad := []) e2 l2 rfl .nil
  have lz : vs.length = ds.length := by
    have := congrArg List.length e2
    simpa using this
  have E3 := E2.under wn
  refine ⟨h2, vs, rfl, by rw [lz, z2]; exact h15, q _ _ _ _ _ f2 (E3.pokeF n2 wn un) s2 ⟨⟨_, upd_same, m1, m2⟩, fun a ha => ?_, fun i di r a hi g e ha fa => ?_⟩⟩
  · have := flat_foot (d := .dk (mergeD ds)) (by intro o; cases o <;> (try rename_i o; cases o) <;> rfl) ha
    subst this
    exact ⟨n2, wn⟩
  · have := flat_foot (d := .dk (mergeD ds)) (by intro o; cases o <;> (try rename_i o; cases o) <;> rfl) ha
    subst this
    have nq : r ≠ a := fun z => by subst z; exact un i di r hi g e foot.root
    exact un i di r hi g e (foot.cong (by rw [upd_ne nq]) fa)
/-- {} -/
theorem dn_dict0 : DNw X Wx P I (.Dict [] [] pos) tDNewK (fC (.dk [])) I :=
  ⟨pe_dnewK, fun W ρ σ Hb H Q post xp E f x q p hp => q _ _ _ _ _ f (E.more hp) (Sub.refl _) (NewAt.mk' E hp ⟨[], upd_same, rfl, .nil⟩)⟩
/-- l[i] = v, l a slot's own list -/
def fPutL (i : Nat) (Fv Fk : FE) : FS := fun ρ S => Fv ρ (fun v ρ1 => (∃ ds, get ρ1 i = some (.lst ds)) ∧ Fk ρ1 (fun k ρ2 => ∃ ds j n, get ρ2 i = some (.lst ds) ∧ k = .int j ∧ ixN ds.length j = some n ∧ S.nx (put ρ2 i (some (.lst (ds.set n v))))) S.ex) S.ex
@[simp ↓] theorem fPutL_ap (i : Nat) (Fv Fk : FE) (ρ : Env) (S : SPo) : fPutL i Fv Fk ρ S = (Fv ρ (fun v ρ1 => (∃ ds, get ρ1 i = some (.lst ds)) ∧ Fk ρ1 (fun k ρ2 => ∃ ds j n, get ρ2 i = some (.lst ds) ∧ k = .int j ∧ ixN ds.length j = some n ∧ S.nx (put ρ2 i (some (.lst (ds.set n v))))) S.ex) S.ex) := (rfl)
theorem ds_putL (i : Nat) {x : Str} {value : Expr} {spos : Pos} (hv : DE X Wx P I value ta F J1) (hk : DE X Wx P J1 k tb G J) (hi : i ∈ P ∨ i ∈ J1 := by decide) (hj : i ∈ P ∨ i ∈ J := by decide) (hN : X.N[i]? = some x := by rfl) (hvx : Vis X.env.scope x := by first | exact Or.inl rfl | exact Or.inr (Or.inl rfl) | exact Or.inr (Or.inr rfl)) (hd : (x == ("__debug__" : Str)) = false := by decide)
    (hcd : (x == ("__classdict__" : Str)) = false := by decide)
    (ha : ∀ v, assign (.Subscript (.Name x pos') k spos) X.env v = (do
      let ov ← holding [v] (eval (.Name x pos') X.env)
      let iv ← holding [v, ov] (eval k X.env)
      standAt spos
      holding [v, ov, iv] (setItem ov iv v)
      release [v, ov, iv] []) := by intro _; rfl)
    (hs : swapsWithSole [.Subscript (.Name x pos') k spos] value pos.line X.env = pure false := by rfl) (hw : swappedStores [.Subscript (.Name x pos') k spos] value X.env = pure none := by rfl)
    (h1 : (assignEach [.Subscript (.Name x pos') k spos] X.env).map (·.2) = [assign (.Subscript (.Name x pos') k spos) X.env] := by rfl) :
    DS X Wx P L I (.Assign [.Subscript (.Name x pos') k spos] value pos) (fPutL i F G) J := by
  obtain ⟨p1, k1⟩ := hv
  obtain ⟨p2, k2⟩ := hk
  refine ⟨_, ps_asg p1 (pg_sub (pe_var hN hvx hd hcd) p2 set_list ha) hs hw h1, fun W ρ σ Hb H D S E f q => k1 W ρ σ Hb H _ _ _ E f (q.xok σ) fun z ρ1 v Hb1 H1 f1 E1 s1 i1 => ?_⟩
  obtain ⟨⟨ds0, g0⟩, f1⟩ := f1
  obtain ⟨p, ep, _⟩ := E1.cel i _ hi g0
  refine ⟨_, ep, k2 W ρ1 σ Hb1 H1 _ _ _ E1 f1 (q.xok σ) fun kd ρ2 y Hb2 H2 f2 E2 s2 i2 => ?_⟩
  obtain ⟨ds, j, n, gd, e, hix, f2⟩ := f2
  subst e
  obtain ⟨p', ep', _, ⟨vs, hp, l⟩, _⟩ := E2.cel i _ hj gd
  rw [ep] at ep'; cases ep'
  exact ⟨p, vs, j, n, rfl, is_int i2, hp, by rw [l.length]; exact hix, q.nx _ _ _ _ f2 (E2.write hj gd ep ⟨_, upd_same, l.set n (i1.mono s2)⟩) (s1.trans s2)⟩
end
end DL

/-! DL10: calls that make a new cell; small words for the printed walks. -/
namespace DL
open PySem L2
open PyProof.Rows hiding St

/-- the promise of a def that returns a new cell -/
def spN (K : PySem.W.Frag) (n : Nat) (io : List Nat) (G : DFn) : Sp := fun vs H Q E => vs.length = n ∧ ∃ (ρ : Env) (Hb : Hp) (post : Post) (xp : XP), EnvOk K ⟨Hb, H, lentAt io vs ρ H, rootAt io vs⟩ io [] ρ (vs.map some) Hb H ∧ G ρ post xp ∧
  (∀ d ρ' p Hb' H', post d ρ' → EnvOk K ⟨Hb, H, lentAt io vs ρ H, rootAt io vs⟩ io [] ρ' (vs.map some) Hb' H' → NewAt K ⟨Hb, H, lentAt io vs ρ H, rootAt io vs⟩ io [] ρ' (vs.map some) Hb' H' p d → Q (.ref p) H') ∧
  (∀ c ρ' cls dx Hb' H', xp c ρ' → EnvOk K ⟨Hb, H, lentAt io vs ρ H, rootAt io vs⟩ io [] ρ' (vs.map some) Hb' H' → XIs K Hb' cls dx c → E cls dx H')
section
variable {X : Cx} {Wx : WX} {P I J J1 : List Nat} {e a b c : Expr} {es : List Expr} {F : FE} {A : Env → (Env → Env → Prop) → XP → Prop} {sl : List (Option Nat)} {pos p : Pos} {k n : Nat} {f : Addr} {fd : FuncData} {ps : List Str} {G : DFn} {x : Str} {io : List Nat} {tA : TA}
theorem unfill_some : ∀ (sl : List (Option Nat)) (r ρ : Env) (i : Nat), i ∉ slots sl → get (unfill sl r ρ) i ≠ none → get ρ i ≠ none := fun sl r ρ i h g => by rw [unfill_ne _ _ _ _ h] at g; exact g
theorem calln_core {t : TA} (tk : Takes X Wx) (hio : ioOf 0 sl = io) (hsl : ∀ j ∈ slots sl, j ∈ P ∨ j ∈ J) (nd : (slots sl).Nodup) (hPJ : ∀ j ∈ J, j ∉ P) (hn : sl.length = n)
    (ka : ∀ (W : Wd) (ρ : Env) (σ : St) (Hb H : Hp) (Q : List V → Hp → Prop) (post : Env → Env → Prop) (xp : XP), EnvOk X.K W P I ρ σ Hb H → A ρ post xp → XOk X Wx W P σ xp →
    (∀ ds ρ' vs Hb' H', post ds ρ' → EnvOk X.K W P J ρ' σ Hb' H' → Sub Hb Hb' → Args X.K Hb' σ sl vs ds → Q vs H') → t σ H Q) :
    ∀ (W : Wd) (ρ : Env) (σ : St) (Hb H : Hp) (Q : VK) (post : Post) (xp : XP), EnvOk X.K W P I ρ σ Hb H → fCall G sl A ρ post xp → XOk X Wx W P σ xp →
    (∀ d ρ' p Hb' H', post d ρ' → EnvOk X.K W P J ρ' σ Hb' H' → Sub Hb Hb' → NewAt X.K W P J ρ' σ Hb' H' p d → Q (.ref p) H') → t σ H fun vs H1 => spN X.K n io G vs H1 Q (WE Wx σ) := by
  intro W ρ σ Hb H Q post xp E h x q
  subst hio
  refine ka W ρ σ Hb H _ _ xp E h x fun ds ρ1 vs Hb1 H1 f1 E1 s1 ar => ?_
  obtain ⟨lo, g⟩ := f1
  have hl := lentOk_of lo
  refine ⟨by rw [← ar.slLen]; exact hn, fill sl ds ρ1, Hb1, _, _, E1.lend ar hsl nd hl, g, fun d ρ' pn Hb' H' p1 E2 nw => ?_, fun c ρ' cls dx Hb' H' p1 E2 xi => ?_⟩
  · have E3 := E1.given ar hsl nd hl E2 ar.slLen
    exact q _ _ _ _ _ p1 E3 (s1.trans E2.stp.hb) ⟨nw.cell, fun a ha => ⟨(nw.nbF a ha).1, E1.stp.al a (nw.nbF a ha).2⟩, fun i di r a hi g e ha fa =>
      E1.given_un ar hsl nd hl E2 ar.slLen (nw.nbF a ha).2 (fun m dm r hm g e ft => nw.unF m dm r a (.inl hm) g e ha ft) i di r hi g e fa⟩
  · have E3 := E1.given ar hsl nd hl E2 ar.slLen
    obtain ⟨Hb3, E4, s4⟩ := E3.drop (J := []) (fun j q => by cases q) hPJ
    refine x c _ cls dx Hb3 H' p1 E4 ?_
    obtain ⟨e, r | ⟨d, us, e1, e2, e3, e4⟩⟩ := xi
    · exact ⟨e, .inl r⟩
    · exact ⟨e, .inr ⟨d, us, e1, s4.at e2, e3, e4.mono s4⟩⟩
theorem dn_call (Fn : FnOk X.prog X.w X.K X.mg X.base (L2.CX X.prog X.w) k f fd ps (spN X.K n io G)) (hr : Room k X.A) (hm : X.mg x = some (.ref f)) (hk : PySem.W.keepIn X.K (.ref f) = true) (hb : Binds X.K fd ps []) (tk : Takes X Wx)
    (ha : DO X Wx P I (e :: es) tA A sl J) (hio : ioOf 0 sl = io := by decide) (hsl : ∀ j ∈ slots sl, j ∈ P ∨ j ∈ J := by decide) (nd : (slots sl).Nodup := by decide) (hPJ : ∀ j ∈ J, j ∉ P := by decide) (hn : sl.length = n := by decide)
    (hg : Gl X x := by rfl) (hdb : (x == ("__debug__" : Str)) = false := by decide) (he : starEach (e :: es) X.env = (false, eval e X.env) :: starEach es X.env := by rfl) (hpl : (backTo pos (starEach es X.env)).any (·.1) = false := by rfl) :
    DNw X Wx P I (.Call (.Name x p) (e :: es) [] pos) (tCallS (spN X.K n io G) (WE Wx) tA) (fCall G sl A) J := by
  obtain ⟨pa, ka⟩ := ha
  exact ⟨pe_callS Fn hr hg hm hk hb (fun σ => passAt tk σ) pa hdb he hpl, calln_core tk hio hsl nd hPJ hn ka⟩
end
section
variable {P : Program} {w : World} {K : PySem.W.Frag} {mg : Str → Option Value} {base : Heap}
/-- def f(..): return <a new cell> -/
theorem okN_of {x qual : Str} {st : Stmt} {f : Addr} {fd : FuncData} {N ps : List Str} {k n : Nat} {e : Expr} {pos : Pos} {G : DFn} {Fd : FE} (F : Fun K x qual st f fd) (S : FnScope N ps (defScope st)) (hn : ps.length = n)
    (hbody : defBody st = [.Return (some e) pos])
    (hb : ∀ (cdv : Value) (A : Around) (outer : List PySem.Env) (s : Shared) (H : Hp) (E : XK), Room k (A.deeper (envOfC qual (defScope st) s.heap.objs.size f cdv)) →
      ∃ t, DNw (cxOf (L2.CX P w) P w K mg base N qual (defScope st) f cdv A outer s H E) (WofE E) [] [] e t Fd [])
    (hg : ∀ (ρ : DL.Env) (post : Post) (xp : XP), ρ.length = n → G ρ post xp → Fd (ρ ++ List.replicate (N.length - n) none) (fun d ρ' => post d (maskF [] 0 n ρ')) fun c ρ' => xp c (maskF [] 0 n ρ')) : FnOk P w K mg base (L2.CX P w) (k + 1) f fd ps (spN K n [] G) := by
  refine F.okX S (fun vs H Q E h => h.1.trans hn.symm) fun cdv A outer s H vs Q E hr h => ?_
  obtain ⟨hl, ρ, Hb, post, xp, E0, g, q1, q2⟩ := h
  obtain ⟨te, ht⟩ := hb cdv A outer s H E hr
  rw [hbody]
  refine ⟨_, pss_one (ps_ret ht.pe), ?_⟩
  have hρ : ρ.length = n := by rw [← E0.len, List.length_map, hl]
  have e1 : L2.start N vs = vs.map some ++ List.replicate (N.length - n) none := by unfold L2.start; rw [hl]
  rw [e1]
  refine ht.ev ⟨Hb, H, lentAt [] vs ρ H, rootAt [] vs⟩ _ _ Hb H _ _ _ E0.entry (hg ρ post xp hρ g) (fun c ρ' cls dx Hb' H' a E' xi => q2 _ _ _ _ _ _ a (E'.masked hl) xi) fun d ρ' p Hb' H' a E' s' nw => ?_
  exact q1 _ _ _ _ _ a (E'.masked hl) ⟨nw.cell, nw.nbF, fun i di q a hi => by rcases hi with hi | hi <;> cases hi⟩
end
theorem hu65_of {A : Around} {k : Nat} (hr : Room k A) : A.units + 65 < cLine := by have := hr.un; omega
theorem hu64_of {A : Around} {k : Nat} (hr : Room k A) : A.units + 64 < cLine := by have := hr.un; omega
theorem hu0_of {A : Around} {k : Nat} (hr : Room k A) : A.units < cLine := by have := hr.un; omega
/-- readings by name -/
def fTupE (A : FA) : FE := fun ρ post xp => A ρ (fun xs ρ1 => xs.length ≤ 1000 ∧ post (.tup xs) ρ1) xp
@[simp ↓] theorem fTupE_ap (A : FA) (ρ : Env) (post : Post) (xp : XP) : fTupE A ρ post xp = (A ρ (fun xs ρ1 => xs.length ≤ 1000 ∧ post (.tup xs) ρ1) xp) := (rfl)
def fLstE (A : FA) : FE := fun ρ post xp => A ρ (fun xs ρ1 => xs.length ≤ 1000000 ∧ post (.lst xs) ρ1) xp
@[simp ↓] theorem fLstE_ap (A : FA) (ρ : Env) (post : Post) (xp : XP) : fLstE A ρ post xp = (A ρ (fun xs ρ1 => xs.length ≤ 1000000 ∧ post (.lst xs) ρ1) xp) := (rfl)
abbrev FKv := Env → (List (Key × D) → Env → Prop) → XP → Prop
def fKvs0 : FKv := fun ρ post _ => post [] ρ
@[simp ↓] theorem fKvs0_ap (ρ : Env) (post : List (Key × D) → Env → Prop) (z_2 : XP) : fKvs0  ρ post z_2 = (post [] ρ) := (rfl)
def fKvs (F G : FE) (R : FKv) : FKv := fun ρ post xp => F ρ (fun kd ρ1 => G ρ1 (fun d ρ2 => ∃ key, dKey kd = some key ∧ R ρ2 (fun r ρ3 => post ((key, d) :: r) ρ3) xp) xp) xp
@[simp ↓] theorem fKvs_ap (F G : FE) (R : FKv) (ρ : Env) (post : List (Key × D) → Env → Prop) (xp : XP) : fKvs F G R ρ post xp = (F ρ (fun kd ρ1 => G ρ1 (fun d ρ2 => ∃ key, dKey kd = some key ∧ R ρ2 (fun r ρ3 => post ((key, d) :: r) ρ3) xp) xp) xp) := (rfl)
def fCutN (F : FE) (A B : FO) : FE := fun ρ post xp => F ρ (fun d ρ1 => A ρ1 (fun lo ρ2 => B ρ2 (fun hi ρ3 => ∃ ds, lstD d = some ds ∧ post (.lst (cutL ds lo hi)) ρ3) xp) xp) xp
@[simp ↓] theorem fCutN_ap (F : FE) (A B : FO) (ρ : Env) (post : Post) (xp : XP) : fCutN F A B ρ post xp = (F ρ (fun d ρ1 => A ρ1 (fun lo ρ2 => B ρ2 (fun hi ρ3 => ∃ ds, lstD d = some ds ∧ post (.lst (cutL ds lo hi)) ρ3) xp) xp) xp) := (rfl)
/-- a tuple of targets has as many items -/
def GS (g : FG) : Prop := ∀ d ρ k, g d ρ k → ∃ ρ1, k ρ1
def GL (r : FGs) (n : Nat) : Prop := ∀ ds ρ k, r ds ρ k → ds.length = n ∧ ∃ ρ1, k ρ1
theorem gs_nm {i : Nat} : GS (gNm i) := fun _ _ _ h => ⟨_, h⟩
theorem gl_nil : GL gNl 0 := fun ds ρ k h => by
  cases ds with
  | nil => exact ⟨rfl, _, h⟩
  | cons => exact h.elim
theorem gl_cons {g : FG} {r : FGs} {n : Nat} (hg : GS g) (hr : GL r n) : GL (gCn g r) (n + 1) := fun ds ρ k h => by
  cases ds with
  | nil => exact h.elim
  | cons d ds =>
    obtain ⟨ρ1, h⟩ := hg _ _ _ h
    obtain ⟨e, q⟩ := hr _ _ _ h
    exact ⟨congrArg (· + 1) e, q⟩
theorem gs_tp {r : FGs} {n : Nat} (h : GL r n) : GS (gTp r) := fun d ρ k q => by
  cases d <;> first | exact q.elim | exact (h _ _ _ q).2

/-! ### comprehensions whose parts' transformers may name the block -/
abbrev Bk (X : Cx) (scope : Scope) (s : Shared) (H : Hp) (C : Addr) (cl : List (Str × Addr)) (fp : List Addr) : Cx := X.blk s H scope (compEnvC scope cl C X.env) fp
section
variable {X : Cx} {Wx : WX} {P L I J : List Nat} {elt tg iter : Expr} {ifs : List Expr} {scope : Scope} {own : List (Str × Nat)} {pos spos py : Pos} {wi : TI} {A : FA} {gd : FG} {T : FT} {E : FE} {ts : List Nat}
theorem all_de {e : Expr} (h : ∀ (s : Shared) (H : Hp) (C : Addr) (cl : List (Str × Addr)) (fp : List Addr), ∃ te, DE (Bk X scope s H C cl fp) Wx P I e te E J) :
    ∃ te, ∀ (s : Shared) (H : Hp) (C : Addr) (cl : List (Str × Addr)) (fp : List Addr), DE (Bk X scope s H C cl fp) Wx P I e te E J := by
  classical
  refine ⟨fun σ H Q => ∀ s H0 C cl fp, Classical.choose (h s H0 C cl fp) σ H Q, fun s H C cl fp => ?_⟩
  have k := Classical.choose_spec (h s H C cl fp)
  refine ⟨⟨fun pins s1 σ H1 Q I1 q => k.pe.run pins s1 σ H1 Q I1 (q s H C cl fp)⟩, fun W ρ σ Hb H1 Q post xp E1 f x q s2 H2 C2 cl2 fp2 => ?_⟩
  exact (Classical.choose_spec (h s2 H2 C2 cl2 fp2)).ev W ρ σ Hb H1 Q post xp E1 f x q
theorem all_dts (h : ∀ (s : Shared) (H : Hp) (C : Addr) (cl : List (Str × Addr)) (fp : List Addr), ∃ te, DTs (Bk X scope s H C cl fp) Wx P I ifs te T J) :
    ∃ te, ∀ (s : Shared) (H : Hp) (C : Addr) (cl : List (Str × Addr)) (fp : List Addr), DTs (Bk X scope s H C cl fp) Wx P I ifs te T J := by
  classical
  refine ⟨fun σ H Q => ∀ s H0 C cl fp, Classical.choose (h s H0 C cl fp) σ H Q, fun s H C cl fp => ?_⟩
  have k := Classical.choose_spec (h s H C cl fp)
  refine ⟨⟨fun pins s1 σ H1 Q I1 q => k.pe.run pins s1 σ H1 Q I1 (q s H C cl fp)⟩, fun W ρ σ Hb H1 Q post xp E1 f x q s2 H2 C2 cl2 fp2 => ?_⟩
  exact (Classical.choose_spec (h s2 H2 C2 cl2 fp2)).ev W ρ σ Hb H1 Q post xp E1 f x q
theorem all_dg (h : ∀ (s : Shared) (H : Hp) (C : Addr) (cl : List (Str × Addr)) (fp : List Addr), ∃ g, DG (Bk X scope s H C cl fp) P I tg ts g gd) :
    ∃ g, ∀ (s : Shared) (H : Hp) (C : Addr) (cl : List (Str × Addr)) (fp : List Addr), DG (Bk X scope s H C cl fp) P I tg ts g gd := by
  classical
  refine ⟨fun v σ H Q => ∀ s H0 C cl fp, Classical.choose (h s H0 C cl fp) v σ H Q, fun s H C cl fp => ?_⟩
  have k := Classical.choose_spec (h s H C cl fp)
  refine ⟨⟨fun pins s1 σ H1 v u Q I1 r q => k.pe.run pins s1 σ H1 v u Q I1 r (q s H C cl fp)⟩, fun W ρ σ Hb H1 v d Q kk E1 i f q s2 H2 C2 cl2 fp2 => ?_⟩
  exact (Classical.choose_spec (h s2 H2 C2 cl2 fp2)).ev W ρ σ Hb H1 v d Q kk E1 i f q
/-- the new list of a comprehension -/
structure DNx (X : Cx) (Wx : WX) (P I : List Nat) (e : Expr) (F : FE) (J : List Nat) : Prop where
  ex : ∃ t, DNw X Wx P I e t F J
theorem dx_lc (N : List Str) (sc : Scope) (own : List (Str × Nat)) (vs : List Nat) (hc : X.calm = true) (hN : X.N.Nodup) (hi : DI X Wx P I tg iter wi A J) (hb : blkC N sc scope own = true)
    (hg : ∀ (s : Shared) (H : Hp) (C : Addr) (cl : List (Str × Addr)) (fp : List Addr), ∃ g, DG (Bk X scope s H C cl fp) (P ++ J) [] tg ts g gd)
    (ht : ∀ (s : Shared) (H : Hp) (C : Addr) (cl : List (Str × Addr)) (fp : List Addr), ∃ tt, DTs (Bk X scope s H C cl fp) WN (P ++ J) [] ifs tt T [])
    (he : ∀ (s : Shared) (H : Hp) (C : Addr) (cl : List (Str × Addr)) (fp : List Addr), ∃ te, DE (Bk X scope s H C cl fp) WN (P ++ J) [] elt te E [])
    (e1 : X.N = N := by rfl) (e2 : X.env.scope = sc := by rfl) (e3 : own.map (·.2) = vs := by rfl)
    (hts : ∀ v ∈ ts, v ∈ own.map (·.2) := by decide) (hvs : ∀ v ∈ own.map (·.2), v ∉ P ∧ v ∉ J := by decide) (hs : ∀ x, foldedSetIterable iter X.env x = pure x := by intro _; rfl) :
    DNx X Wx P I (.ListComp elt [⟨tg, iter, ifs, 0⟩] scope pos) (fLc A vs gd T E) J := by
  obtain ⟨g, hg⟩ := all_dg hg
  obtain ⟨tt, ht⟩ := all_dts ht
  obtain ⟨te, he⟩ := all_de he
  subst e1 e2 e3
  exact ⟨_, dn_lc own hc hN hi (blkOk_by hb) hg ht he hts hvs hs⟩
end
theorem dn_of {X : Cx} {Wx : WX} {P I J : List Nat} {e : Expr} {F : FE} (h : DNx X Wx P I e F J) : DNw X Wx P I e (Classical.choose h.ex) F J := Classical.choose_spec h.ex
section
variable {X : Cx} {Wx : WX} {P L I J : List Nat} {elt tg iter : Expr} {ifs : List Expr} {scope : Scope} {own : List (Str × Nat)} {pos spos py : Pos} {wi : TI} {A : FA} {gd : FG} {T : FT} {E : FE} {ts : List Nat}
theorem dx_setLcN (i : Nat) {y : Str} (N : List Str) (sc : Scope) (own : List (Str × Nat)) (vs : List Nat) (hc : X.calm = true) (hN : X.N.Nodup) (hsw : swapsWith (.ListComp elt [⟨tg, iter, ifs, 0⟩] scope pos) (some (.Name y py)) spos.line X.env = pure true) (hi : DI X Wx P I tg iter wi A J) (hb : blkC N sc scope own = true)
    (hg : ∀ (s : Shared) (H : Hp) (C : Addr) (cl : List (Str × Addr)) (fp : List Addr), ∃ g, DG (Bk X scope s H C cl fp) (P ++ J) [] tg ts g gd)
    (ht : ∀ (s : Shared) (H : Hp) (C : Addr) (cl : List (Str × Addr)) (fp : List Addr), ∃ tt, DTs (Bk X scope s H C cl fp) WN (P ++ J) [] ifs tt T [])
    (he : ∀ (s : Shared) (H : Hp) (C : Addr) (cl : List (Str × Addr)) (fp : List Addr), ∃ te, DE (Bk X scope s H C cl fp) WN (P ++ J) [] elt te E [])
    (e1 : X.N = N := by rfl) (e2 : X.env.scope = sc := by rfl) (e3 : own.map (·.2) = vs := by rfl)
    (hy : X.N[i]? = some y := by rfl) (hyl : X.env.scope.names.lookup y = some .local := by rfl) (hP : i ∉ P := by decide)
    (hts : ∀ v ∈ ts, v ∈ own.map (·.2) := by decide) (hvs : ∀ v ∈ own.map (·.2), v ∉ P ∧ v ∉ J := by decide) (hs : ∀ x, foldedSetIterable iter X.env x = pure x := by intro _; rfl) :
    DS X Wx P L I (.Assign [.Name y py] (.ListComp elt [⟨tg, iter, ifs, 0⟩] scope pos) spos) (fSetN i (fLc A vs gd T E)) (i :: J) := by
  obtain ⟨g, hg⟩ := all_dg hg
  obtain ⟨tt, ht⟩ := all_dts ht
  obtain ⟨te, he⟩ := all_de he
  subst e1 e2 e3
  exact ds_setLcN i own hc hN hsw hi (blkOk_by hb) hg ht he hy hyl hP hts hvs hs
theorem dx_setLc (i : Nat) {y : Str} (N : List Str) (sc : Scope) (own : List (Str × Nat)) (vs : List Nat) (hc : X.calm = true) (hN : X.N.Nodup) (hsw : swapsWith (.ListComp elt [⟨tg, iter, ifs, 0⟩] scope pos) (some (.Name y py)) spos.line X.env = pure true) (hi : DI X Wx P I tg iter wi A J) (hb : blkC N sc scope own = true)
    (hg : ∀ (s : Shared) (H : Hp) (C : Addr) (cl : List (Str × Addr)) (fp : List Addr), ∃ g, DG (Bk X scope s H C cl fp) (P ++ J) [] tg ts g gd)
    (ht : ∀ (s : Shared) (H : Hp) (C : Addr) (cl : List (Str × Addr)) (fp : List Addr), ∃ tt, DTs (Bk X scope s H C cl fp) WN (P ++ J) [] ifs tt T [])
    (he : ∀ (s : Shared) (H : Hp) (C : Addr) (cl : List (Str × Addr)) (fp : List Addr), ∃ te, DE (Bk X scope s H C cl fp) WN (P ++ J) [] elt te E [])
    (e1 : X.N = N := by rfl) (e2 : X.env.scope = sc := by rfl) (e3 : own.map (·.2) = vs := by rfl)
    (hy : X.N[i]? = some y := by rfl) (hyl : X.env.scope.names.lookup y = some .local := by rfl) (hP : i ∉ P := by decide) (hI : i ∉ J := by decide)
    (hts : ∀ v ∈ ts, v ∈ own.map (·.2) := by decide) (hvs : ∀ v ∈ own.map (·.2), v ∉ P ∧ v ∉ J := by decide) (hs : ∀ x, foldedSetIterable iter X.env x = pure x := by intro _; rfl) :
    DS X Wx P L I (.Assign [.Name y py] (.ListComp elt [⟨tg, iter, ifs, 0⟩] scope pos) spos) (fSet i (fLc A vs gd T E)) J := by
  obtain ⟨g, hg⟩ := all_dg hg
  obtain ⟨tt, ht⟩ := all_dts ht
  obtain ⟨te, he⟩ := all_de he
  subst e1 e2 e3
  exact ds_setLc i own hc hN hsw hi (blkOk_by hb) hg ht he hy hyl hP hI hts hvs hs
end
theorem cx_no {P : Program} {w : World} {outer : List PySem.Env} {H : Hp} {s s' : Shared} {u : Value} (h : L2.CX P w outer H s (fun _ _ _ => False) u s') : False := by
  obtain ⟨a, B, H', cls, d, h⟩ := h
  obtain ⟨_, _, _, _, _, _, h⟩ := h
  exact h.2

/-! ### == and != with an empty list or tuple: the items don't matter -/
section
variable {X : Cx} {K : PySem.W.Frag} {Hb H : Hp}
def rEmpS (K : PySem.W.Frag) (neg : Bool) : R2 := fun x y H Q => ∃ a b xs ys, x = .ref a ∧ y = .ref b ∧ ((SqL K H a xs ∧ SqL K H b ys) ∨ (SqT K H a xs ∧ SqT K H b ys)) ∧ (xs = [] ∨ ys = []) ∧ Q (.bl (neg != decide (xs.length = ys.length))) H
theorem emp_range {n m : Nat} (h : n = 0 ∨ m = 0) (e : Nat → Bool) : (List.range (min n m)).all e = true := by
  have : min n m = 0 := by omega
  rw [this]; rfl
theorem op_eqEmpS (hu : X.A.units < cLine) : OpR X (compareOp .Eq) (rEmpS X.K false) := by
  intro pins s σ H x y v u Q I rx ry h
  obtain ⟨a, b, xs, ys, rfl, rfl, hs, he, q⟩ := h
  cases rx; cases ry
  rcases hs with ⟨h1, h2⟩ | ⟨h1, h2⟩
  · obtain ⟨i1, r1, p1, _⟩ := I.list h1
    obtain ⟨i2, r2, p2, _⟩ := I.list h2
    have l1 := r1.length
    have l2 := r2.length
    by_cases hl : xs.length = ys.length
    · have z : xs = [] ∧ ys = [] := by
        rcases he with e | e
        · subst e; exact ⟨rfl, List.eq_nil_of_length_eq_zero hl.symm⟩
        · subst e; exact ⟨List.eq_nil_of_length_eq_zero hl, rfl⟩
      obtain ⟨rfl, rfl⟩ := z
      cases r1; cases r2
      exact SeqAt.eq_listAt (e := fun _ => true) p1.isList p2.isList rfl hu (fun j h _ => absurd h (by simp)) ⟨.bl true, H, I, rfl, by simpa using q⟩
    · refine SeqAt.eq_list_lengthsAt p1.isList p2.isList (by simp only [List.size_toArray, bne_iff_ne, ne_eq]; omega) hu ⟨.bl false, H, I, rfl, ?_⟩
      rw [decide_eq_false hl] at q
      exact q
  · obtain ⟨i1, r1, p1, _⟩ := I.tuple h1
    obtain ⟨i2, r2, p2, _⟩ := I.tuple h2
    have l1 := r1.length
    have l2 := r2.length
    have hz : i1.toArray.size = 0 ∨ i2.toArray.size = 0 := by
      simp only [List.size_toArray]
      rcases he with e | e
      · subst e; left; simpa using l1.symm
      · subst e; right; simpa using l2.symm
    refine SeqAt.eq_tupleAt (e := fun _ => true) p1 p2 hu (fun j h h' => by omega) ?_
    rw [emp_range hz]
    refine ⟨.bl (decide (xs.length = ys.length)), H, I, ?_, by simpa using q⟩
    show Value.bool _ = Value.bool _
    congr 1
    rw [Bool.true_and, l1, l2, List.size_toArray, List.size_toArray]
    by_cases z : i1.length = i2.length
    · rw [decide_eq_true z]; simpa using z
    · rw [decide_eq_false z]; simpa using z
theorem op_neEmpS (hu : X.A.units < cLine) : OpR X (compareOp .NotEq) (rEmpS X.K true) := by
  intro pins s σ H x y v u Q I rx ry h
  obtain ⟨a, b, xs, ys, rfl, rfl, hs, he, q⟩ := h
  cases rx; cases ry
  rcases hs with ⟨h1, h2⟩ | ⟨h1, h2⟩
  · obtain ⟨i1, r1, p1, _⟩ := I.list h1
    obtain ⟨i2, r2, p2, _⟩ := I.list h2
    have l1 := r1.length
    have l2 := r2.length
    by_cases hl : xs.length = ys.length
    · have z : xs = [] ∧ ys = [] := by
        rcases he with e | e
        · subst e; exact ⟨rfl, List.eq_nil_of_length_eq_zero hl.symm⟩
        · subst e; exact ⟨List.eq_nil_of_length_eq_zero hl, rfl⟩
      obtain ⟨rfl, rfl⟩ := z
      cases r1; cases r2
      exact SeqAt.RcNeAt.lists (e := fun _ => true) p1.isList p2.isList rfl hu (fun j h _ => absurd h (by simp)) _ _ _ _ ⟨.bl false, H, I, rfl, by simpa using q⟩
    · refine SeqAt.RcNeAt.lists_lengths p1.isList p2.isList (by simp only [List.size_toArray, bne_iff_ne, ne_eq]; omega) hu _ _ _ _ ⟨.bl true, H, I, rfl, ?_⟩
      rw [decide_eq_false hl] at q
      exact q
  · obtain ⟨i1, r1, p1, _⟩ := I.tuple h1
    obtain ⟨i2, r2, p2, _⟩ := I.tuple h2
    have l1 := r1.length
    have l2 := r2.length
    have hz : i1.toArray.size = 0 ∨ i2.toArray.size = 0 := by
      simp only [List.size_toArray]
      rcases he with e | e
      · subst e; left; simpa using l1.symm
      · subst e; right; simpa using l2.symm
    refine SeqAt.RcNeAt.tuples (e := fun _ => true) p1 p2 hu (fun j h h' => by omega) _ _ _ _ ?_
    rw [emp_range hz]
    refine ⟨.bl (!decide (xs.length = ys.length)), H, I, ?_, by simpa using q⟩
    show Value.bool _ = Value.bool _
    congr 1
    rw [Bool.true_and, l1, l2, List.size_toArray, List.size_toArray]
    by_cases z : i1.length = i2.length
    · rw [decide_eq_true z]; simpa using z
    · rw [decide_eq_false z]; simpa using z
def rEqSt (neg : Bool) : R2 := fun x y H Q => ∃ a b : Str, x = .str a ∧ y = .str b ∧ Q (.bl (neg != decide (a = b))) H
abbrev rEmp (K : PySem.W.Frag) (neg : Bool) : R2 := fun x y H Q => rEmpS K neg x y H Q ∨ rEqSt neg x y H Q
theorem op_eqSt : OpR X (compareOp .Eq) (rEqSt false) := fun pins s σ H x y v u Q I rx ry ⟨a, b, ex, ey, q⟩ => op_eq pins s σ H x y v u Q I rx ry (by
  subst ex; subst ey
  refine ⟨rfl, ?_⟩
  have : decide (V.str a = V.str b) = decide (a = b) := by simp
  rw [this]; simpa using q)
theorem op_neSt : OpR X (compareOp .NotEq) (rEqSt true) := fun pins s σ H x y v u Q I rx ry ⟨a, b, ex, ey, q⟩ => op_ne pins s σ H x y v u Q I rx ry (by
  subst ex; subst ey
  refine ⟨rfl, ?_⟩
  have : decide (V.str a = V.str b) = decide (a = b) := by simp
  rw [this]; simpa using q)
theorem op_eqEmp (hu : X.A.units < cLine) : OpR X (compareOp .Eq) (rEmp X.K false) := (op_eqEmpS hu).or op_eqSt
theorem op_neEmp (hu : X.A.units < cLine) : OpR X (compareOp .NotEq) (rEmp X.K true) := (op_neEmpS hu).or op_neSt
/-- two sequences of one kind, one of them empty -/
def empty2 : D → D → Option Bool
  | .lst a, .lst b => if a = [] ∨ b = [] then some (decide (a.length = b.length)) else none
  | .slst a, .lst b => if a = [] ∨ b = [] then some (decide (a.length = b.length)) else none
  | .tup a, .tup b => if a = [] ∨ b = [] then some (decide (a.length = b.length)) else none
  | .str a, .str b => some (decide (a = b))
  | _, _ => none
def gEqU : G2 := fun x y k => match empty2 x y with
  | some b => k (.bl b)
  | none => gEq x y k
def gNeU : G2 := fun x y k => match empty2 x y with
  | some b => k (.bl (!b))
  | none => gNe x y k
theorem emp_of (s : Sub Hb H) {v w : V} {x y : D} {b : Bool} {neg : Bool} {Q : VK} (ix : IsO K Hb H v x) (iy : IsO K Hb H w y) (e : empty2 x y = some b) (q : Q (.bl (neg != b)) H) : rEmp K neg v w H Q := by
  have L : ∀ {a b' : List D}, lstD x = some a → lstD y = some b' → (if a = [] ∨ b' = [] then some (decide (a.length = b'.length)) else none) = some b → rEmpS K neg v w H Q := fun {a b'} e1 e2 e => by
    obtain ⟨p, us, rfl, h1, l1⟩ := o_lstD s ix e1
    obtain ⟨p', us', rfl, h2, l2⟩ := o_lstD s iy e2
    split at e
    · rename_i he
      cases e
      refine ⟨p, p', us, us', rfl, rfl, .inl ⟨h1, h2⟩, he.imp (fun z => ?_) (fun z => ?_), by rw [l1.length, l2.length]; exact q⟩
      · subst z; exact List.eq_nil_of_length_eq_zero (by rw [l1.length]; rfl)
      · subst z; exact List.eq_nil_of_length_eq_zero (by rw [l2.length]; rfl)
    · cases e
  unfold empty2 at e
  split at e
  · exact .inl (L rfl rfl e)
  · exact .inl (L rfl rfl e)
  · obtain ⟨_, p, us, rfl, h1, l1⟩ := o_tupD s ix rfl
    obtain ⟨_, p', us', rfl, h2, l2⟩ := o_tupD s iy rfl
    split at e
    · rename_i he
      cases e
      refine .inl ⟨p, p', us, us', rfl, rfl, .inr ⟨h1, h2⟩, he.imp (fun z => ?_) (fun z => ?_), by rw [l1.length, l2.length]; exact q⟩
      · subst z; exact List.eq_nil_of_length_eq_zero (by rw [l1.length]; rfl)
      · subst z; exact List.eq_nil_of_length_eq_zero (by rw [l2.length]; rfl)
    · cases e
  · cases e
    have e1 := o_str ix
    have e2 := o_str iy
    exact .inr ⟨_, _, e1, e2, q⟩
  · cases e
theorem op_eqU (hu : X.A.units + 64 < cLine) : OpR X (compareOp .Eq) (fun x y H Q => rEqD X.K x y H Q ∨ rEmp X.K false x y H Q) := (op_eqD hu).or (op_eqEmp (by omega))
theorem op_neU (hu : X.A.units + 64 < cLine) : OpR X (compareOp .NotEq) (fun x y H Q => rNeD X.K x y H Q ∨ rEmp X.K true x y H Q) := (op_neD hu).or (op_neEmp (by omega))
theorem rv_eqU : RV2 K (fun x y H Q => rEqD K x y H Q ∨ rEmp K false x y H Q) gEqU := fun Hb H x y dx dy k Q s ix iy g q => by
  unfold gEqU at g
  split at g
  · rename_i b e
    exact .inr (emp_of s ix iy e (by simpa using q _ _ _ _ g .refl (.bl _)))
  · exact .inl (rv_eq Hb H x y dx dy k Q s ix iy g q)
theorem rv_neU : RV2 K (fun x y H Q => rNeD K x y H Q ∨ rEmp K true x y H Q) gNeU := fun Hb H x y dx dy k Q s ix iy g q => by
  unfold gNeU at g
  split at g
  · rename_i b e
    exact .inr (emp_of s ix iy e (by simpa using q _ _ _ _ g .refl (.bl _)))
  · exact .inl (rv_ne Hb H x y dx dy k Q s ix iy g q)
end
end DL

/-! DL11: how readings are evaluated (simp). -/
namespace DL
open PySem L2

@[simp] theorem ofString_inj {a b : String} : (Str.ofString a = Str.ofString b) = (a = b) := by
  refine propext ⟨fun h => ?_, fun h => by rw [h]⟩
  rw [Str.ofString_eq_toList, Str.ofString_eq_toList] at h
  have h := congrArg (fun s : Str => s.cps.toList) h
  simp only [List.toList_toArray] at h
  have inj : ∀ {l m : List Char}, l.map Char.toNat = m.map Char.toNat → l = m := by
    intro l
    induction l with
    | nil => intro m h; cases m with
      | nil => rfl
      | cons => simp at h
    | cons x l ih => intro m h; cases m with
      | nil => simp at h
      | cons y m =>
        simp only [List.map_cons, List.cons.injEq] at h
        have e : x = y := by
          have := h.1
          exact Char.ext (UInt32.toNat_inj.mp this)
        rw [e, ih h.2]
  exact String.toList_injective (inj h)
@[simp] theorem get_zero (x : Option D) (r : Env) : get (x :: r) 0 = x := rfl
@[simp] theorem get_succ (x : Option D) (r : Env) (n : Nat) : get (x :: r) (n + 1) = get r n := rfl
@[simp] theorem put_zero (x d : Option D) (r : Env) : put (x :: r) 0 d = d :: r := rfl
@[simp] theorem put_succ (x d : Option D) (r : Env) (n : Nat) : put (x :: r) (n + 1) d = x :: put r n d := rfl
@[simp ↓] theorem gAdd_int (i j : Int) (k) : gAdd (.int i) (.int j) k = k (.int (i + j)) := (rfl)
@[simp ↓] theorem gAdd_lst (a b : List D) (k) : gAdd (.lst a) (.lst b) k = (a.length + b.length ≤ 1000000 ∧ k (.lst (a ++ b))) := (rfl)
@[simp ↓] theorem gAdd_tup (a b : List D) (k) : gAdd (.tup a) (.tup b) k = (a.length + b.length ≤ 1000000 ∧ k (.tup (a ++ b))) := (rfl)
@[simp ↓] theorem gAdd_str (a b : Str) (k) : gAdd (.str a) (.str b) k = (a.length + b.length ≤ 1000000 ∧ k (.str (a ++ b))) := (rfl)
@[simp ↓] theorem gSub_int (i j : Int) (k) : gSub (.int i) (.int j) k = k (.int (i - j)) := (rfl)
@[simp ↓] theorem gMul_int (i j : Int) (k) : gMul (.int i) (.int j) k = (CMulO i j ∧ k (.int (i * j))) := (rfl)
@[simp ↓] theorem gFdiv_int (i j : Int) (k) : gFdiv (.int i) (.int j) k = ((j ≠ 0 ∧ j.natAbs.log2 < 9000) ∧ k (.int (i.fdiv j))) := (rfl)
@[simp ↓] theorem gFmod_int (i j : Int) (k) : gFmod (.int i) (.int j) k = (j ≠ 0 ∧ k (.int (i.fmod j))) := (rfl)
@[simp ↓] theorem gPow_int (i j : Int) (k) : gPow (.int i) (.int j) k = ((0 ≤ j ∧ j ≤ 1000000 ∧ i.natAbs < 2 ^ 64) ∧ k (.int (i ^ j.toNat))) := (rfl)
@[simp ↓] theorem gNeg_int (i : Int) (k) : gNeg (.int i) k = k (.int (-i)) := (rfl)
@[simp ↓] theorem gLt_int (i j : Int) (k) : gLt (.int i) (.int j) k = k (.bl (decide (i < j))) := (rfl)
@[simp ↓] theorem gLe_int (i j : Int) (k) : gLe (.int i) (.int j) k = k (.bl (decide (i ≤ j))) := (rfl)
@[simp ↓] theorem gGt_int (i j : Int) (k) : gGt (.int i) (.int j) k = k (.bl (decide (j < i))) := (rfl)
@[simp ↓] theorem gGe_int (i j : Int) (k) : gGe (.int i) (.int j) k = k (.bl (decide (j ≤ i))) := (rfl)
@[simp ↓] theorem gEqU_lst0 (a : List D) (k) : gEqU (.lst a) (.lst []) k = k (.bl (decide (a = []))) := by
  have e : empty2 (.lst a) (.lst []) = some (decide (a = [])) := by simp [empty2, List.length_eq_zero_iff]
  show (match empty2 (.lst a) (.lst []) with | some b => k (.bl b) | none => _) = _
  rw [e]
@[simp ↓] theorem gNeU_lst0 (a : List D) (k) : gNeU (.lst a) (.lst []) k = k (.bl (!decide (a = []))) := by
  have e : empty2 (.lst a) (.lst []) = some (decide (a = [])) := by simp [empty2, List.length_eq_zero_iff]
  show (match empty2 (.lst a) (.lst []) with | some b => k (.bl (!b)) | none => _) = _
  rw [e]
theorem gEq_of {x y : D} {a b : PyData} (h1 : pd x = some a) (h2 : pd y = some b) (s1 : SeqAt.shaped a = true) (s2 : SeqAt.shaped b = true) (k : D → Prop) : gEq x y k = k (.bl (PyData.eqv a b)) := by
  refine propext ⟨fun ⟨c, d, e1, e2, _, _, h⟩ => ?_, fun h => ⟨a, b, h1, h2, s1, s2, h⟩⟩
  rw [h1] at e1; rw [h2] at e2
  cases e1; cases e2; exact h
theorem gNe_of {x y : D} {a b : PyData} (h1 : pd x = some a) (h2 : pd y = some b) (s1 : SeqAt.shaped a = true) (s2 : SeqAt.shaped b = true) (k : D → Prop) : gNe x y k = k (.bl (!PyData.eqv a b)) := by
  refine propext ⟨fun ⟨c, d, e1, e2, _, _, h⟩ => ?_, fun h => ⟨a, b, h1, h2, s1, s2, h⟩⟩
  rw [h1] at e1; rw [h2] at e2
  cases e1; cases e2; exact h
theorem shaped_int (i : Int) : SeqAt.shaped (.int i) = true := by
  simp [SeqAt.shaped, PyData.canLay0, PyData.depth]
theorem shaped_bool (i : Bool) : SeqAt.shaped (.bool i) = true := by
  simp [SeqAt.shaped, PyData.canLay0, PyData.depth]
theorem shaped_none : SeqAt.shaped .none = true := by
  simp [SeqAt.shaped, PyData.canLay0, PyData.depth]
@[simp ↓] theorem gEqU_int (i j : Int) (k) : gEqU (.int i) (.int j) k = k (.bl (decide (i = j))) := by
  show gEq _ _ _ = _
  rw [gEq_of rfl rfl (shaped_int i) (shaped_int j)]
  have e : PyData.eqv (.int i) (.int j) = decide (i = j) := by
    simp only [PyData.eqv]
    by_cases h : i = j <;> simp [h]
  rw [e]
@[simp ↓] theorem gNeU_int (i j : Int) (k) : gNeU (.int i) (.int j) k = k (.bl (!decide (i = j))) := by
  show gNe _ _ _ = _
  rw [gNe_of rfl rfl (shaped_int i) (shaped_int j)]
  have e : PyData.eqv (.int i) (.int j) = decide (i = j) := by
    simp only [PyData.eqv]
    by_cases h : i = j <;> simp [h]
  rw [e]
@[simp ↓] theorem gEqU_bl (i j : Bool) (k) : gEqU (.bl i) (.bl j) k = k (.bl (decide (i = j))) := by
  show gEq _ _ _ = _
  rw [gEq_of rfl rfl (shaped_bool i) (shaped_bool j)]
  cases i <;> cases j <;> simp [PyData.eqv]
@[simp ↓] theorem gNeU_bl (i j : Bool) (k) : gNeU (.bl i) (.bl j) k = k (.bl (!decide (i = j))) := by
  show gNe _ _ _ = _
  rw [gNe_of rfl rfl (shaped_bool i) (shaped_bool j)]
  cases i <;> cases j <;> simp [PyData.eqv]
@[simp ↓] theorem gIs_non (x : D) (k) : gIs x .non k = k (.bl (isN x)) := by cases x <;> rfl
@[simp ↓] theorem gIs_bl (a b : Bool) (k) : gIs (.bl a) (.bl b) k = k (.bl (decide (a = b))) := (rfl)
@[simp ↓] theorem gIsNot_non (x : D) (k) : gIsNot x .non k = k (.bl (!isN x)) := by cases x <;> rfl
@[simp ↓] theorem gIsNot_bl (a b : Bool) (k) : gIsNot (.bl a) (.bl b) k = k (.bl (!decide (a = b))) := (rfl)
@[simp ↓] theorem gIx_tup (a : List D) (i : Int) (k) : gIx (.tup a) (.int i) k = ∃ d, atI a i = some d ∧ k d := (rfl)
@[simp ↓] theorem gIx_lst (a : List D) (i : Int) (k) : gIx (.lst a) (.int i) k = ∃ d, atI a i = some d ∧ k d := (rfl)
@[simp ↓] theorem gIx_slst (a : List D) (i : Int) (k) : gIx (.slst a) (.int i) k = ∃ d, atI a i = some d ∧ k d := (rfl)
@[simp ↓] theorem gIx_dkS (a : List (Key × D)) (i : Str) (k) : gIx (.dk a) (.str i) k = ∃ d, valD a (.inr i) = some d ∧ k d := by
  show (∃ d, getK (.dk a) (.str i) = some (some d) ∧ k d) = _
  simp [getK]
@[simp ↓] theorem gIx_dkI (a : List (Key × D)) (i : Int) (k) : gIx (.dk a) (.int i) k = ∃ d, valD a (.inl i) = some d ∧ k d := by
  show (∃ d, getK (.dk a) (.int i) = some (some d) ∧ k d) = _
  simp [getK]
@[simp] theorem valD_cons {κ : Type} [DecidableEq κ] (p : κ × D) (r : List (κ × D)) (k : κ) : valD (p :: r) k = if p.1 = k then some p.2 else valD r k := by
  unfold valD
  by_cases h : p.1 = k
  · simp [List.find?_cons, h]
  · simp [List.find?_cons, h]
@[simp] theorem valD_nil {κ : Type} [DecidableEq κ] (k : κ) : valD ([] : List (κ × D)) k = none := rfl
@[simp] theorem putKD_dkS (a : List (Key × D)) (i : Str) (v d : D) : (putKD (.dk a) (.str i) v = some d) = (D.dk (putD a (.inr i) v) = d) := by simp [putKD]
@[simp] theorem putKD_dkI (a : List (Key × D)) (i : Int) (v d : D) : (putKD (.dk a) (.int i) v = some d) = (D.dk (putD a (.inl i) v) = d) := by simp [putKD]
@[simp] theorem sizeD_dk (a : List (Key × D)) : sizeD (.dk a) = a.length := rfl
@[simp] theorem isDict_dk (a : List (Key × D)) : isDict (.dk a) = True := rfl
@[simp ↓] theorem gLen_lst (a : List D) (k) : gLen [.lst a] k = k (.int a.length) := (rfl)
@[simp ↓] theorem gLen_slst (a : List D) (k) : gLen [.slst a] k = k (.int a.length) := (rfl)
@[simp ↓] theorem gLen_tup (a : List D) (k) : gLen [.tup a] k = k (.int a.length) := (rfl)
@[simp ↓] theorem gLen_dk (a : List (Key × D)) (k) : gLen [.dk a] k = k (.int a.length) := (rfl)
@[simp ↓] theorem gAbs_int (i : Int) (k) : gAbs [.int i] k = k (.int (if i < 0 then -i else i)) := (rfl)
@[simp ↓] theorem gInt_int (i : Int) (k) : gInt [.int i] k = k (.int i) := (rfl)
@[simp ↓] theorem gInt_bl (b : Bool) (k) : gInt [.bl b] k = k (.int (if b then 1 else 0)) := (rfl)
@[simp ↓] theorem gTuple_lst (a : List D) (k) : gTuple [.lst a] k = k (.tup a) := (rfl)
@[simp ↓] theorem gTuple_tup (a : List D) (k) : gTuple [.tup a] k = k (.tup a) := (rfl)
@[simp ↓] theorem gIsi_ty (c : Kd) (d : D) (n : String) (k) : gIsi c [d, .ty n] k = (n = c.name ∧ ∃ b, isK c d = some b ∧ k (.bl b)) := (rfl)
@[simp ↓] theorem gReprF_one (d : D) (k) : gReprF [d] k = ∃ z, flatText d = some z ∧ k (.str z) := (rfl)
@[simp ↓] theorem gCut_lst (a : List D) (lo hi : Option Int) (k) : gCut (.lst a) lo hi k = k (.lst (cutL a lo hi)) := (rfl)
@[simp ↓] theorem gCut_slst (a : List D) (lo hi : Option Int) (k) : gCut (.slst a) lo hi k = k (.lst (cutL a lo hi)) := (rfl)
@[simp ↓] theorem endS_nx (io n post xp ρ) : (endS io n post xp).nx ρ = post .non (maskF io 0 n ρ) := (rfl)
@[simp ↓] theorem endS_rt (io n post xp d ρ) : (endS io n post xp).rt d ρ = post d (maskF io 0 n ρ) := (rfl)
@[simp ↓] theorem endS_ex (io n post xp d ρ) : (endS io n post xp).ex d ρ = xp d (maskF io 0 n ρ) := (rfl)
@[simp] theorem maskF_zero (io i ρ) : maskF io i 0 ρ = [] := rfl
@[simp] theorem maskF_succ (io i n ρ) : maskF io i (n + 1) ρ = (if i ∈ io then get ρ i else none) :: maskF io (i + 1) n ρ := rfl
theorem atI_nat {a : List D} {i : Nat} {d : D} (h : a[i]? = some d) : atI a (i : Int) = some d := by
  obtain ⟨hl, _⟩ := List.getElem?_eq_some_iff.mp h
  unfold atI ixN
  rw [if_pos (by omega), if_pos (by omega)]
  simpa using h
/-- an item by a drawn index -/
theorem atI_lt {a : List D} {i : Int} (h0 : 0 ≤ i) (h1 : i < a.length) : ∃ d, atI a i = some d ∧ d ∈ a := by
  have hl : i.toNat < a.length := by omega
  refine ⟨a[i.toNat], ?_, List.getElem_mem hl⟩
  have := atI_nat (a := a) (i := i.toNat) (List.getElem?_eq_getElem hl)
  rwa [Int.toNat_of_nonneg h0] at this
theorem fmod_nn {i j : Int} (h : 0 < j) : 0 ≤ i.fmod j := Int.fmod_nonneg_of_pos i h
theorem fmod_lt {i j : Int} (h : 0 < j) : i.fmod j < j := Int.fmod_lt_of_pos i h
theorem fdiv_nn {i j : Int} (h : 0 ≤ i) (h' : 0 < j) : 0 ≤ i.fdiv j := by
  rw [Int.fdiv_eq_ediv_of_nonneg _ (Int.le_of_lt h')]; exact Int.ediv_nonneg h (Int.le_of_lt h')
/-- a for loop by an invariant of the items left and the environment -/
theorem loop_inv {g : FG} {B : FS} {S : SPo} (Inv : List D → Env → Prop) (h0 : ∀ ρ, Inv [] ρ → S.nx ρ)
    (h1 : ∀ d ds ρ (N : Env → Prop), (∀ ρ', Inv ds ρ' → N ρ') → Inv (d :: ds) ρ → g d ρ fun ρ1 => B ρ1 (S.lp N)) :
    ∀ ds ρ, Inv ds ρ → loopL g B S ds ρ
  | [], ρ, h => h0 ρ h
  | d :: ds, ρ, h => h1 d ds ρ _ (fun ρ' q => loop_inv Inv h0 h1 ds ρ' q) h
/-- a comprehension by an invariant -/
theorem comp_inv {vs : List Nat} {g : FG} {T : FT} {E : FE} {post : Post} (Inv : List D → List D → Env → Prop) (h0 : ∀ acc ρ, Inv [] acc ρ → post (.lst acc) ρ)
    (h1 : ∀ d ds acc ρ (N : List D → Env → Prop), (∀ acc' ρ', Inv ds acc' ρ' → N acc' ρ') → Inv (d :: ds) acc ρ →
      g d (wipeE ρ vs) fun ρ1 => T ρ1 (fun b ρ2 => if b = true then E ρ2 (fun y ρ3 => acc.length < 1000000 ∧ N (acc ++ [y]) (unwipe ρ ρ3 vs)) noX else N acc (unwipe ρ ρ2 vs)) noX) :
    ∀ ds acc ρ, Inv ds acc ρ → compL vs g T E post ds acc ρ
  | [], acc, ρ, h => h0 acc ρ h
  | d :: ds, acc, ρ, h => h1 d ds acc ρ _ (fun acc' ρ' q => comp_inv Inv h0 h1 ds acc' ρ' q) h
theorem ix_drawn {a : List D} {i : Int} {k : D → Prop} (h0 : 0 ≤ i) (h1 : i < a.length) (h : ∀ d ∈ a, k d) : ∃ d, atI a i = some d ∧ k d := by
  obtain ⟨d, e, m⟩ := atI_lt h0 h1
  exact ⟨d, e, h d m⟩
@[simp] theorem atI_ints (ns : List Int) (i : Int) (k : D → Prop) : (∃ d, atI (ns.map D.int) i = some d ∧ k d) = ∃ c, atI ns i = some c ∧ k (.int c) := by
  have e : atI (ns.map D.int) i = (atI ns i).map D.int := by
    unfold atI
    rw [List.length_map]
    cases ixN ns.length i <;> simp
  rw [e]
  refine propext ⟨fun ⟨d, h, q⟩ => ?_, fun ⟨c, h, q⟩ => ⟨_, by rw [h]; rfl, q⟩⟩
  cases z : atI ns i with
  | none => rw [z] at h; cases h
  | some c => rw [z] at h; cases h; exact ⟨c, rfl, q⟩
theorem atI_ex {α : Type} {a : List α} {i : Int} (h0 : 0 ≤ i) (h1 : i < a.length) : ∃ d, atI a i = some d := by
  have hl : i.toNat < a.length := by omega
  refine ⟨a[i.toNat], ?_⟩
  unfold atI ixN
  rw [if_pos h0, if_pos h1]
  simp [hl]
theorem draw_bound {u q a c k : Int} (hu : 0 ≤ u) (hu2 : u < q) (hq : q ≤ 2147483648) (ha : 0 ≤ a) (ha2 : a ≤ 1000000) (hc : 0 ≤ c) (hc2 : c ≤ 1000000) (hk : 0 ≤ k) (hk2 : k ≤ 1000000) : (u * (a + c) + k * a * a).natAbs < 18446744073709551616 := by
  have h1 : u * (a + c) ≤ 2147483648 * 2000000 := Int.mul_le_mul (by omega) (by omega) (by omega) (by omega)
  have h2 : k * a ≤ 1000000 * 1000000 := Int.mul_le_mul hk2 ha2 ha (by omega)
  have h3 : k * a * a ≤ (1000000 * 1000000) * 1000000 := Int.mul_le_mul h2 ha2 ha (by omega)
  have h4 : 0 ≤ u * (a + c) := Int.mul_nonneg hu (by omega)
  have h5 : 0 ≤ k * a * a := Int.mul_nonneg (Int.mul_nonneg hk ha) ha
  omega
theorem cmul_l {i j : Int} (h : -(2 ^ 64) < i) (h' : i < 2 ^ 64) : CMulO i j := .inl ⟨h, h'⟩
theorem cmul_r {i j : Int} (h : -(2 ^ 64) < j) (h' : j < 2 ^ 64) : CMulO i j := .inr (.inl ⟨h, h'⟩)
theorem draw_sum {x p b c d : Int} (hp : 0 < p) (hp2 : p ≤ 2147483648) (hb : 0 ≤ b) (hb2 : b ≤ 1000000) (ha : 0 ≤ c) (ha2 : c ≤ 1000000) (hd : 0 ≤ d) (hd2 : d ≤ 1000000) : (x.fmod p + b * c + d).natAbs < 18446744073709551616 := by
  have h1 := fmod_nn (i := x) hp
  have h2 := fmod_lt (i := x) hp
  have h3 : b * c ≤ 1000000 * 1000000 := Int.mul_le_mul hb2 ha2 ha (by omega)
  have h4 : 0 ≤ b * c := Int.mul_nonneg hb ha
  omega
theorem log_small {m : Int} (hm : 1 ≤ m) (hm2 : m ≤ 1000000) : m.natAbs.log2 < 9000 := by
  have : m.natAbs < 2 ^ 20 := by omega
  have := (Nat.log2_lt (by omega : m.natAbs ≠ 0)).mpr this
  omega
theorem boolTxt {b c : Bool} : ((if b then "True" else "False" : Str) = (if c then "True" else "False" : Str)) = (b = c) := by
  cases b <;> cases c <;> simp
theorem shaped_boolTxt (b : Bool) : SeqAt.shaped (.str (if b then "True" else "False")) = true := by cases b <;> decide +kernel
@[simp ↓] theorem gEqU_str (a b : Str) (k) : gEqU (.str a) (.str b) k = k (.bl (decide (a = b))) := (rfl)
@[simp ↓] theorem gNeU_str (a b : Str) (k) : gNeU (.str a) (.str b) k = k (.bl (!decide (a = b))) := (rfl)
theorem gNeU_bt (b c : Bool) (k) : gNeU (.str (if b then "True" else "False")) (.str (if c then "True" else "False")) k = k (.bl (!decide (b = c))) := by
  have : decide ((if b then "True" else "False" : Str) = (if c then "True" else "False" : Str)) = decide (b = c) := by
    cases b <;> cases c <;> decide +kernel
  show k (.bl (!decide _)) = _
  rw [this]
theorem cutL_all {a : List D} {n : Nat} (h : a.length ≤ n) : cutL a none (some (n : Int)) = a := cutL_whole ⟨rfl, by rw [HT.sIx_nat]; omega⟩
theorem lk_nil (g : FG) (B : FS) (S : SPo) (l : LockS S) (ρ : Env) : loopK g B S l [] ρ = S.nx ρ := rfl
theorem lk_cons (g : FG) (B : FS) (S : SPo) (l : LockS S) (d : D) (ds : List D) (ρ : Env) : loopK g B S l (d :: ds) ρ = g d ρ fun ρ1 => B ρ1 (S.lp (loopK g B S l ds)) := rfl
theorem ix_at {a : List D} {i : Nat} {d : D} (h : a[i]? = some d) (k : D → Prop) : (∃ d', atI a (i : Int) = some d' ∧ k d') = k d := by
  rw [DL.atI_nat h]; simp
@[simp ↓] theorem ix_0 (x : D) (l : List D) (k : D → Prop) : (∃ d', atI (x :: l) 0 = some d' ∧ k d') = k x := ix_at (i := 0) rfl k
@[simp ↓] theorem ix_1 (x0 x1 : D) (l : List D) (k : D → Prop) : (∃ d', atI (x0 :: x1 :: l) 1 = some d' ∧ k d') = k x1 := ix_at (i := 1) rfl k
@[simp ↓] theorem ix_2 (x0 x1 x2 : D) (l : List D) (k : D → Prop) : (∃ d', atI (x0 :: x1 :: x2 :: l) 2 = some d' ∧ k d') = k x2 := ix_at (i := 2) rfl k
@[simp ↓] theorem ix_3 (x0 x1 x2 x3 : D) (l : List D) (k : D → Prop) : (∃ d', atI (x0 :: x1 :: x2 :: x3 :: l) 3 = some d' ∧ k d') = k x3 := ix_at (i := 3) rfl k
@[simp ↓] theorem ix_4 (x0 x1 x2 x3 x4 : D) (l : List D) (k : D → Prop) : (∃ d', atI (x0 :: x1 :: x2 :: x3 :: x4 :: l) 4 = some d' ∧ k d') = k x4 := ix_at (i := 4) rfl k
@[simp ↓] theorem ix_5 (x0 x1 x2 x3 x4 x5 : D) (l : List D) (k : D → Prop) : (∃ d', atI (x0 :: x1 :: x2 :: x3 :: x4 :: x5 :: l) 5 = some d' ∧ k d') = k x5 := ix_at (i := 5) rfl k
theorem all_snoc {α : Type} {U : List α} {p : α} {P : α → Prop} : (∀ q ∈ U ++ [p], P q) ↔ (∀ q ∈ U, P q) ∧ P p := by
  simp [or_imp, forall_and]
end DL

/-! DG0: promises of defs that know that no repr is under way (guards); their calls; the law's end. -/
namespace DL
open PySem L2
open PyProof.Rows hiding St

/-- a def's promise by positional values, where no repr is under way -/
def FnG (P : Program) (w : World) (K : PySem.W.Frag) (mg : Str → Option Value) (base : Heap) (k : Nat) (f : Addr) (sp : Sp) : Prop :=
  ∀ (A : Around) (frs_ : List PySem.Env) (s : Shared) (H : Hp) (us : List Value) (vs : List V) (Q : VK) (E : XK), Room k A → A.guards = some [] → Env0 P w K mg base A frs_ s H → Vals vs us → sp vs H Q E →
    codeAny (model P w) A (.call (.ref f) ⟨us, []⟩) (CR (L2.CX P w) frs_ P w H s Q E) s
/-- a def as it stands behind the top; dV: its defaults -/
structure FunG (K : PySem.W.Frag) (x qual : Str) (st : Stmt) (f : Addr) (fd : FuncData) : Prop where
  ex : ∃ (oc : Value) (od : Option Addr) (dV kV doc pm : Value) (an : Option Addr) (cdv ct : Value) (osl : Array (Option Value)),
    fd = PySem.W.fnOf x qual (defArgs st) (defBody st) (defScope st) dV kV doc pm an cdv ct ∧ K.lookup f = some ⟨oc, od, .func fd, osl⟩ ∧ PySem.W.codeIn K cdv qual = true
  kp : PySem.W.keepIn K (.ref f) = true
theorem funG_mk {K : PySem.W.Frag} {x qual : Str} {st : Stmt} {f : Addr} {oc : Value} {od an : Option Addr} {osl : Array (Option Value)} {dV kV doc pm cdv ct : Value} (l : K.lookup f = some ⟨oc, od, .func (PySem.W.fnOf x qual (defArgs st) (defBody st) (defScope st) dV kV doc pm an cdv ct), osl⟩)
    (c : PySem.W.codeIn K cdv qual = true) (k : PySem.W.keepIn K (.ref f) = true) : FunG K x qual st f (PySem.W.fnOf x qual (defArgs st) (defBody st) (defScope st) dV kV doc pm an cdv ct) := ⟨⟨oc, od, dV, kV, doc, pm, an, cdv, ct, osl, rfl, l, c⟩, k⟩
theorem binds_none {K : PySem.W.Frag} {fd : FuncData} {ps : List Str} (h : ∀ us : List Value, us.length = ps.length → bindArgs fd ⟨us, []⟩ = pure (ps.zip us)) : Binds K fd ps [] := .all h
/-- every parameter is given, though defaults stand -/
theorem binds_full {K : PySem.W.Frag} {fd : FuncData} {ps : List Str} {T : Addr} {o : Obj} {its : Array Value} {n : Nat} (lT : K.lookup T = some o) (oT : o.data = .seq its n)
    (h : ∀ us : List Value, us.length = ps.length → ∃ k, bindArgs fd ⟨us, []⟩ = seqItems? (.ref T) >>= k ∧ k (some its) = pure (ps.zip us)) : Binds K fd ps [] := fun s us X hl => by
  rw [List.append_nil] at hl ⊢
  obtain ⟨k, e1, e2⟩ := h us hl
  refine BindsTo.of_looks fun M => ?_
  rw [e1]
  exact looks_items X lT oT (.of_pure e2)

section
variable {P : Program} {w : World} {K : PySem.W.Frag} {mg : Str → Option Value} {base : Heap} {j k : Nat} {f : Addr} {sp sp' : Sp}
theorem FnG.mono (F : FnG P w K mg base j f sp) (h : j ≤ k) : FnG P w K mg base k f sp := fun A o s H us vs Q E r => F A o s H us vs Q E (r.mono h)
theorem FnG.imp (F : FnG P w K mg base k f sp) (h : ∀ vs H Q E, sp' vs H Q E → sp vs H Q E) : FnG P w K mg base k f sp' := fun A o s H us vs Q E r g e v q => F A o s H us vs Q E r g e v (h _ _ _ _ q)
/-- a def by its body -/
theorem fnG_of {x qual : Str} {st : Stmt} {fd : FuncData} {N ps : List Str} (F : FunG K x qual st f fd) (S : FnScope N ps (defScope st)) (B : Binds K fd ps []) (len : ∀ vs H Q E, sp vs H Q E → vs.length = ps.length)
    (body : ∀ (cdv : Value) (A : Around) (o : List PySem.Env) (s : Shared) (H : Hp) (vs : List V) (Q : VK) (E : XK), Room k (A.deeper (envOfC qual (defScope st) s.heap.objs.size f cdv)) → A.guards = some [] → sp vs H Q E →
      ∃ t, PSs (cxOf (L2.CX P w) P w K mg base N qual (defScope st) f cdv A o s H E) (defBody st) t ∧ t { nx := fun _ H' => Q .non H', rt := Q } (L2.start N vs) H) : FnG P w K mg base (k + 1) f sp := by
  intro A o s H us vs Q E room hg ev rel hsp
  have nlen := len _ _ _ _ hsp
  have here : K.In s.heap := ev.mod.kin.keeps fun b u e => (ev.bs b u e).1
  have nolim : s.heap.NoLimit := ev.mod.nolimit.keeps fun b u e => (ev.bs b u e).1
  have bnd := B s us here (by rw [List.append_nil, ← rel.length]; exact nlen)
  rw [List.append_nil] at bnd
  obtain ⟨oc, od, dV, kV, doc, pm, an, cdv, ct, osl, rfl, lk, hcd⟩ := F.ex
  have kinds : ∀ y ∈ ps.zip us, (defScope st).names.lookup y.1 = some .local ∨ ((defScope st).names.lookup y.1 = some .cell ∧ ((cellsFrom (s.heap.objs.size + 1) (defScope st).names []).lookup y.1).isSome = true) := by
    rintro ⟨n, v⟩ hy
    refine (S.par n (List.of_mem_zip hy).1).imp id fun q => ⟨q, PySem.W.cellsFrom_some _ _ _ (.inl q)⟩
  refine codeAny_call_function room.depth (here _ _ lk) rfl S.co S.gen rfl (PySem.W.codeRec_of here hcd) (bnd _ _ _ _ ?_)
  refine wpAny_newFunctionEnv_cells S.kind kinds fun env same s1 laid => ?_
  subst same
  refine ⟨nolim.keeps laid.toInCall.keep, codeAny_func ?_⟩
  obtain ⟨t, pt, ht⟩ := body cdv A o s H vs Q E (room.deeper _) hg hsp
  refine wpAny_mono (pt.run [] s1 (L2.start N vs) H _ (inv_start S room.hd ev nlen rel laid) ht) (fun fl s2 q => ?_) fun _ _ q => q
  cases fl with
  | next =>
    obtain ⟨σ2, H2, J, q⟩ := q
    exact ⟨.non, H2, J.os, J.bare, J.base, J.hok, rfl, q⟩
  | ret u =>
    obtain ⟨v, σ2, H2, J, rv, q⟩ := q
    exact ⟨v, H2, J.os, J.bare, J.base, J.hok, rv, q⟩
  | brk =>
    obtain ⟨_, _, _, q⟩ := q
    exact (show False from q).elim
  | cont =>
    obtain ⟨_, _, _, q⟩ := q
    exact (show False from q).elim
end
section
variable {X : Cx} {k : Nat} {f : Addr} {sp : Sp} {E : St → XK} {x m : Str} {p pos apos : Pos} {e o : Expr} {es : List Expr} {ta : TE} {t : TA}
/-- the callee runs -/
theorem run_G {pins : List (Addr × Obj)} {σ : St} {H : Hp} {s : Shared} {Q : VK} {us : List Value} {vs : List V} (F : FnG X.prog X.w X.K X.mg X.base k f sp) (hr : Room k X.A) (hg : X.A.guards = some []) (hx : PassesAt (L2.CX X.prog X.w) X σ (E σ))
    (I : Inv X pins σ H s) (r : Vals vs us) (h : sp vs H Q (E σ)) : codeAny (model X.prog X.w) X.A (.call (.ref f) ⟨us, []⟩) (fun r s' => match r with | .ok (.ret v) => EP X pins σ Q v s' | .ok _ => False | .error e => X.xe e s') s := by
  refine codeAny_mono (F X.A X.stack s H us vs Q (E σ) hr hg I.env0 r h) fun res s2 q => ?_
  cases res with
  | error er => exact hx pins H s er s2 I q
  | ok fl =>
    cases fl with
    | ret u => exact I.after q
    | next => exact q.elim
    | brk => exact q.elim
    | cont => exact q.elim
theorem pe_callG (F : FnG X.prog X.w X.K X.mg X.base k f sp) (hr : Room k X.A) (hgu : X.A.guards = some []) (hg : Gl X x) (hm : X.mg x = some (.ref f)) (hk : PySem.W.keepIn X.K (.ref f) = true) (hx : ∀ σ, PassesAt (L2.CX X.prog X.w) X σ (E σ))
    (ha : PA X (e :: es) t) (hdb : (x == ("__debug__" : Str)) = false := by decide) (he : starEach (e :: es) X.env = (false, eval e X.env) :: starEach es X.env := by rfl) (hpl : (backTo pos (starEach es X.env)).any (·.1) = false := by rfl) :
    PE X (.Call (.Name x p) (e :: es) [] pos) (tCallS sp E t) := ⟨fun pins s σ H Q I h =>
  wpAny_Call_Name_kw (ld_glob I hg hm (PySem.W.callWith_K (h₀ := X.base) I.ok.mod.kin hk (thn (ha.run pos pins s σ H _ I h) fun us s1 ⟨vs, H1, I1, r, q⟩ => ⟨I1.kIn, wpAny_call (run_G F hr hgu (hx σ) I1 r q)⟩) he hpl) hdb)⟩
/-- o.m(e, ..) -/
def tMethG (C : Addr) (m : Str) (sp : Sp) (E : St → XK) (ta : TE) (t : TA) : TE := fun σ H Q => ta σ H fun x H1 => ∃ a dx fs, x = .ref a ∧ H1 a = some (.ins C dx fs) ∧ fs.lookup m = none ∧ t σ H1 fun vs H2 => sp (x :: vs) H2 Q (E σ)
theorem pe_methG {C : Addr} {pl : Sem Bool} (ho : PE X o ta) (c : Cls X.K C) (hm : Meth X.K C m f) (F : FnG X.prog X.w X.K X.mg X.base k f sp) (hr : Room k X.A) (hgu : X.A.guards = some []) (hx : ∀ σ, PassesAt (L2.CX X.prog X.w) X σ (E σ)) (ha : PA X (e :: es) t)
    (hst : starEach (e :: es) X.env = (false, eval e X.env) :: starEach es X.env := by rfl) (hpl : (backTo pos (starEach es X.env)).any (·.1) = false := by rfl)
    (ht : eval (.Call (.Attribute o m apos) (e :: es) [] pos) X.env = (do
      let ov ← eval o X.env
      standAt apos.atName
      let (f, first) ← holding [ov] (getMethod ov m pl)
      callWith pos f first (backTo pos (starEach (e :: es) X.env)) (backToKw pos (keywordEach [] X.env))) := by rfl) :
    PE X (.Call (.Attribute o m apos) (e :: es) [] pos) (tMethG C m sp E ta t) := ⟨fun pins s σ H Q I h => by
  refine PySem.W.methodCall_KW (pl := pl) (thn (ho.run pins s σ H _ I h) fun ov s1 ⟨x, H1, I1, rx, a, dx, fs, ex, ea, l, q⟩ => ?_) ht
  subst ex
  have er : ov = Value.ref a := rx
  subst er
  exact getmeth_ok I1 ea c hm l (PySem.W.callWith_K (first := [.ref a]) (h₀ := X.base) I.ok.mod.kin hm.kp (thn (ha.run pos pins s1 σ H1 _ I1 q) fun us s2 ⟨vs, H2, I2, r, q2⟩ =>
    ⟨I2.kIn, wpAny_call (run_G (us := .ref a :: us) (vs := .ref a :: vs) F hr hgu (hx σ) I2 (.cons rfl r) q2)⟩) hst hpl)⟩
/-- o.m() -/
theorem pe_methG0 {C : Addr} {pl : Sem Bool} (ho : PE X o ta) (c : Cls X.K C) (hm : Meth X.K C m f) (F : FnG X.prog X.w X.K X.mg X.base k f sp) (hr : Room k X.A) (hgu : X.A.guards = some []) (hx : ∀ σ, PassesAt (L2.CX X.prog X.w) X σ (E σ))
    (ht : eval (.Call (.Attribute o m apos) [] [] pos) X.env = (do
      let ov ← eval o X.env
      standAt apos.atName
      let (f, first) ← holding [ov] (getMethod ov m pl)
      callWith pos f first (backTo pos (starEach [] X.env)) (backToKw pos (keywordEach [] X.env))) := by rfl) :
    PE X (.Call (.Attribute o m apos) [] [] pos) (tMethG C m sp E ta tNil) := ⟨fun pins s σ H Q I h => by
  refine PySem.W.methodCall_KW (pl := pl) (thn (ho.run pins s σ H _ I h) fun ov s1 ⟨x, H1, I1, rx, a, dx, fs, ex, ea, l, q⟩ => ?_) ht
  subst ex
  have er : ov = Value.ref a := rx
  subst er
  exact getmeth_ok I1 ea c hm l (PySem.W.callWith_K0 (first := [.ref a]) I1.kIn hm.kp (wpAny_call (run_G (us := [.ref a]) (vs := [.ref a]) F hr hgu (hx σ) I1 (.cons rfl .nil) q)))⟩
end
/-! ### properties, making -/
section
variable {X : Cx} {k : Nat} {f : Addr} {sp : Sp} {E : St → XK} {x m : Str} {p pos apos : Pos} {e o : Expr} {es : List Expr} {ta : TE} {t : TA} {C : Addr}
def tMakeG (C : Addr) (sp : Sp) (E : St → XK) (t : TA) : TE := fun σ H Q => t σ H fun vs H1 => ∀ x dx, H1 x = none → H1 dx = none → dx ≠ x → sp (.ref x :: vs) (upd (upd H1 dx (.own x)) x (.ins C dx [])) (fun v H2 => v = .non ∧ Q (.ref x) H2) (E σ)
theorem run_makeG {pins : List (Addr × Obj)} {σ : St} {H : Hp} {s : Shared} {Q : VK} {us : List Value} {vs : List V} (M : Mk X.K C f) (F : FnG X.prog X.w X.K X.mg X.base k f sp) (hr : Room (k + 1) X.A) (hgu : X.A.guards = some []) (hx : ∀ σ, PassesAt (L2.CX X.prog X.w) X σ (E σ)) (I : Inv X pins σ H s) (r : Vals vs us)
    (h : ∀ x dx, H x = none → H dx = none → dx ≠ x → sp (.ref x :: vs) (upd (upd H dx (.own x)) x (.ins C dx [])) (fun v H2 => v = .non ∧ Q (.ref x) H2) (E σ)) :
    wpAny (model X.prog X.w) X.A (call (.ref C) us) (EP X pins σ Q) X.xe s := by
  let n := s.heap.objs.size
  have I2 := Inv.made (C := C) I
  have hq := h (n + 1) n (I.hok.fresh (Nat.le_succ _)) (I.hok.fresh (Nat.le_refl _)) (Nat.ne_of_lt (Nat.lt_succ_self _))
  have r2 : Vals (.ref (n + 1) :: vs) (Value.ref (n + 1) :: us) := .cons rfl r
  refine wpAny_call (make_map (f := f) I.kIn M.makes M.init (beq_iff_eq.mp M.fn) (codeAny_mono (F _ X.stack _ _ (Value.ref (n + 1) :: us) _ _ (E σ) (hr.make C us []) ?_ (I2.env0.make C us []) r2 hq) fun res s2 q => ?_))
  · show pushGuards (Code.builtin "type.__call__" ⟨.ref C :: us, []⟩).guards X.A.guards = some []
    rw [hgu]
    rfl
  cases res with
  | error er => exact hx σ pins _ _ er s2 I2 q
  | ok fl =>
    cases fl with
    | ret u =>
      obtain ⟨v, H3, I3, rv, ev, q3⟩ := I2.after q
      subst ev
      exact ⟨rv, ⟨.ref (n + 1), H3, I3, rfl, q3⟩⟩
    | next => exact q.elim
    | brk => exact q.elim
    | cont => exact q.elim
theorem pe_makeG (M : Mk X.K C f) (F : FnG X.prog X.w X.K X.mg X.base k f sp) (hr : Room (k + 1) X.A) (hgu : X.A.guards = some []) (hg : Gl X x) (hm : X.mg x = some (.ref C)) (hx : ∀ σ, PassesAt (L2.CX X.prog X.w) X σ (E σ)) (ha : PA X (e :: es) t)
    (hdb : (x == ("__debug__" : Str)) = false := by decide) (he : starEach (e :: es) X.env = (false, eval e X.env) :: starEach es X.env := by rfl) (hpl : (backTo pos (starEach es X.env)).any (·.1) = false := by rfl) :
    PE X (.Call (.Name x p) (e :: es) [] pos) (tMakeG C sp E t) := ⟨fun pins s σ H Q I h =>
  wpAny_Call_Name_kw (ld_glob I hg hm (PySem.W.callWith_K (h₀ := X.base) I.ok.mod.kin M.kp (thn (ha.run pos pins s σ H _ I h) fun us s1 ⟨vs, H1, I1, r, q⟩ => ⟨I1.kIn, run_makeG M F hr hgu hx I1 r q⟩) he hpl) hdb)⟩
theorem pe_makeG0 (M : Mk X.K C f) (F : FnG X.prog X.w X.K X.mg X.base k f sp) (hr : Room (k + 1) X.A) (hgu : X.A.guards = some []) (hg : Gl X x) (hm : X.mg x = some (.ref C)) (hx : ∀ σ, PassesAt (L2.CX X.prog X.w) X σ (E σ))
    (hdb : (x == ("__debug__" : Str)) = false := by decide) : PE X (.Call (.Name x p) [] [] pos) (tMakeG C sp E tNil) := ⟨fun pins s σ H Q I h =>
  wpAny_Call_Name_kw (ld_glob I hg hm (PySem.W.callWith_K0 I.kIn M.kp (run_makeG M F hr hgu hx I .nil h)) hdb)⟩
end
section
variable {X : Cx} {k : Nat} {C p g a dx : Addr} {fs : List (Str × V)} {f : Str} {sp : Sp} {e : Expr} {pos : Pos} {ta : TE}
/-- e.f, f a property: nothing is raised in it -/
def tPropG (C : Addr) (sp : Sp) (ta : TE) : TE := fun σ H Q => ta σ H fun x H1 => ∃ a dx fs, x = .ref a ∧ H1 a = some (.ins C dx fs) ∧ sp [.ref a] H1 Q fun _ _ _ => False
theorem propG_ok {pins : List (Addr × Obj)} {σ : St} {H : Hp} {s : Shared} {Q : VK} {b : Bool} {E' : Value → Shared → Prop} (I : Inv X pins σ H s) (ea : H a = some (.ins C dx fs)) (c : Cls X.K C) (hp : PropOf X.K C f p g)
    (F : FnG X.prog X.w X.K X.mg X.base k g sp) (hr : Room (k + 1) X.A) (hgu : X.A.guards = some []) (h : sp [.ref a] H Q fun _ _ _ => False) : wpAny (model X.prog X.w) X.A (getAttr (.ref a) f b) (EP X pins σ Q) E' s := by
  obtain ⟨mA, O, _, _, _, _⟩ := ins_get I.hok ea
  obtain ⟨od, J, _⟩ := O.look
  obtain ⟨rest, rc⟩ := hp.rec_
  have known : (PySem.W.clsIn X.K C).isSome = true := by
    obtain ⟨cd, z, _⟩ := PySem.W.any_some c.hd
    rw [z]; rfl
  have I1 := I.tok (s.toks + 1)
  have gp := PySem.W.plainGet_of (c.get f)
  refine PySem.W.get_bind I.kIn J gp.1 (PySem.W.findObj_data known hp.at_ hp.get hp.tak) gp.2 (wpAny_call (PySem.W.prop_get (s := { s with toks := s.toks + 1 }) I.kIn rc (codeAny_mono (F X.A.in1 X.stack { s with toks := s.toks + 1 } H [.ref a] [.ref a] Q _ hr.in1 hgu I1.env0.in1 (.cons rfl .nil) h) fun res s2 q => ?_)))
  cases res with
  | error er => exact (cx_no q).elim
  | ok fl =>
    cases fl with
    | ret u =>
      obtain ⟨v, H3, I3, rv, q3⟩ := I1.after q
      show wpAny _ _ (handedOut u) _ _ _
      rw [PySem.W.handedOut_of (handed_of rv)]
      exact wpAny_pure ⟨v, H3, I3, rv, q3⟩
    | next => exact q.elim
    | brk => exact q.elim
    | cont => exact q.elim
theorem pe_propG (he : PE X e ta) (c : Cls X.K C) (hp : PropOf X.K C f p g) (F : FnG X.prog X.w X.K X.mg X.base k g sp) (hr : Room (k + 1) X.A) (hgu : X.A.guards = some [])
    (hab : attributeBase e f X.env (eval e X.env) = eval e X.env) : PE X (.Attribute e f pos) (tPropG C sp ta) := ⟨fun pins s σ H Q I h =>
  attr_of hab (thn (he.run pins s σ H _ I h) fun u s1 ⟨x, H1, I1, rx, a, dx, fs, ex, ea, q⟩ => by
    subst ex
    have er : u = Value.ref a := rx
    subst er
    exact propG_ok I1 ea c hp F hr hgu q)⟩
end

/-! ### the law's end -/
theorem law_callG {P : Program} {w : World} {K : PySem.W.Frag} {mg mb : Str → Option Value} {k : Nat} {fa a : Addr} {sp : Sp} {z : Shared} {vs : List Value} {ns : List Int}
    (kin : K.In z.heap) (glob : z.heap.Ns mainGlobals mg) (bns : z.heap.Ns builtinsNs mb) (boot : ∀ x : Str, x ≠ "__name__" → mb x = bootBuiltins x) (lim : z.heap.NoLimit) (gens : z.gens = #[])
    (at_ : z.heap.get? a = some { cls := .type "list", data := .seq vs.toArray }) (num : IntsAre vs ns) (short : ns.length ≤ sizeLine) (room : Room k callerA)
    (F : ∀ base : Heap, K.In base → base.Ns mainGlobals mg → FnG P w K mg base k fa sp)
    (hsp : ∀ H : Hp, Only H → SqL K H a (ns.map V.int) → sp [.ref a] H (fun v _ => v = .bl true) fun _ _ _ => False) :
    codeAny (model P w) callerA (.call (.ref fa) ⟨[.ref a], []⟩) (fun r s2 => r = .ok (.ret (.bool true)) ∧ OldK z.heap s2.heap ∧ s2.os = z.os ∧ AllBare s2.gens) z := by
  have rel := vals_ints num
  suffices main : ∀ H : Hp, Only H → SqL K H a (ns.map V.int) → HOk P w H z.heap → (∀ b, H b ≠ none → b = a) → (H a ≠ none → K.lookup a = none) →
      codeAny (model P w) callerA (.call (.ref fa) ⟨[.ref a], []⟩) (fun r s2 => r = .ok (.ret (.bool true)) ∧ OldK z.heap s2.heap ∧ s2.os = z.os ∧ AllBare s2.gens) z by
    cases look : K.lookup a with
    | some o =>
      have eo := kin a o look
      rw [at_] at eo; cases eo
      exact main (fun _ => none) (fun _ => .inl rfl) (.inr ⟨_, vs.toArray, _, look, rfl, rfl, rfl, by rw [List.size_toArray, num.length]; exact short, by simpa using rel⟩) (fun _ _ q => nomatch q) (fun _ q => absurd rfl q) fun q => absurd rfl q
    | none =>
      let H0 : Hp := fun b => if b = a then some (.frz { cls := .type "list", data := .seq vs.toArray } (.lst (ns.map V.int))) else none
      have ha : H0 a = some (.frz { cls := .type "list", data := .seq vs.toArray } (.lst (ns.map V.int))) := if_pos rfl
      have hn : ∀ {b}, b ≠ a → H0 b = none := fun {b} q => if_neg q
      have only : ∀ b, H0 b ≠ none → b = a := fun b q => Classical.byContradiction fun n => q (hn n)
      refine main H0 (fun b => ?_) (.inl (.inr ⟨_, ha⟩)) (fun b u q => ?_) only fun _ => look
      · by_cases e : b = a
        · subst e; exact .inr ⟨_, _, ha⟩
        · exact .inl (hn e)
      · have e := only b (by rw [q]; simp)
        subst e
        rw [ha] at q; cases q
        exact ⟨at_, by rw [List.length_map]; exact short, vs, _, rel, at_⟩
  intro H only sq ok own nk
  have free : ∀ {b : Addr} {o : Obj}, z.heap.get? b = some o → (∀ n, o.data ≠ .seq vs.toArray n) → H b = none := fun {b o} e d => by
    cases q : H b with
    | none => rfl
    | some u =>
      have e' := own b (by rw [q]; simp)
      subst e'
      rw [at_] at e; cases e
      exact absurd rfl (d _)
  have dictNs : ∀ {b : Addr} {m : Str → Option Value}, z.heap.Ns b m → (hidT z.heap H).Ns b m := fun {b m} ⟨o, es, ep, e, d, r⟩ => ⟨o, es, ep, hidT_get e (free e fun n q => by rw [d] at q; cases q), d, r⟩
  have kb : K.In (hidT z.heap H) := fun b o e => hidT_get (kin b o e) (by
    cases q : H b with
    | none => rfl
    | some u =>
      have e' := own b (by rw [q]; simp)
      subst e'
      have nl := nk (by rw [q]; simp)
      rw [nl] at e; cases e)
  obtain ⟨mc, l1, l2⟩ := lim
  have env : Env0 P w K mg (hidT z.heap H) callerA [] z H := ⟨rfl, ⟨kb, dictNs glob, ⟨mb, dictNs bns, boot⟩, mc, dictNs l1, l2⟩, fun _ _ e => of_hidT e, Nat.le_of_eq (hidT_size _ _), trivial, fun b q => absurd (show b ∈ ([] : List Addr) from q) List.not_mem_nil, ok, .of_eq gens⟩
  refine codeAny_mono (F _ kb (dictNs glob) callerA [] z H [.ref a] [.ref a] _ _ room rfl env (.cons rfl .nil) (hsp H only sq)) fun res s2 q => ?_
  cases res with
  | error er => exact (cx_no q).elim
  | ok fl =>
    cases fl with
    | next => exact q.elim
    | brk => exact q.elim
    | cont => exact q.elim
    | ret u =>
      obtain ⟨v, H2, os, bare, un, ok2, rv, ev⟩ := q
      have ev : v = .bl true := ev
      subst ev
      have eu : u = Value.bool true := rv
      subst eu
      refine ⟨rfl, OldK.of_keep fun b o e => ?_, os, bare⟩
      cases q : H b with
      | none => exact un.keep b o e q (fun n => absurd (show b ∈ ([] : List Addr) from n) List.not_mem_nil) (fun n => absurd n List.not_mem_nil)
      | some y =>
        rcases only b with r | ⟨ob, xs, r⟩
        · rw [q] at r; cases r
        · obtain ⟨e1, _⟩ := ok b _ r
          obtain ⟨e2, _⟩ := ok2 b _ (un.frzs b ob _ r)
          rw [e] at e1; cases e1
          exact e2
theorem walk_ofG {l : PySem.W.OpenLaw} {n k : Nat} {q : Program} {loose : List Str} {XP : (Str → Option Value) → Heap → Prop} {YP : World → Heap → Prop} {d : DefRec} {K : Params → PySem.W.Frag} {sp : World → Sp}
    (hn : l.most = some n) (wide : n ≤ sizeLine) (nodf : d.params.defaults = []) (room : Room k callerA) (hY : ∀ (w : World) (h : Heap), YP w h → (K w.params).In h)
    (F : ∀ (w : World) (mg : Str → Option Value) (fa : Addr) (h : Heap), (K w.params).In h → h.Ns mainGlobals mg → mg d.name = some (.ref fa) → ∀ base : Heap, (K w.params).In base → base.Ns mainGlobals mg → FnG l.prog w (K w.params) mg base k fa (sp w))
    (hsp : ∀ (w : World) (H : Hp) (a : Addr) (ns : List Int), ns.length ≤ n → Only H → SqL (K w.params) H a (ns.map V.int) → sp w [.ref a] H (fun v _ => v = .bl true) fun _ _ _ => False) :
    PySem.W.WalkO q loose XP YP l.row.toRowW d [] (fun f vs => PySem.call f vs) :=
  Att.attach_call hn nodf fun w s₀ s₁ mg mb fa o pm cd doc a vs ns G Y ho hd hcd hmg hobj hints hlen hg =>
    law_callG (hY w _ Y) G.T.g G.T.b G.T.builtins G.T.nolimit hg hobj hints (Nat.le_trans hlen wide) room (F w mg fa _ (hY w _ Y) G.T.g hmg) fun H hO hS => hsp w H a ns hlen hO hS
end DL

/-! DG1: defs and calls over data, with guards; repr; instances. -/
namespace DL
open PySem L2
open PyProof.Rows hiding St

section
variable {X : Cx} {Wx : WX} {P I J J1 : List Nat} {e a b c : Expr} {es : List Expr} {F : FE} {A : Env → (Env → Env → Prop) → XP → Prop} {sl : List (Option Nat)} {pos p : Pos} {k n : Nat} {f : Addr} {G : DFn} {x : Str} {io : List Nat} {tA : TA}
theorem de_callG (Fn : FnG X.prog X.w X.K X.mg X.base k f (spD X.K n io G)) (hr : Room k X.A) (hgu : X.A.guards = some []) (hm : X.mg x = some (.ref f)) (hk : PySem.W.keepIn X.K (.ref f) = true) (tk : Takes X Wx)
    (ha : DO X Wx P I (e :: es) tA A sl J) (hio : ioOf 0 sl = io := by decide) (hsl : ∀ j ∈ slots sl, j ∈ P ∨ j ∈ J := by decide) (nd : (slots sl).Nodup := by decide) (hPJ : ∀ j ∈ J, j ∉ P := by decide) (hn : sl.length = n := by decide)
    (hg : Gl X x := by rfl) (hdb : (x == ("__debug__" : Str)) = false := by decide) (he : starEach (e :: es) X.env = (false, eval e X.env) :: starEach es X.env := by rfl) (hpl : (backTo pos (starEach es X.env)).any (·.1) = false := by rfl) :
    DE X Wx P I (.Call (.Name x p) (e :: es) [] pos) (tCallS (spD X.K n io G) (WE Wx) tA) (fCall G sl A) J := by
  obtain ⟨pa, ka⟩ := ha
  exact de_of (pe_callG Fn hr hgu hg hm hk (fun σ => passAt tk σ) pa hdb he hpl) (call_core tk hio hsl nd hPJ hn ka)
theorem dn_callG (Fn : FnG X.prog X.w X.K X.mg X.base k f (spN X.K n io G)) (hr : Room k X.A) (hgu : X.A.guards = some []) (hm : X.mg x = some (.ref f)) (hk : PySem.W.keepIn X.K (.ref f) = true) (tk : Takes X Wx)
    (ha : DO X Wx P I (e :: es) tA A sl J) (hio : ioOf 0 sl = io := by decide) (hsl : ∀ j ∈ slots sl, j ∈ P ∨ j ∈ J := by decide) (nd : (slots sl).Nodup := by decide) (hPJ : ∀ j ∈ J, j ∉ P := by decide) (hn : sl.length = n := by decide)
    (hg : Gl X x := by rfl) (hdb : (x == ("__debug__" : Str)) = false := by decide) (he : starEach (e :: es) X.env = (false, eval e X.env) :: starEach es X.env := by rfl) (hpl : (backTo pos (starEach es X.env)).any (·.1) = false := by rfl) :
    DNw X Wx P I (.Call (.Name x p) (e :: es) [] pos) (tCallS (spN X.K n io G) (WE Wx) tA) (fCall G sl A) J := by
  obtain ⟨pa, ka⟩ := ha
  exact ⟨pe_callG Fn hr hgu hg hm hk (fun σ => passAt tk σ) pa hdb he hpl, calln_core tk hio hsl nd hPJ hn ka⟩
end

section
variable {P : Program} {w : World} {K : PySem.W.Frag} {mg : Str → Option Value} {base : Heap}
theorem okG_of {x qual : Str} {st : Stmt} {f : Addr} {fd : FuncData} {N ps : List Str} {k n : Nat} {io : List Nat} {J : List Nat} {G : DFn} {Fd : FS} (F : FunG K x qual st f fd) (B : Binds K fd ps []) (S : FnScope N ps (defScope st)) (hn : ps.length = n)
    (hb : ∀ (cdv : Value) (A : Around) (outer : List PySem.Env) (s : Shared) (H : Hp) (E : XK), Room k (A.deeper (envOfC qual (defScope st) s.heap.objs.size f cdv)) → A.guards = some [] →
      DSs (cxOf (L2.CX P w) P w K mg base N qual (defScope st) f cdv A outer s H E) (WofE E) io [] [] (defBody st) Fd J)
    (hg : ∀ (ρ : DL.Env) (post : Post) (xp : XP), ρ.length = n → G ρ post xp → Fd (ρ ++ List.replicate (N.length - n) none) (endS io n post xp)) : FnG P w K mg base (k + 1) f (spD K n io G) := by
  refine fnG_of F S B (fun vs H Q E h => h.1.trans hn.symm) fun cdv A outer s H vs Q E hr gu h => ?_
  obtain ⟨hl, ρ, Hb, post, xp, E0, g, q1, q2⟩ := h
  obtain ⟨t, pt, kt⟩ := (hb cdv A outer s H E hr gu).run
  refine ⟨t, pt, ?_⟩
  have hρ : ρ.length = n := by rw [← E0.len, List.length_map, hl]
  have e1 : L2.start N vs = vs.map some ++ List.replicate (N.length - n) none := by unfold L2.start; rw [hl]
  rw [e1]
  refine kt ⟨Hb, H, lentAt io vs ρ H, rootAt io vs⟩ _ _ Hb H _ _ E0.entry (hg ρ post xp hρ g) ⟨fun ρ' σ' Hb' H' a E' s' => ?_, fun d ρ' σ' v Hb' H' a E' is => ?_, fun _ _ _ _ a => a.elim, fun _ _ _ _ a => a.elim, fun c ρ' cls dx σ' Hb' H' a E' xi => ?_⟩
  · exact q1 _ _ _ _ _ a (E'.masked hl) .non
  · exact q1 _ _ _ _ _ a (E'.masked hl) is
  · exact q2 _ _ _ _ _ _ a (E'.masked hl) xi
theorem okNG_of {x qual : Str} {st : Stmt} {f : Addr} {fd : FuncData} {N ps : List Str} {k n : Nat} {e : Expr} {pos : Pos} {G : DFn} {Fd : FE} (F : FunG K x qual st f fd) (B : Binds K fd ps []) (S : FnScope N ps (defScope st)) (hn : ps.length = n)
    (hbody : defBody st = [.Return (some e) pos])
    (hb : ∀ (cdv : Value) (A : Around) (outer : List PySem.Env) (s : Shared) (H : Hp) (E : XK), Room k (A.deeper (envOfC qual (defScope st) s.heap.objs.size f cdv)) → A.guards = some [] →
      ∃ t, DNw (cxOf (L2.CX P w) P w K mg base N qual (defScope st) f cdv A outer s H E) (WofE E) [] [] e t Fd [])
    (hg : ∀ (ρ : DL.Env) (post : Post) (xp : XP), ρ.length = n → G ρ post xp → Fd (ρ ++ List.replicate (N.length - n) none) (fun d ρ' => post d (maskF [] 0 n ρ')) fun c ρ' => xp c (maskF [] 0 n ρ')) : FnG P w K mg base (k + 1) f (spN K n [] G) := by
  refine fnG_of F S B (fun vs H Q E h => h.1.trans hn.symm) fun cdv A outer s H vs Q E hr gu h => ?_
  obtain ⟨hl, ρ, Hb, post, xp, E0, g, q1, q2⟩ := h
  obtain ⟨te, ht⟩ := hb cdv A outer s H E hr gu
  rw [hbody]
  refine ⟨_, pss_one (ps_ret ht.pe), ?_⟩
  have hρ : ρ.length = n := by rw [← E0.len, List.length_map, hl]
  have e1 : L2.start N vs = vs.map some ++ List.replicate (N.length - n) none := by unfold L2.start; rw [hl]
  rw [e1]
  refine ht.ev ⟨Hb, H, lentAt [] vs ρ H, rootAt [] vs⟩ _ _ Hb H _ _ _ E0.entry (hg ρ post xp hρ g) (fun c ρ' cls dx Hb' H' a E' xi => q2 _ _ _ _ _ _ a (E'.masked hl) xi) fun d ρ' p Hb' H' a E' s' nw => ?_
  exact q1 _ _ _ _ _ a (E'.masked hl) ⟨nw.cell, nw.nbF, fun i di q a hi => by rcases hi with hi | hi <;> cases hi⟩
theorem okG_law {k : Nat} {f : Addr} {G : DFn} (F : FnG P w K mg base k f (spD K 1 [] G))
    (h : ∀ ns : List Int, ns.length ≤ 63 → G [some (.slst (ns.map D.int))] (fun d _ => d = .bl true) fun _ _ => False) : FnG P w K mg base k f (spLaw K) :=
  F.imp fun vs H Q E ⟨a, ns, e, hs, hl, q⟩ => by
    subst e
    refine ⟨rfl, [some (.slst (ns.map D.int))], H, _, _, ⟨Sub.refl _, Stp.refl _ _ _ _, rfl, fun i d g _ _ => ?_, fun i d hi _ => ?_, fun i j p q di dj a hi => ?_⟩, h ns hl, fun d ρ' v Hb' H' e _ is => ?_, fun _ _ _ _ _ _ z => z.elim⟩
    · match i, g with
      | 0, g =>
        cases g
        exact ⟨_, rfl, .slst hs (isL_ints ns)⟩
      | i + 1, g => simp [get] at g
    · rcases hi with hi | hi <;> cases hi
    · rcases hi with hi | hi <;> cases hi
    · subst e
      rw [is_bl is]
      exact q _
end

/-! ### repr of plain data -/
section
variable {X : Cx} {K : PySem.W.Frag}
theorem call_reprD (hgu : X.A.guards = some []) (hu : X.A.units + 65 < cLine) : CallR X (.builtin "repr") (fun xs H Q => ∃ v d, xs = [v] ∧ Dp X.K H v d ∧ d.showable = true ∧ d.hasDict = false ∧ d.depth ≤ 60 ∧ d.shown.length ≤ sizeLine ∧ Q (.str d.shown) H) := by
  intro pins s σ H xs us Q I r h
  obtain ⟨v, d, rfl, hd, hs, nd, dp, hz, q⟩ := h
  obtain ⟨u, rfl, e⟩ := vals1 r
  have fin : ∀ (h' : Heap) (u : Tok) (tk : Nat), (∀ b o, s.heap.get? b = some o → h'.get? b = some o) → EP X pins σ Q (.str d.shown u) { s with heap := h', toks := tk } := fun h' u tk hk => ⟨.str d.shown, H, I.kept (t' := tk) hk, ⟨u, rfl⟩, q⟩
  obtain ⟨as, rd⟩ := Dp.reads I d v u hd e
  cases hd with
  | non =>
    cases (show u = Value.none from e)
    exact PySem.P.repr_of_none ⟨.str _, H, I.tok _, ⟨_, rfl⟩, q⟩
  | bl b =>
    cases (show u = Value.bool b from e)
    exact PySem.P.repr_of_bool ⟨.str _, H, I.tok _, ⟨_, rfl⟩, q⟩
  | int i =>
    obtain ⟨t, rfl⟩ := e
    exact PySem.P.repr_of_int (by simpa [PyData.showable] using hs) ⟨.str _, H, I.tok _, ⟨_, rfl⟩, q⟩
  | str x =>
    obtain ⟨t, rfl⟩ := e
    exact PySem.P.repr_of_str ⟨.str _, H, I.tok _, ⟨_, rfl⟩, q⟩ hz
  | lst hl l =>
    cases (show u = Value.ref _ from e)
    exact repr_of_reads' rd hs (PyData.noDict_hsm nd) hgu (by omega) (fun _ _ e => e) (fun h' u tk hk => fin h' u tk hk) hz
  | tup hl l =>
    cases (show u = Value.ref _ from e)
    exact repr_of_reads' rd hs (PyData.noDict_hsm nd) hgu (by omega) (fun _ _ e => e) (fun h' u tk hk => fin h' u tk hk) hz
def gRepr : GN
  | [d], k => ∃ z, pd d = some z ∧ z.showable = true ∧ z.hasDict = false ∧ z.depth ≤ 60 ∧ z.shown.length ≤ 1000000 ∧ k (.str z.shown)
  | _, _ => False
theorem rv_repr : RVN K (fun xs H Q => ∃ v d, xs = [v] ∧ Dp K H v d ∧ d.showable = true ∧ d.hasDict = false ∧ d.depth ≤ 60 ∧ d.shown.length ≤ sizeLine ∧ Q (.str d.shown) H) gRepr := fun Hb H xs ds k Q s l g q => by
  unfold gRepr at g
  split at g
  · obtain ⟨z, e, h1, h2, h3, h4, g⟩ := g
    obtain ⟨v, rfl, i⟩ := o_one l
    exact ⟨v, z, rfl, (i.is s).dp e, h1, h2, h3, Nat.le_trans h4 (by decide), q _ _ _ _ g .refl (.str _)⟩
  · exact g.elim
end
end DL

/-! DG2: instances over data. -/
namespace DL
open PySem L2
open PyProof.Rows hiding St

/-! ### fields -/
section
variable {K : PySem.W.Frag} {Hb H : Hp}
theorem o_obj (s : Sub Hb H) {v : V} {n : Str} {fs : List (Str × D)} (h : IsO K Hb H v (.obj n fs)) : ∃ (a C dx : Addr) (vs : List (Str × V)), v = .ref a ∧ IsCl K n C ∧ H a = some (.ins C dx vs) ∧ vs.map (·.1) = fs.map (·.1) ∧ IsL K Hb (vs.map (·.2)) (fs.map (·.2)) := by
  rcases h with h | ⟨p, rfl, C, dx, vs, c, h, e, l⟩
  · cases h with
    | obj c h e l => exact ⟨_, _, _, _, rfl, c, s.at h, e, l⟩
  · exact ⟨p, C, dx, vs, rfl, c, h, e, l⟩
theorem look_is {f : Str} {d : D} : ∀ {vs : List (Str × V)} {fs : List (Str × D)}, vs.map (·.1) = fs.map (·.1) → IsL K H (vs.map (·.2)) (fs.map (·.2)) → fs.lookup f = some d → ∃ v, vs.lookup f = some v ∧ Is K H v d
  | [], [], _, _, h => by cases h
  | v :: vs, x :: fs, e, l, h => by
    simp only [List.map_cons, List.cons.injEq] at e
    rw [List.map_cons, List.map_cons] at l
    cases l with
    | cons a l =>
      rw [show x = (x.1, x.2) from rfl, List.lookup_cons] at h
      rw [show v = (v.1, v.2) from rfl, List.lookup_cons, e.1]
      split at h
      · rename_i z
        cases h
        exact ⟨_, rfl, a⟩
      · rename_i z
        obtain ⟨w, hw, iw⟩ := look_is e.2 l h
        exact ⟨w, hw, iw⟩
  | [], _ :: _, e, _, _ => by simp at e
  | _ :: _, [], e, _, _ => by simp at e
theorem look_none {f : Str} : ∀ {vs : List (Str × V)} {fs : List (Str × D)}, vs.map (·.1) = fs.map (·.1) → fs.lookup f = none → vs.lookup f = none
  | [], [], _, _ => rfl
  | v :: vs, x :: fs, e, h => by
    simp only [List.map_cons, List.cons.injEq] at e
    rw [show x = (x.1, x.2) from rfl, List.lookup_cons] at h
    rw [show v = (v.1, v.2) from rfl, List.lookup_cons, e.1]
    split at h
    · cases h
    · rename_i z
      exact look_none e.2 h
  | [], _ :: _, e, _ => by simp at e
  | _ :: _, [], e, _ => by simp at e
@[simp] def putFd (f : Str) (d : D) : List (Str × D) → List (Str × D)
  | [] => [(f, d)]
  | (g, x) :: r => if g = f then (g, d) :: r else (g, x) :: putFd f d r
theorem putF_is {f : Str} {v : V} {d : D} (i : Is K H v d) : ∀ {vs : List (Str × V)} {fs : List (Str × D)}, vs.map (·.1) = fs.map (·.1) → IsL K H (vs.map (·.2)) (fs.map (·.2)) → (putF f v vs).map (·.1) = (putFd f d fs).map (·.1) ∧ IsL K H ((putF f v vs).map (·.2)) ((putFd f d fs).map (·.2))
  | [], [], _, _ => ⟨rfl, .cons i .nil⟩
  | (g, x) :: vs, (g', y) :: fs, e, l => by
    simp only [List.map_cons, List.cons.injEq] at e
    rw [List.map_cons, List.map_cons] at l
    obtain ⟨e1, e2⟩ := e
    subst e1
    cases l with
    | cons a l =>
      obtain ⟨r1, r2⟩ := putF_is i e2 l
      unfold putF putFd
      by_cases h : g = f
      · rw [if_pos h, if_pos h]
        exact ⟨by simp [e2], .cons i l⟩
      · rw [if_neg h, if_neg h]
        exact ⟨by simp [r1], .cons a r2⟩
  | [], _ :: _, e, _ => by simp at e
  | _ :: _, [], e, _ => by simp at e
end
def gFld (n f : Str) : G1
  | .obj m fs, k => m = n ∧ ∃ x, fs.lookup f = some x ∧ k x
  | _, _ => False
@[simp ↓] theorem gFld_obj (n f m : Str) (fs : List (Str × D)) (k) : gFld n f (.obj m fs) k = (m = n ∧ ∃ x, fs.lookup f = some x ∧ k x) := (rfl)
section
variable {X : Cx} {Wx : WX} {P L I J J1 J2 : List Nat} {e a b c o value : Expr} {es : List Expr} {F Fo : FE} {A : FA} {B : Env → (Env → Env → Prop) → XP → Prop} {sl : List (Option Nat)} {pos pos' p apos : Pos} {k : Nat} {f : Addr} {G : DFn} {x m : Str} {io : List Nat} {ta tv : TE} {tA : TA} {C : Addr}
theorem de_fld (n : Str) (hc : IsCl X.K n C) (cl : Cls X.K C) (na : NoAttr X.K C m) (ha : DEo X Wx P I e ta F J) (hb : attributeBase e m X.env (eval e X.env) = eval e X.env := by rfl) : DE X Wx P I (.Attribute e m pos) (tFld X.K ta m) (fUn (gFld n m) F) J := by
  obtain ⟨pa, ka⟩ := ha
  refine de_of (pe_fld pa hb) fun W ρ σ Hb H Q post xp E f x q => ka W ρ σ Hb H _ _ xp E f x fun d ρ1 v Hb1 H1 f1 E1 s1 i1 => ?_
  cases d <;> first | exact f1.elim | skip
  obtain ⟨e0, d, hd, f1⟩ := f1
  subst e0
  obtain ⟨a, C', dx, vs, rfl, hc', hh, e1, l1⟩ := o_obj E1.sub i1
  obtain rfl := hc.eq hc'
  obtain ⟨w, hw, iw⟩ := look_is e1 l1 hd
  exact ⟨a, C, dx, vs, w, rfl, hh, cl, na, hw, q _ _ _ _ _ f1 E1 s1 iw⟩
/-- self.m = value, self a slot's own instance -/
def fPutF (i : Nat) (n m : Str) (F : FE) : FS := fun ρ S => F ρ (fun d ρ1 => ∃ fs, get ρ1 i = some (.obj n fs) ∧ fs.length < 1000 ∧ S.nx (put ρ1 i (some (.obj n (putFd m d fs))))) S.ex
@[simp ↓] theorem fPutF_ap (i : Nat) (n m : Str) (F : FE) (ρ : Env) (S : SPo) : fPutF i n m F ρ S = (F ρ (fun d ρ1 => ∃ fs, get ρ1 i = some (.obj n fs) ∧ fs.length < 1000 ∧ S.nx (put ρ1 i (some (.obj n (putFd m d fs))))) S.ex) := (rfl)
theorem ds_fld (i : Nat) (n : Str) {y : Str} (hc : IsCl X.K n C) (cl : Cls X.K C) (na : NoAttr X.K C m) (hv : DE X Wx P I value tv F J) (hj : i ∈ P ∨ i ∈ J := by decide) (hN : X.N[i]? = some y := by rfl) (hvx : Vis X.env.scope y := by first | exact Or.inl rfl | exact Or.inr (Or.inl rfl) | exact Or.inr (Or.inr rfl)) (hd : (y == ("__debug__" : Str)) = false := by decide)
    (hcd : (y == ("__classdict__" : Str)) = false := by decide) (hs : swapsWith value (some (.Attribute (.Name y p) m pos')) pos.line X.env = pure false := by rfl) :
    DS X Wx P L I (.Assign [.Attribute (.Name y p) m pos'] value pos) (fPutF i n m F) J := by
  obtain ⟨p1, k1⟩ := hv
  refine ⟨_, ps_fld (pe_var hN hvx hd hcd) p1 hs, fun W ρ σ Hb H D S E f q => k1 W ρ σ Hb H _ _ _ E f (q.xok σ) fun z ρ1 v Hb1 H1 f1 E1 s1 i1 => ?_⟩
  obtain ⟨fs, g, hl, f1⟩ := f1
  obtain ⟨a, ea, nb, ⟨C', dx, vs, hc', hh, e1, l1⟩, _, _⟩ := E1.cel i _ hj g
  obtain rfl := hc.eq hc'
  obtain ⟨r1, r2⟩ := putF_is (f := m) i1 e1 l1
  have lz : vs.length = fs.length := by
    have := congrArg List.length e1
    simpa using this
  exact ⟨_, ea, a, C, dx, vs, rfl, hh, cl, na, by rw [lz]; exact hl, q.nx _ _ _ _ f1 (E1.write hj g ea ⟨C, dx, _, hc, upd_same, r1, r2⟩) s1⟩
/-! ### methods, properties -/
def tSelf (C : Addr) (m : Str) (ta : TE) (t : TA) : TA := fun σ H Q => ta σ H fun x H1 => ∃ a dx fs, x = .ref a ∧ H1 a = some (.ins C dx fs) ∧ fs.lookup m = none ∧ t σ H1 fun vs H2 => Q (x :: vs) H2
def isObj (n : Str) (d : D) : Prop := ∃ fs, d = .obj n fs
def isObjM (n m : Str) (d : D) : Prop := ∃ fs, d = .obj n fs ∧ fs.lookup m = none
@[simp] theorem isObj_obj (n m : Str) (fs : List (Str × D)) : isObj n (.obj m fs) = (m = n) := propext ⟨fun ⟨_, e⟩ => by cases e; rfl, fun e => ⟨fs, by rw [e]⟩⟩
@[simp] theorem isObjM_obj (n m k : Str) (fs : List (Str × D)) : isObjM n m (.obj k fs) = (k = n ∧ fs.lookup m = none) := propext ⟨fun ⟨_, e, l⟩ => by cases e; exact ⟨rfl, l⟩, fun ⟨e, l⟩ => ⟨fs, by rw [e], l⟩⟩
def oSelf (n m : Str) (Fo : FE) (B : Env → (Env → Env → Prop) → XP → Prop) : Env → (Env → Env → Prop) → XP → Prop := fun ρ post xp => Fo ρ (fun d ρ1 => isObjM n m d ∧ B ρ1 (fun ds ρ2 => post (some d :: ds) ρ2) xp) xp
@[simp ↓] theorem oSelf_ap (n m : Str) (Fo : FE) (B : Env → (Env → Env → Prop) → XP → Prop) (ρ : Env) (post : Env → Env → Prop) (xp : XP) : oSelf n m Fo B ρ post xp = (Fo ρ (fun d ρ1 => isObjM n m d ∧ B ρ1 (fun ds ρ2 => post (some d :: ds) ρ2) xp) xp) := (rfl)
theorem self_ev {n : Str} (hc : IsCl X.K n C) (ho : DE X Wx P I o ta Fo J1) (hb : DO X Wx P J1 es tA B sl J) : ∀ (W : Wd) (ρ : Env) (σ : St) (Hb H : Hp) (Q : List V → Hp → Prop) (post : Env → Env → Prop) (xp : XP), EnvOk X.K W P I ρ σ Hb H → oSelf n m Fo B ρ post xp → XOk X Wx W P σ xp →
    (∀ ds ρ' vs Hb' H', post ds ρ' → EnvOk X.K W P J ρ' σ Hb' H' → Sub Hb Hb' → Args X.K Hb' σ (none :: sl) vs ds → Q vs H') → tSelf C m ta tA σ H Q := by
  intro W ρ σ Hb H Q post xp E f x q
  refine ho.ev W ρ σ Hb H _ _ xp E f x fun d ρ1 v Hb1 H1 f1 E1 s1 i1 => ?_
  obtain ⟨⟨fs, e, hl⟩, f1⟩ := f1
  subst e
  obtain ⟨a, C', dx, vs, rfl, hc', hh, e1, l1⟩ := o_obj E1.sub (.inl i1)
  obtain rfl := hc.eq hc'
  exact ⟨a, dx, vs, rfl, hh, look_none e1 hl, hb.ev W ρ1 σ Hb1 H1 _ _ xp E1 f1 x fun ds ρ2 us Hb2 H2 f2 E2 s2 i2 => q _ _ _ _ _ f2 E2 (s1.trans s2) ⟨⟨_, rfl, i1.mono s2⟩, i2⟩⟩
theorem de_methG {nn : Nat} {n : Str} {pl : Sem Bool} (hc : IsCl X.K n C) (cl : Cls X.K C) (hm : Meth X.K C m f) (Fn : FnG X.prog X.w X.K X.mg X.base k f (spD X.K nn io G)) (hr : Room k X.A) (hgu : X.A.guards = some []) (tk : Takes X Wx)
    (ho : DE X Wx P I o ta Fo J1) (hb : DO X Wx P J1 (e :: es) tA B sl J) (hio : ioOf 0 (none :: sl) = io := by decide) (hsl : ∀ j ∈ slots (none :: sl), j ∈ P ∨ j ∈ J := by decide) (nd : (slots (none :: sl)).Nodup := by decide) (hPJ : ∀ j ∈ J, j ∉ P := by decide) (hn : (none :: sl).length = nn := by decide)
    (hst : starEach (e :: es) X.env = (false, eval e X.env) :: starEach es X.env := by rfl) (hpl : (backTo pos (starEach es X.env)).any (·.1) = false := by rfl)
    (ht : eval (.Call (.Attribute o m apos) (e :: es) [] pos) X.env = (do
      let ov ← eval o X.env
      standAt apos.atName
      let (f, first) ← holding [ov] (getMethod ov m pl)
      callWith pos f first (backTo pos (starEach (e :: es) X.env)) (backToKw pos (keywordEach [] X.env))) := by rfl) :
    DE X Wx P I (.Call (.Attribute o m apos) (e :: es) [] pos) (tMethG C m (spD X.K nn io G) (WE Wx) ta tA) (fCall G (none :: sl) (oSelf n m Fo B)) J :=
  de_of (pe_methG ho.pe cl hm Fn hr hgu (fun σ => passAt tk σ) hb.pe hst hpl ht) (call_core (t := tSelf C m ta tA) tk hio hsl nd hPJ hn (self_ev hc ho hb))
theorem de_methG0 {nn : Nat} {n : Str} {pl : Sem Bool} (hc : IsCl X.K n C) (cl : Cls X.K C) (hm : Meth X.K C m f) (Fn : FnG X.prog X.w X.K X.mg X.base k f (spD X.K nn io G)) (hr : Room k X.A) (hgu : X.A.guards = some []) (tk : Takes X Wx)
    (ho : DE X Wx P I o ta Fo J) (hio : ioOf 0 [none] = io := by decide) (hPJ : ∀ j ∈ J, j ∉ P := by decide) (hn : 1 = nn := by decide)
    (ht : eval (.Call (.Attribute o m apos) [] [] pos) X.env = (do
      let ov ← eval o X.env
      standAt apos.atName
      let (f, first) ← holding [ov] (getMethod ov m pl)
      callWith pos f first (backTo pos (starEach [] X.env)) (backToKw pos (keywordEach [] X.env))) := by rfl) :
    DE X Wx P I (.Call (.Attribute o m apos) [] [] pos) (tMethG C m (spD X.K nn io G) (WE Wx) ta tNil) (fCall G [none] (oSelf n m Fo oNil)) J :=
  de_of (pe_methG0 ho.pe cl hm Fn hr hgu (fun σ => passAt tk σ) ht) (call_core (t := tSelf C m ta tNil) tk hio (fun j h => by simp [slots] at h) (by simp [slots]) hPJ hn (self_ev hc ho do_nil))
/-- a property: nothing is raised in it -/
def fProp (n : Str) (G : DFn) (F : FE) : FE := fun ρ post xp => F ρ (fun d ρ1 => isObj n d ∧ callD G [some d] (fun z _ => post z ρ1) noX .mk) xp
@[simp ↓] theorem fProp_ap (n : Str) (G : DFn) (F : FE) (ρ : Env) (post : Post) (xp : XP) : fProp n G F ρ post xp = (F ρ (fun d ρ1 => isObj n d ∧ callD G [some d] (fun z _ => post z ρ1) noX .mk) xp) := (rfl)
theorem de_propG {n : Str} {g q : Addr} (hc : IsCl X.K n C) (cl : Cls X.K C) (hp : PropOf X.K C m q g) (Fn : FnG X.prog X.w X.K X.mg X.base k g (spD X.K 1 [] G)) (hr : Room (k + 1) X.A) (hgu : X.A.guards = some [])
    (ho : DE X Wx P I o ta Fo J) (hab : attributeBase o m X.env (eval o X.env) = eval o X.env := by rfl) : DE X Wx P I (.Attribute o m pos) (tPropG C (spD X.K 1 [] G) ta) (fProp n G Fo) J := by
  refine de_of (pe_propG ho.pe cl hp Fn hr hgu hab) fun W ρ σ Hb H Q post xp E f x q => ho.ev W ρ σ Hb H _ _ xp E f x fun d ρ1 v Hb1 H1 f1 E1 s1 i1 => ?_
  obtain ⟨⟨fs, e⟩, f1⟩ := f1
  subst e
  obtain ⟨a, C', dx, vs, rfl, hc', hh, e1, l1⟩ := o_obj E1.sub (.inl i1)
  obtain rfl := hc.eq hc'
  have ar : Args X.K Hb1 σ [none] [V.ref a] [some (.obj n fs)] := ⟨⟨_, rfl, i1⟩, trivial⟩
  have hsl : ∀ j ∈ slots [none], j ∈ P ∨ j ∈ J := fun j h => by simp [slots] at h
  have hl : ∀ j ∈ slots [none], get ρ1 j ≠ none := fun j h => by simp [slots] at h
  refine ⟨a, dx, vs, rfl, hh, rfl, [some (.obj n fs)], Hb1, _, _, E1.lend ar hsl (by simp [slots]) hl, f1, fun d ρ' v Hb' H' p1 E2 is => ?_, fun c ρ' cls dx Hb' H' p1 => p1.elim⟩
  have E3 := E1.given ar hsl (by simp [slots]) hl E2 rfl
  have eu : unfill [none] ρ' ρ1 = ρ1 := by cases ρ' <;> rfl
  rw [eu] at E3
  exact q _ _ _ _ _ p1 E3 (s1.trans E2.stp.hb) is
end
/-! ### making an instance -/
def fMake (n : Str) (m : Nat) (G : DFn) (A : FA) : FE := fun ρ post xp => A ρ (fun ds ρ1 => ds.length + 1 = m ∧ callD G (some (.obj n []) :: ds.map some) (fun d r => d = .non ∧ ∃ fs, get r 0 = some (.obj n fs) ∧ post (.obj n fs) ρ1) (fun c _ => xp c ρ1) .mk) xp
@[simp ↓] theorem fMake_ap (n : Str) (m : Nat) (G : DFn) (A : FA) (ρ : Env) (post : Post) (xp : XP) : fMake n m G A ρ post xp = (A ρ (fun ds ρ1 => ds.length + 1 = m ∧ callD G (some (.obj n []) :: ds.map some) (fun d r => d = .non ∧ ∃ fs, get r 0 = some (.obj n fs) ∧ post (.obj n fs) ρ1) (fun c _ => xp c ρ1) .mk) xp) := (rfl)
section
variable {K : PySem.W.Frag} {W : Wd} {P J : List Nat} {ρ : Env} {σ : St} {Hb H : Hp} {n : Str} {C x dx : Addr} {vs : List V} {ds : List D}
theorem get_map_some : ∀ {ds : List D} {i : Nat} {d : D}, get (ds.map some) i = some d → ds[i]? = some d
  | [], _, _, h => by simp [get] at h
  | x :: r, 0, d, h => by simpa [get] using h
  | x :: r, i + 1, d, h => by
    have := get_map_some (ds := r) (i := i) (d := d) (by simpa [get] using h)
    simpa using this
theorem made_env (E : EnvOk K W P J ρ σ Hb H) (hc : IsCl K n C) (nx : H x = none) (nd : H dx = none) (ne : dx ≠ x) (l : IsL K Hb vs ds) :
    EnvOk K ⟨Hb, upd (upd H dx (.own x)) x (.ins C dx []), lentAt [0] (.ref x :: vs) (some (.obj n []) :: ds.map some) (upd (upd H dx (.own x)) x (.ins C dx [])), rootAt [0] (.ref x :: vs)⟩ [0] [] (some (.obj n []) :: ds.map some) ((V.ref x :: vs).map some) Hb (upd (upd H dx (.own x)) x (.ins C dx [])) where
  sub := ((E.more (o := .own x) nd).more (o := .ins C dx []) (by rw [upd_ne ne.symm]; exact nx)).sub
  stp := Stp.refl _ _ _ _
  len := by simp [l.length]
  val := fun i d g nP _ => by
    cases i with
    | zero => exact absurd (List.mem_singleton.mpr rfl) nP
    | succ i =>
      obtain ⟨v, hv, iv⟩ := l.get (get_map_some (by simpa [get] using g))
      exact ⟨v, by simp [hv], iv⟩
  celF := fun i d hi g0 => by
    have e : i = 0 := by simpa using hi
    subst e
    have g := g0
    cases g
    refine ⟨x, rfl, ⟨C, dx, [], hc, upd_same, rfl, .nil⟩, fun _ => ⟨List.mem_singleton.mpr rfl, rfl⟩, fun a ha => ?_⟩
    have := flat_foot (d := .obj n []) (by intro o; cases o <;> (try rename_i o; cases o) <;> rfl) ha
    subst this
    exact ⟨E.sub.none nx, fun _ => .inl ⟨List.mem_singleton.mpr rfl, _, a, g0, rfl, ha⟩, fun q => by cases q⟩
  sepF := fun i j p q di dj a hi hj _ _ _ _ _ _ => by
    have e : i = 0 := by simpa using hi
    have e' : j = 0 := by simpa using hj
    rw [e, e']
theorem lent_only {p : Addr} {i : Nat} {H0 : Hp} (h : lentAt [0] (V.ref x :: vs) (some (.obj n []) :: ds.map some) H0 i p) : p = x := by
  obtain ⟨hi, d, q, g, e, ft⟩ := h
  have : i = 0 := by simpa using hi
  subst this
  cases g
  have e : (some (V.ref x) : Option V) = some (.ref q) := e
  cases e
  exact flat_foot (d := .obj n []) (by intro o; cases o <;> (try rename_i o; cases o) <;> rfl) ft
theorem made_back {ρ' : Env} {Hb' H' : Hp} (E : EnvOk K W P J ρ σ Hb H) (nx : H x = none) (nd : H dx = none) (ne : dx ≠ x)
    (E4 : EnvOk K ⟨Hb, upd (upd H dx (.own x)) x (.ins C dx []), lentAt [0] (.ref x :: vs) (some (.obj n []) :: ds.map some) (upd (upd H dx (.own x)) x (.ins C dx [])), rootAt [0] (.ref x :: vs)⟩ [0] [] ρ' ((V.ref x :: vs).map some) Hb' H') : EnvOk K W P J ρ σ Hb' H' := by
  have E3 := (E.more (o := .own x) nd).more (o := .ins C dx []) (p := x) (by rw [upd_ne ne.symm]; exact nx)
  obtain ⟨k1, k2⟩ := E.cells (H' := H') (W' := W) E4.stp.hb (fun i d q a u hi g e ha hu => by
    obtain ⟨q', e', c, _, f⟩ := E.celF i d hi g
    rw [e] at e'; cases e'
    obtain ⟨o, ho, nt⟩ := c.footS ha
    rw [hu] at ho; cases ho
    have ax : a ≠ x := ne_of_none hu nx
    have hq : upd (upd H dx (.own x)) x (.ins C dx []) a = some u := by rw [upd_ne ax, upd_ne (ne_of_none hu nd)]; exact hu
    exact ⟨E4.stp.own (f a ha).1 hq fun k hk => ax (lent_only hk), E4.stp.nb (f a ha).1 hq nt⟩) (fun _ _ _ _ _ _ _ _ => ⟨id, id⟩) (fun _ _ _ _ _ _ _ _ => id)
  refine ⟨E4.sub, E3.stp.trans E4.stp fun i p h => .inr (by rw [lent_only h]; exact E.stp.al x nx), E.len, fun i d g nP nJ => ?_, k1, k2⟩
  obtain ⟨v, e, is⟩ := E.val i d g nP nJ
  exact ⟨v, e, is.mono E4.stp.hb⟩
/-- the object that was made is new -/
theorem made_new {ρ' : Env} {Hb0 H0 Hb' H' : Hp} {d : D} (E0 : EnvOk K W P J ρ σ Hb0 H0) (E : EnvOk K W P J ρ σ Hb H) (s0 : Sub Hb0 Hb) (nx0 : H0 x = none) (nx : H x = none) (nd : H dx = none) (ne : dx ≠ x)
    (E4 : EnvOk K ⟨Hb, upd (upd H dx (.own x)) x (.ins C dx []), lentAt [0] (.ref x :: vs) (some (.obj n []) :: ds.map some) (upd (upd H dx (.own x)) x (.ins C dx [])), rootAt [0] (.ref x :: vs)⟩ [0] [] ρ' ((V.ref x :: vs).map some) Hb' H') (g : get ρ' 0 = some d) : NewAt K W P J ρ σ Hb' H' x d := by
  obtain ⟨p', ep, c, _, f⟩ := E4.celF 0 _ (.inl (List.mem_singleton.mpr rfl)) g
  have ep : (some (some (V.ref x)) : Option (Option V)) = some (some (.ref p')) := ep
  cases ep
  -- what it has was not there
  have nf : ∀ a, foot H' x d a → H a = none := fun a ha => by
    rcases (f a ha).2.1 (List.mem_singleton.mpr rfl) with h | h
    · rw [lent_only h]; exact nx
    · have h : upd (upd H dx (.own x)) x (.ins C dx []) a = none := h
      have ax : a ≠ x := fun z => by subst z; rw [upd_same] at h; cases h
      rw [upd_ne ax] at h
      have ad : a ≠ dx := fun z => by subst z; rw [upd_same] at h; cases h
      rw [upd_ne ad] at h
      exact h
  have E5 := made_back E nx nd ne E4
  refine ⟨c, fun a ha => ⟨(f a ha).1, E.stp.al a (nf a ha)⟩, fun i di q a hi g1 e1 ha fa => ?_⟩
  obtain ⟨q', e', c1, _, f1⟩ := E.celF i di hi g1
  rw [e1] at e'; cases e'
  have kp : ∀ b, foot H q di b → ∃ o, H b = some o ∧ H' b = some o := fun b hb => by
    obtain ⟨o, ho, nt⟩ := c1.footS hb
    have ax : b ≠ x := ne_of_none ho nx
    have hq : upd (upd H dx (.own x)) x (.ins C dx []) b = some o := by rw [upd_ne ax, upd_ne (ne_of_none ho nd)]; exact ho
    exact ⟨o, ho, E4.stp.own (f1 b hb).1 hq fun k hk => ax (lent_only hk)⟩
  obtain ⟨o, e2, e3⟩ := kp q foot.root
  have fa := foot.cong (H := H) (by rw [e2, e3]) fa
  obtain ⟨o', e4, _⟩ := kp a fa
  rw [nf a ha] at e4; cases e4
end
section
variable {X : Cx} {Wx : WX} {P I J : List Nat} {e : Expr} {es : List Expr} {A : FA} {pos p : Pos} {k : Nat} {f : Addr} {G : DFn} {y : Str} {tA : TA} {C : Addr} {n : Str} {m : Nat}
theorem make_core {t : TA} (hc : IsCl X.K n C) (hPJ : ∀ j ∈ J, j ∉ P)
    (ka : ∀ (W : Wd) (ρ : Env) (σ : St) (Hb H : Hp) (Q : List V → Hp → Prop) (post : List D → Env → Prop) (xp : XP), EnvOk X.K W P I ρ σ Hb H → A ρ post xp → XOk X Wx W P σ xp →
    (∀ ds ρ' vs Hb' H', post ds ρ' → EnvOk X.K W P J ρ' σ Hb' H' → Sub Hb Hb' → IsL X.K Hb' vs ds → Q vs H') → t σ H Q) :
    ∀ (W : Wd) (ρ : Env) (σ : St) (Hb H : Hp) (Q : VK) (post : Post) (xp : XP), EnvOk X.K W P I ρ σ Hb H → fMake n m G A ρ post xp → XOk X Wx W P σ xp →
    (∀ d ρ' p Hb' H', post d ρ' → EnvOk X.K W P J ρ' σ Hb' H' → Sub Hb Hb' → NewAt X.K W P J ρ' σ Hb' H' p d → Q (.ref p) H') → tMakeG C (spD X.K m [0] G) (WE Wx) t σ H Q := by
  intro W ρ σ Hb H Q post xp E h x q
  refine ka W ρ σ Hb H _ _ xp E h x fun ds ρ1 vs Hb1 H1 f1 E1 s1 l1 a dx nx nd ne => ?_
  obtain ⟨hm, f1⟩ := f1
  refine ⟨by rw [List.length_cons, l1.length]; exact hm, _, Hb1, _, _, made_env E1 hc nx nd ne l1, f1, fun d ρ' v Hb' H' p1 E4 is => ?_, fun c ρ' cls dx' Hb' H' p1 E4 xi => ?_⟩
  · obtain ⟨e, fs, g, p1⟩ := p1
    subst e
    refine ⟨is_non is, q _ _ _ _ _ p1 (made_back E1 nx nd ne E4) (s1.trans E4.stp.hb) (made_new E1 E1 (Sub.refl _) nx nx nd ne E4 g)⟩
  · obtain ⟨Hb3, E5, s5⟩ := (made_back E1 nx nd ne E4).drop (J := []) (fun j q => by cases q) hPJ
    refine x c _ cls dx' Hb3 H' p1 E5 ?_
    obtain ⟨e, r | ⟨d, us, e1, e2, e3, e4⟩⟩ := xi
    · exact ⟨e, .inl r⟩
    · exact ⟨e, .inr ⟨d, us, e1, s5.at e2, e3, e4.mono s5⟩⟩
theorem dn_makeG {fi : Addr} (M : Mk X.K C fi) (hc : IsCl X.K n C) (Fn : FnG X.prog X.w X.K X.mg X.base k fi (spD X.K m [0] G)) (hr : Room (k + 1) X.A) (hgu : X.A.guards = some []) (hm : X.mg y = some (.ref C)) (tk : Takes X Wx) (ha : DA X Wx P I (e :: es) tA A J)
    (hPJ : ∀ j ∈ J, j ∉ P := by decide) (hg : Gl X y := by rfl) (hdb : (y == ("__debug__" : Str)) = false := by decide) (he : starEach (e :: es) X.env = (false, eval e X.env) :: starEach es X.env := by rfl) (hpl : (backTo pos (starEach es X.env)).any (·.1) = false := by rfl) :
    DNw X Wx P I (.Call (.Name y p) (e :: es) [] pos) (tMakeG C (spD X.K m [0] G) (WE Wx) tA) (fMake n m G A) J :=
  ⟨pe_makeG M Fn hr hgu hg hm (fun σ => passAt tk σ) ha.pe hdb he hpl, make_core hc hPJ ha.ev⟩
theorem dn_makeG0 {fi : Addr} (M : Mk X.K C fi) (hc : IsCl X.K n C) (Fn : FnG X.prog X.w X.K X.mg X.base k fi (spD X.K m [0] G)) (hr : Room (k + 1) X.A) (hgu : X.A.guards = some []) (hm : X.mg y = some (.ref C)) (tk : Takes X Wx)
    (hPJ : ∀ j ∈ I, j ∉ P := by decide) (hg : Gl X y := by rfl) (hdb : (y == ("__debug__" : Str)) = false := by decide) :
    DNw X Wx P I (.Call (.Name y p) [] [] pos) (tMakeG C (spD X.K m [0] G) (WE Wx) tNil) (fMake n m G fNil) I :=
  ⟨pe_makeG0 M Fn hr hgu hg hm (fun σ => passAt tk σ) hdb, make_core hc hPJ (da_nil (X := X) (Wx := Wx)).ev⟩
end

/-! ### def f(a, .., *rest) -/
/-- the promise by the flat values: those behind the first j are one tuple -/
def spStar (j : Nat) (sp : Sp) : Sp := fun vs H Q E => ∃ ws rest, vs = ws ++ rest ∧ ws.length = j ∧ rest.length ≤ sizeLine ∧ ∀ p, H p = none → sp (ws ++ [V.ref p]) (upd H p (.tup rest)) Q E
section
variable {P : Program} {w : World} {K : PySem.W.Frag} {mg : Str → Option Value} {base : Heap} {k : Nat} {f : Addr} {sp : Sp}
theorem fnG_star {x qual : Str} {st : Stmt} {fd : FuncData} {N ps : List Str} {pv : Str} (F : FunG K x qual st f fd) (S : FnScope N (ps ++ [pv]) (defScope st))
    (B : ∀ us rest : List Value, us.length = ps.length → bindArgs fd ⟨us ++ rest, []⟩ = (newTuple rest >>= fun t => pure (ps.zip us ++ [(pv, t)])))
    (body : ∀ (cdv : Value) (A : Around) (o : List PySem.Env) (s : Shared) (H : Hp) (vs : List V) (Q : VK) (E : XK), Room k (A.deeper (envOfC qual (defScope st) s.heap.objs.size f cdv)) → A.guards = some [] → sp vs H Q E →
      ∃ t, PSs (cxOf (L2.CX P w) P w K mg base N qual (defScope st) f cdv A o s H E) (defBody st) t ∧ t { nx := fun _ H' => Q .non H', rt := Q } (L2.start N vs) H) : FnG P w K mg base (k + 1) f (spStar ps.length sp) := by
  intro A o s H us vs Q E room hg ev rel hsp
  obtain ⟨ws, rest, rfl, lw, lr, hq⟩ := hsp
  obtain ⟨u1, u2, rfl, r1, r2⟩ := StX.vals_split rel
  obtain ⟨oc, od, dV, kV, doc, pm, an, cdv, ct, osl, rfl, lk, hcd⟩ := F.ex
  have n1 : u1.length = ps.length := by rw [← r1.length]; exact lw
  have fresh : H s.heap.objs.size = none := ev.hok.fresh (Nat.le_refl _)
  refine StX.run_bnd (CX := L2.CX P w) lk hcd S room ev (G := fun xs H2 => ∃ p, H p = none ∧ xs = ws ++ [V.ref p] ∧ H2 = upd H p (.tup rest)) (fun A' Ex Q' h => ?_) fun s2 H2 xs ⟨p, hp, ex, eH⟩ room' => ?_
  · rw [B u1 u2 n1]
    refine wpAny_bind (wpAny_newTuple (wpAny_pure ?_) (by rw [← r2.length]; exact lr))
    let ob : Obj := { cls := .type "tuple", data := .seq u2.toArray }
    have new : ObjOk P w (upd H s.heap.objs.size (.tup rest)) (s.heap.push ob) s.heap.objs.size (.tup rest) := ⟨lr, u2, r2, ⟨_, Heap.get?_push_size _ rfl, rfl, _, rfl⟩⟩
    have un := StX.un_laid (fs := frs o) (s := s) (o := ob) (u := .tup rest) fresh
    have done := h _ _ (ws ++ [V.ref s.heap.objs.size]) (u1 ++ [Value.ref s.heap.objs.size]) (StX.env0_laid ev new) un rfl (fun e s' => StX.cxUp o s H _ _ E e s' un (fun b o q => Heap.get?_push_of_some _ q) rfl) (r1.append (.cons rfl .nil))
      (by simp [lw]) ⟨_, fresh, rfl, rfl⟩
    rw [List.zip_append n1.symm] at done
    exact done
  · subst ex eH
    exact body cdv A o s2 _ _ Q E room' hg (hq p hp)
end
end DL

/-! DG3: star defs over data, in by an own __contains__, isinstance of own classes. -/
namespace DL
open PySem L2
open PyProof.Rows hiding St

/-! ### star defs -/
section
variable {P : Program} {w : World} {K : PySem.W.Frag} {mg : Str → Option Value} {base : Heap}
theorem okGS_of {x qual : Str} {st : Stmt} {f : Addr} {fd : FuncData} {N ps : List Str} {pv : Str} {k n : Nat} {io : List Nat} {J : List Nat} {G : DFn} {Fd : FS} (F : FunG K x qual st f fd)
    (B : ∀ us rest : List Value, us.length = ps.length → bindArgs fd ⟨us ++ rest, []⟩ = (newTuple rest >>= fun t => pure (ps.zip us ++ [(pv, t)]))) (S : FnScope N (ps ++ [pv]) (defScope st))
    (hb : ∀ (cdv : Value) (A : Around) (outer : List PySem.Env) (s : Shared) (H : Hp) (E : XK), Room k (A.deeper (envOfC qual (defScope st) s.heap.objs.size f cdv)) → A.guards = some [] →
      DSs (cxOf (L2.CX P w) P w K mg base N qual (defScope st) f cdv A outer s H E) (WofE E) io [] [] (defBody st) Fd J)
    (hg : ∀ (ρ : DL.Env) (post : Post) (xp : XP), ρ.length = n → G ρ post xp → Fd (ρ ++ List.replicate (N.length - n) none) (endS io n post xp)) : FnG P w K mg base (k + 1) f (spStar ps.length (spD K n io G)) := by
  refine fnG_star F S B fun cdv A outer s H vs Q E hr gu h => ?_
  obtain ⟨hl, ρ, Hb, post, xp, E0, g, q1, q2⟩ := h
  obtain ⟨t, pt, kt⟩ := (hb cdv A outer s H E hr gu).run
  refine ⟨t, pt, ?_⟩
  have hρ : ρ.length = n := by rw [← E0.len, List.length_map, hl]
  have e1 : L2.start N vs = vs.map some ++ List.replicate (N.length - n) none := by unfold L2.start; rw [hl]
  rw [e1]
  refine kt ⟨Hb, H, lentAt io vs ρ H, rootAt io vs⟩ _ _ Hb H _ _ E0.entry (hg ρ post xp hρ g) ⟨fun ρ' σ' Hb' H' a E' s' => ?_, fun d ρ' σ' v Hb' H' a E' is => ?_, fun _ _ _ _ a => a.elim, fun _ _ _ _ a => a.elim, fun c ρ' cls dx σ' Hb' H' a E' xi => ?_⟩
  · exact q1 _ _ _ _ _ a (E'.masked hl) .non
  · exact q1 _ _ _ _ _ a (E'.masked hl) is
  · exact q2 _ _ _ _ _ _ a (E'.masked hl) xi
end
def fMakeS (n : Str) (G : DFn) (A : FA) : FE := fun ρ post xp => A ρ (fun ds ρ1 => ds.length ≤ 1000 ∧ callD G [some (.obj n []), some (.tup ds)] (fun d r => d = .non ∧ ∃ fs, get r 0 = some (.obj n fs) ∧ post (.obj n fs) ρ1) (fun c _ => xp c ρ1) .mk) xp
@[simp ↓] theorem fMakeS_ap (n : Str) (G : DFn) (A : FA) (ρ : Env) (post : Post) (xp : XP) : fMakeS n G A ρ post xp = (A ρ (fun ds ρ1 => ds.length ≤ 1000 ∧ callD G [some (.obj n []), some (.tup ds)] (fun d r => d = .non ∧ ∃ fs, get r 0 = some (.obj n fs) ∧ post (.obj n fs) ρ1) (fun c _ => xp c ρ1) .mk) xp) := (rfl)
section
variable {X : Cx} {Wx : WX} {P I J J1 : List Nat} {a b e : Expr} {es : List Expr} {A : FA} {pos p : Pos} {k : Nat} {f : Addr} {G : DFn} {y : Str} {tA : TA} {ta tb : TE} {C : Addr} {n : Str} {m : Nat} {Fa Fb : FE}
theorem makeS_core {t : TA} (hc : IsCl X.K n C) (hPJ : ∀ j ∈ J, j ∉ P)
    (ka : ∀ (W : Wd) (ρ : Env) (σ : St) (Hb H : Hp) (Q : List V → Hp → Prop) (post : List D → Env → Prop) (xp : XP), EnvOk X.K W P I ρ σ Hb H → A ρ post xp → XOk X Wx W P σ xp →
    (∀ ds ρ' vs Hb' H', post ds ρ' → EnvOk X.K W P J ρ' σ Hb' H' → Sub Hb Hb' → IsL X.K Hb' vs ds → Q vs H') → t σ H Q) :
    ∀ (W : Wd) (ρ : Env) (σ : St) (Hb H : Hp) (Q : VK) (post : Post) (xp : XP), EnvOk X.K W P I ρ σ Hb H → fMakeS n G A ρ post xp → XOk X Wx W P σ xp →
    (∀ d ρ' p Hb' H', post d ρ' → EnvOk X.K W P J ρ' σ Hb' H' → Sub Hb Hb' → NewAt X.K W P J ρ' σ Hb' H' p d → Q (.ref p) H') → tMakeG C (spStar 1 (spD X.K 2 [0] G)) (WE Wx) t σ H Q := by
  intro W ρ σ Hb H Q post xp E h x q
  refine ka W ρ σ Hb H _ _ xp E h x fun ds ρ1 vs Hb1 H1 f1 E1 s1 l1 a dx nx nd ne => ?_
  obtain ⟨hm, f1⟩ := f1
  refine ⟨[.ref a], vs, rfl, rfl, by rw [l1.length]; exact Nat.le_trans hm (by decide), fun pt ft => ?_⟩
  -- the tuple first, as plain data of the caller
  have fa : pt ≠ a := fun z => by subst z; rw [upd_same] at ft; cases ft
  have fd : pt ≠ dx := fun z => by subst z; rw [upd_ne ne, upd_same] at ft; cases ft
  have f1n : H1 pt = none := by rw [upd_ne fa, upd_ne fd] at ft; exact ft
  have Et := E1.alloc (o := .tup vs) f1n
  have nbt : Hb1 pt = none := E1.sub.none f1n
  have lt : IsL X.K (upd Hb1 pt (.tup vs)) [V.ref pt] [D.tup ds] := .cons (.tup upd_same (l1.mono (Sub.new nbt))) .nil
  have nx' : upd H1 pt (.tup vs) a = none := by rw [upd_ne fa.symm]; exact nx
  have nd' : upd H1 pt (.tup vs) dx = none := by rw [upd_ne fd.symm]; exact nd
  have comm : upd (upd (upd H1 dx (.own a)) a (.ins C dx [])) pt (.tup vs) = upd (upd (upd H1 pt (.tup vs)) dx (.own a)) a (.ins C dx []) := by
    funext z
    by_cases z1 : z = pt
    · subst z1; rw [upd_same, upd_ne fa, upd_ne fd, upd_same]
    · by_cases z2 : z = a
      · subst z2; rw [upd_ne z1, upd_same, upd_same]
      · by_cases z3 : z = dx
        · subst z3; rw [upd_ne z1, upd_ne z2, upd_same, upd_ne z2, upd_same]
        · rw [upd_ne z1, upd_ne z2, upd_ne z3, upd_ne z2, upd_ne z3, upd_ne z1]
  show spD X.K 2 [0] G [V.ref a, V.ref pt] _ _ _
  rw [comm]
  refine ⟨rfl, _, _, _, _, made_env Et hc nx' nd' ne lt, f1, fun d ρ' v Hb' H' p1 E4 is => ?_, fun c ρ' cls dx' Hb' H' p1 E4 xi => ?_⟩
  · obtain ⟨e, fs, g, p1⟩ := p1
    subst e
    refine ⟨is_non is, q _ _ _ _ _ p1 (made_back Et nx' nd' ne E4) ((s1.trans (Sub.new nbt)).trans E4.stp.hb) (made_new E1 Et (Sub.new nbt) nx nx' nd' ne E4 g)⟩
  · obtain ⟨Hb3, E5, s5⟩ := (made_back Et nx' nd' ne E4).drop (J := []) (fun j q => by cases q) hPJ
    refine x c _ cls dx' Hb3 H' p1 E5 ?_
    obtain ⟨e, r | ⟨d, us, e1, e2, e3, e4⟩⟩ := xi
    · exact ⟨e, .inl r⟩
    · exact ⟨e, .inr ⟨d, us, e1, s5.at e2, e3, e4.mono s5⟩⟩
theorem dn_makeS {fi : Addr} (M : Mk X.K C fi) (hc : IsCl X.K n C) (Fn : FnG X.prog X.w X.K X.mg X.base k fi (spStar 1 (spD X.K 2 [0] G))) (hr : Room (k + 1) X.A) (hgu : X.A.guards = some []) (hm : X.mg y = some (.ref C)) (tk : Takes X Wx) (ha : DA X Wx P I (e :: es) tA A J)
    (hPJ : ∀ j ∈ J, j ∉ P := by decide) (hg : Gl X y := by rfl) (hdb : (y == ("__debug__" : Str)) = false := by decide) (he : starEach (e :: es) X.env = (false, eval e X.env) :: starEach es X.env := by rfl) (hpl : (backTo pos (starEach es X.env)).any (·.1) = false := by rfl) :
    DNw X Wx P I (.Call (.Name y p) (e :: es) [] pos) (tMakeG C (spStar 1 (spD X.K 2 [0] G)) (WE Wx) tA) (fMakeS n G A) J :=
  ⟨pe_makeG M Fn hr hgu hg hm (fun σ => passAt tk σ) ha.pe hdb he hpl, makeS_core hc hPJ ha.ev⟩
theorem dn_makeS0 {fi : Addr} (M : Mk X.K C fi) (hc : IsCl X.K n C) (Fn : FnG X.prog X.w X.K X.mg X.base k fi (spStar 1 (spD X.K 2 [0] G))) (hr : Room (k + 1) X.A) (hgu : X.A.guards = some []) (hm : X.mg y = some (.ref C)) (tk : Takes X Wx)
    (hPJ : ∀ j ∈ I, j ∉ P := by decide) (hg : Gl X y := by rfl) (hdb : (y == ("__debug__" : Str)) = false := by decide) :
    DNw X Wx P I (.Call (.Name y p) [] [] pos) (tMakeG C (spStar 1 (spD X.K 2 [0] G)) (WE Wx) tNil) (fMakeS n G fNil) I :=
  ⟨pe_makeG0 M Fn hr hgu hg hm (fun σ => passAt tk σ) hdb, makeS_core hc hPJ (da_nil (X := X) (Wx := Wx)).ev⟩

/-! ### x in o, o with an own __contains__ in which nothing is raised -/
def rInOwn (C : Addr) (sp : Sp) (neg : Bool) : R2 := fun x y H Q => ∃ a dx fs, y = .ref a ∧ H a = some (.ins C dx fs) ∧ sp [.ref a, x] H (fun z H2 => ∃ b, z = .bl b ∧ Q (.bl (neg != b)) H2) fun _ _ _ => False
theorem op_inOwn {sp : Sp} (M : Meth X.K C "__contains__" f) (F : FnG X.prog X.w X.K X.mg X.base k f sp) (hr : Room k X.A) (hgu : X.A.guards = some []) : OpR X (compareOp .In) (rInOwn C sp false) := by
  intro pins s σ H x y v u Q I rx ry h
  obtain ⟨a, dx, fs, rfl, ha, hs⟩ := h
  have eu : u = Value.ref a := ry
  subst eu
  obtain ⟨mA, O, _⟩ := ins_get I.hok ha
  obtain ⟨od, J, _⟩ := O.look
  obtain ⟨m, fr⟩ := I.fr
  refine PySem.W.in_K fr I.ok.mod.kin J M.at_ M.fn (wpAny_call (codeAny_mono (F X.A X.stack s H [.ref a, v] [.ref a, x] _ _ hr hgu I.env0 (.cons rfl (.cons rx .nil)) hs) fun res s2 q => ?_))
  cases res with
  | error er => exact (cx_no q).elim
  | ok fl =>
    cases fl with
    | ret u =>
      obtain ⟨z, H3, I3, rz, b, ez, q3⟩ := I.after q
      subst ez
      have ez : u = Value.bool b := rz
      subst ez
      exact wpAny_truthy_bool ⟨.bl b, H3, I3, rfl, by simpa using q3⟩
    | next => exact q.elim
    | brk => exact q.elim
    | cont => exact q.elim
theorem op_notInOwn {sp : Sp} (M : Meth X.K C "__contains__" f) (F : FnG X.prog X.w X.K X.mg X.base k f sp) (hr : Room k X.A) (hgu : X.A.guards = some []) : OpR X (compareOp .NotIn) (rInOwn C sp true) := by
  intro pins s σ H x y v u Q I rx ry h
  obtain ⟨a, dx, fs, rfl, ha, hs⟩ := h
  have eu : u = Value.ref a := ry
  subst eu
  obtain ⟨mA, O, _⟩ := ins_get I.hok ha
  obtain ⟨od, J, _⟩ := O.look
  obtain ⟨m, fr⟩ := I.fr
  refine PySem.W.notIn_K fr I.ok.mod.kin J M.at_ M.fn (wpAny_call (codeAny_mono (F X.A X.stack s H [.ref a, v] [.ref a, x] _ _ hr hgu I.env0 (.cons rfl (.cons rx .nil)) hs) fun res s2 q => ?_))
  cases res with
  | error er => exact (cx_no q).elim
  | ok fl =>
    cases fl with
    | ret u =>
      obtain ⟨z, H3, I3, rz, b, ez, q3⟩ := I.after q
      subst ez
      have ez : u = Value.bool b := rz
      subst ez
      exact wpAny_truthy_bool ⟨.bl (!b), H3, I3, rfl, by simpa using q3⟩
    | next => exact q.elim
    | brk => exact q.elim
    | cont => exact q.elim
def fInOwn (n : Str) (neg : Bool) (G : DFn) (Fa Fb : FE) : FE := fun ρ post xp => Fa ρ (fun x ρ1 => Fb ρ1 (fun o ρ2 => isObj n o ∧ callD G [some o, some x] (fun z _ => gB z fun b => post (.bl (neg != b)) ρ2) noX .mk) xp) xp
@[simp ↓] theorem fInOwn_ap (n : Str) (neg : Bool) (G : DFn) (Fa Fb : FE) (ρ : Env) (post : Post) (xp : XP) : fInOwn n neg G Fa Fb ρ post xp = (Fa ρ (fun x ρ1 => Fb ρ1 (fun o ρ2 => isObj n o ∧ callD G [some o, some x] (fun z _ => gB z fun b => post (.bl (neg != b)) ρ2) noX .mk) xp) xp) := (rfl)
theorem inOwn_core (hc : IsCl X.K n C) (neg : Bool) (ha : DE X Wx P I a ta Fa J1) (hb : DE X Wx P J1 b tb Fb J) : ∀ (W : Wd) (ρ : Env) (σ : St) (Hb H : Hp) (Q : VK) (post : Post) (xp : XP), EnvOk X.K W P I ρ σ Hb H → fInOwn n neg G Fa Fb ρ post xp → XOk X Wx W P σ xp →
    (∀ d ρ' v Hb' H', post d ρ' → EnvOk X.K W P J ρ' σ Hb' H' → Sub Hb Hb' → Is X.K Hb' v d → Q v H') → tOp (rInOwn C (spD X.K 2 [] G) neg) ta tb σ H Q := by
  intro W ρ σ Hb H Q post xp E f x q
  refine ha.ev W ρ σ Hb H _ _ xp E f x fun d ρ1 v Hb1 H1 f1 E1 s1 i1 => ?_
  refine hb.ev W ρ1 σ Hb1 H1 _ _ xp E1 f1 x fun d2 ρ2 v2 Hb2 H2 f2 E2 s2 i2 => ?_
  obtain ⟨⟨fs, e⟩, f2⟩ := f2
  subst e
  obtain ⟨a, C', dx, vs, rfl, hc', hh, e1, l1⟩ := o_obj E2.sub (.inl i2)
  obtain rfl := hc.eq hc'
  have ar : Args X.K Hb2 σ [none, none] [V.ref a, v] [some (.obj n fs), some d] := ⟨⟨_, rfl, i2⟩, ⟨_, rfl, i1.mono s2⟩, trivial⟩
  have hsl : ∀ j ∈ slots [none, none], j ∈ P ∨ j ∈ J := fun j h => by simp [slots] at h
  have hl : ∀ j ∈ slots [none, none], get ρ2 j ≠ none := fun j h => by simp [slots] at h
  refine ⟨a, dx, vs, rfl, hh, rfl, [some (.obj n fs), some d], Hb2, _, _, E2.lend ar hsl (by simp [slots]) hl, f2, fun z ρ' v Hb' H' p1 E4 is => ?_, fun c ρ' cls dx Hb' H' p1 => p1.elim⟩
  have E3 := E2.given ar hsl (by simp [slots]) hl E4 rfl
  have eu : unfill [none, none] ρ' ρ2 = ρ2 := by
    cases ρ' with
    | nil => rfl
    | cons a r => cases r <;> rfl
  rw [eu] at E3
  cases z <;> first | exact p1.elim | skip
  exact ⟨_, is_bl is, q _ _ _ _ _ p1 E3 ((s1.trans s2).trans E4.stp.hb) (.bl _)⟩
theorem de_inOwn (hc : IsCl X.K n C) (M : Meth X.K C "__contains__" f) (F : FnG X.prog X.w X.K X.mg X.base k f (spD X.K 2 [] G)) (hr : Room k X.A) (hgu : X.A.guards = some []) (ha : DE X Wx P I a ta Fa J1) (hb : DE X Wx P J1 b tb Fb J) (hm : behindInMarks .In b = false := by first | exact nomark _ | rfl) :
    DE X Wx P I (.Compare a [.In] [b] pos) (tOp (rInOwn C (spD X.K 2 [] G) false) ta tb) (fInOwn n false G Fa Fb) J := de_of (pe_cmpR (op_inOwn M F hr hgu) ha.pe hb.pe hm) (inOwn_core hc false ha hb)
theorem de_notInOwn (hc : IsCl X.K n C) (M : Meth X.K C "__contains__" f) (F : FnG X.prog X.w X.K X.mg X.base k f (spD X.K 2 [] G)) (hr : Room k X.A) (hgu : X.A.guards = some []) (ha : DE X Wx P I a ta Fa J1) (hb : DE X Wx P J1 b tb Fb J) (hm : behindInMarks .NotIn b = false := by first | exact nomark _ | rfl) :
    DE X Wx P I (.Compare a [.NotIn] [b] pos) (tOp (rInOwn C (spD X.K 2 [] G) true) ta tb) (fInOwn n true G Fa Fb) J := de_of (pe_cmpR (op_notInOwn M F hr hgu) ha.pe hb.pe hm) (inOwn_core hc true ha hb)
theorem dt_inOwn (neg : Bool) {op : CmpOp} (hop : OpR X (compareOp op) (rInOwn C (spD X.K 2 [] G) neg)) (hc : IsCl X.K n C) (ha : DE X Wx P I a ta Fa J1) (hb : DE X Wx P J1 b tb Fb J) (hm : behindInMarks op b = false := by first | exact nomark _ | rfl) :
    DT X Wx P I (.Compare a [op] [b] pos) (tTest (tOp (rInOwn C (spD X.K 2 [] G) neg) ta tb)) (fTest (fInOwn n neg G Fa Fb)) J := by
  refine dt_of (pt_cmpR hop ha.pe hb.pe hm) fun W ρ σ Hb H Q post xp E f x q => inOwn_core hc neg ha hb W ρ σ Hb H _ _ xp E f x fun d ρ1 v Hb1 H1 f1 E1 s1 i1 => ?_
  cases d <;> first | exact f1.elim | skip
  exact ⟨_, is_bl i1, q _ _ _ _ f1 E1 s1⟩
end
end DL

/-! DG4: while by a measure; numbers. -/
namespace DL
open PySem L2
theorem while_fuel {T : FT} {B : FS} {S : SPo} (Inv : Nat → Env → Prop)
    (h : ∀ m ρ (N : Env → Prop), (∀ m' ρ', m' < m → Inv m' ρ' → N ρ') → Inv m ρ → T ρ (fun b ρ1 => if b = true then B ρ1 (S.lp N) else S.nx ρ1) S.ex) :
    ∀ k m ρ, m < k → Inv m ρ → whileN T B S k ρ
  | 0, _, _, hm, _ => by omega
  | k + 1, m, ρ, hm, i => h m ρ (whileN T B S k) (fun m' ρ' hl i' => while_fuel Inv h k m' ρ' (by omega) i') i
/-- a while loop by an invariant with a measure -/
theorem while_meas {T : FT} {B : FS} {S : SPo} (Inv : Nat → Env → Prop)
    (h : ∀ m ρ (N : Env → Prop), (∀ m' ρ', m' < m → Inv m' ρ' → N ρ') → Inv m ρ → T ρ (fun b ρ1 => if b = true then B ρ1 (S.lp N) else S.nx ρ1) S.ex)
    {m : Nat} {ρ : Env} (i : Inv m ρ) : ∃ n, whileN T B S n ρ := ⟨m + 1, while_fuel Inv h (m + 1) m ρ (by omega) i⟩
theorem fmod_abs {a b : Int} (h : b ≠ 0) : (a.fmod b).natAbs < b.natAbs := by
  by_cases hb : 0 < b
  · have h1 := fmod_nn (i := a) hb
    have h2 := fmod_lt (i := a) hb
    omega
  · have hb' : 0 < -b := by omega
    have e := Int.neg_fmod_neg (-a) (-b)
    rw [Int.neg_neg, Int.neg_neg] at e
    have h1 := fmod_nn (i := -a) hb'
    have h2 := fmod_lt (i := -a) hb'
    rw [e]
    omega
theorem gcd_fmod (a b : Int) : Int.gcd b (a.fmod b) = Int.gcd a b := by
  rw [Int.fmod_def, Int.gcd_sub_mul_left_right, Int.gcd_comm]
/-- return x, x a slot that owns its cell: handed on as plain data -/
theorem ds_retO {X : Cx} {Wx : WX} {P L I J1 : List Nat} {p pos : Pos} (i : Nat) {x : Str} (hP : i ∉ P := by decide) (hPI : ∀ j ∈ I, j ∉ P := by decide) (hN : X.N[i]? = some x := by rfl) (hv : Vis X.env.scope x := by first | exact Or.inl rfl | exact Or.inr (Or.inl rfl) | exact Or.inr (Or.inr rfl)) (hd : (x == ("__debug__" : Str)) = false := by decide)
    (hcd : (x == ("__classdict__" : Str)) = false := by decide) : DS X Wx P L I (.Return (some (.Name x p)) pos) (fRet (fVar i)) J1 :=
  ⟨_, ps_ret (pe_var hN hv hd hcd), fun W ρ σ Hb H D S E f q => by
    unfold fRet fVar at f
    split at f
    · rename_i d g
      obtain ⟨Hb2, E2, s2⟩ := E.drop (J := []) (fun j q => by cases q) hPI
      obtain ⟨v, e, is⟩ := E2.val i d g hP (by simp)
      exact ⟨v, e, q.rt _ _ _ _ _ _ f E2 is⟩
    · exact f.elim⟩
end DL

/-! DG5: code that is never reached, constants of classes, C(*xs), tuple > tuple. -/
namespace DL
open PySem L2 ClX
open PyProof.Rows hiding St
/-- never reached -/
def fDead : FE := fun _ _ _ => False
def fDeadS : FS := fun _ _ => False
section
variable {X : Cx} {Wx : WX} {P L I J J1 J2 : List Nat} {e a b : Expr} {es : List Expr} {F Fa Fb : FE} {A : FA} {pos p apos : Pos} {k : Nat} {f : Addr} {G : DFn} {x m y n : Str} {ta tb : TE} {tA : TA} {C : Addr} {st : Stmt}
theorem de_dead : DE X Wx P I e (fun _ _ _ => False) fDead J := de_of ⟨fun _ _ _ _ _ _ h => h.elim⟩ fun _ _ _ _ _ _ _ _ _ f => f.elim
theorem ds_dead : DS X Wx P L I st fDeadS J := ⟨_, ⟨fun _ _ _ _ _ _ h => (show False from h).elim⟩, fun _ _ _ _ _ _ _ _ f => (show False from f).elim⟩
/-- the constant of a class -/
theorem de_ccon {i : Int} {mc u : Value} (hm : X.mg x = some (.ref C)) (cr : CRead X.K C mc) (cv : CVal X.K C mc m (.int i) u) (hg : Gl X x := by rfl) (hdb : (x == ("__debug__" : Str)) = false := by decide) (hab : attributeBase (.Name x p) m X.env (eval (.Name x p) X.env) = eval (.Name x p) X.env := by rfl) :
    DE X Wx P I (.Attribute (.Name x p) m pos) (tCVal X.K (tC (.ref C)) m) (fC (.int i)) I :=
  de_of (pe_cval (pe_glob hg hm rfl hdb) hab) fun W ρ σ Hb H Q post xp E f _ q => ⟨C, mc, .int i, u, rfl, cr, cv, q _ _ _ _ _ f E (Sub.refl _) (.int i)⟩
end
section
variable {X : Cx} {k : Nat} {C f : Addr} {sp : Sp} {E : St → XK} {x : Str} {e : Expr} {p pos sp_ : Pos} {te : TE}
def tStar1 (K : PySem.W.Frag) (te : TE) : TA := fun σ H Q => te σ H fun y H1 => ∃ a xs, y = V.ref a ∧ (SqT K H1 a xs ∨ SqL K H1 a xs) ∧ Q xs H1
theorem pe_makeGS1 (M : Mk X.K C f) (F : FnG X.prog X.w X.K X.mg X.base k f sp) (hr : Room (k + 1) X.A) (hgu : X.A.guards = some []) (hg : Gl X x) (hm : X.mg x = some (.ref C)) (hx : ∀ σ, PassesAt (L2.CX X.prog X.w) X σ (E σ)) (he : PE X e te)
    (hdb : (x == ("__debug__" : Str)) = false := by decide) (hst : starEach [.Starred e sp_] X.env = [(true, eval e X.env)] := by rfl) :
    PE X (.Call (.Name x p) [.Starred e sp_] [] pos) (tMakeG C sp E (tStar1 X.K te)) := ⟨fun pins s σ H Q I h =>
  wpAny_Call_Name_kw (ld_glob I hg hm (PySem.W.callWith_S (h₀ := X.base) I.ok.mod.kin M.kp (thn (he.run pins s σ H _ I h) fun v s1 ⟨y, H1, I1, ry, a, xs, ey, hxs, q⟩ => by
    subst ey
    obtain rfl : v = Value.ref a := ry
    exact StX.star_any I1 hxs fun us s2 I2 rv => ⟨I2.kIn, run_makeG M F hr hgu hx I2 rv q⟩) hst) hdb)⟩
end
def fStar (F : FE) : FA := fun ρ post xp => F ρ (fun d ρ1 => ∃ es, (tupD d = some es ∨ lstD d = some es) ∧ post es ρ1) xp
section
variable {X : Cx} {Wx : WX} {P L I J J1 J2 : List Nat} {e a b : Expr} {es : List Expr} {F Fa Fb : FE} {A : FA} {pos p apos sp_ : Pos} {k : Nat} {f : Addr} {G : DFn} {x m y n : Str} {ta tb te : TE} {tA : TA} {C : Addr} {st : Stmt}
/-- C(*xs) -/
theorem dn_makeSS {fi : Addr} (M : Mk X.K C fi) (hc : IsCl X.K n C) (Fn : FnG X.prog X.w X.K X.mg X.base k fi (spStar 1 (spD X.K 2 [0] G))) (hr : Room (k + 1) X.A) (hgu : X.A.guards = some []) (hm : X.mg y = some (.ref C)) (tk : Takes X Wx) (ha : DE X Wx P I e te F J)
    (hPJ : ∀ j ∈ J, j ∉ P := by decide) (hg : Gl X y := by rfl) (hdb : (y == ("__debug__" : Str)) = false := by decide) (hst : starEach [.Starred e sp_] X.env = [(true, eval e X.env)] := by rfl) :
    DNw X Wx P I (.Call (.Name y p) [.Starred e sp_] [] pos) (tMakeG C (spStar 1 (spD X.K 2 [0] G)) (WE Wx) (tStar1 X.K te)) (fMakeS n G (fStar F)) J :=
  ⟨pe_makeGS1 M Fn hr hgu hg hm (fun σ => passAt tk σ) ha.pe hdb hst, makeS_core hc hPJ fun W ρ σ Hb H Q post xp E f x q => ha.ev W ρ σ Hb H _ _ xp E f x fun d ρ1 v Hb1 H1 f1 E1 s1 i1 => by
    obtain ⟨xs, hxs, f1⟩ := f1
    have i2 : IsO X.K Hb1 H1 v d := .inl i1
    obtain ⟨a, vs, e1, h1, l1⟩ := o_seqD E1.sub i2 hxs
    exact ⟨a, vs, e1, h1.symm, q _ _ _ _ _ f1 E1 s1 l1⟩⟩
end
/-! ### tuple > tuple -/
def rGtT (K : PySem.W.Frag) : R2 := fun x y H Q => ∃ (a b : Addr) (ns ms : List Int), x = .ref a ∧ y = .ref b ∧ SqT K H a (ns.map V.int) ∧ SqT K H b (ms.map V.int) ∧
  Q (.bl (Ob.lexAt (fun j => decide (ns.getD j 0 = ms.getD j 0)) (fun j => decide (ms.getD j 0 < ns.getD j 0)) (decide (ns.length > ms.length)) 0 (min ns.length ms.length))) H
theorem op_gtT {X : Cx} (hu : X.A.units < cLine) : OpR X (compareOp .Gt) (rGtT X.K) := by
  intro pins s σ H x y v u Q I rx ry h
  obtain ⟨a, b, ns, ms, rfl, rfl, ha, hb, q⟩ := h
  cases rx
  cases ry
  obtain ⟨its, r1, p1, _⟩ := I.tuple ha
  obtain ⟨its2, r2, p2, _⟩ := I.tuple hb
  have i1 : IntsAre its ns := Vals.ints r1
  have i2 : IntsAre its2 ms := Vals.ints r2
  have e1 : its.toArray.size = ns.length := by rw [List.size_toArray]; exact i1.length
  have e2 : its2.toArray.size = ms.length := by rw [List.size_toArray]; exact i2.length
  have at1 : ∀ j (h1 : j < its.toArray.size), ∃ t, its.toArray[j] = .int (ns.getD j 0) t := fun j h1 => PyProof.Rows.IntsAre.int_at i1 _ _ (by simp at h1; simp [h1])
  have at2 : ∀ j (h1 : j < its2.toArray.size), ∃ t, its2.toArray[j] = .int (ms.getD j 0) t := fun j h1 => PyProof.Rows.IntsAre.int_at i2 _ _ (by simp at h1; simp [h1])
  have R := Ob.RcOp.tuples_gt (A := X.A) (s := s) (e := fun j => decide (ns.getD j 0 = ms.getD j 0)) (r := fun j => decide (ms.getD j 0 < ns.getD j 0)) p1 p2 hu (fun j h1 h2 => by
    obtain ⟨t, et⟩ := at1 j h1
    obtain ⟨t', et'⟩ := at2 j h2
    rw [et, et']
    have z : (ns.getD j 0 == ms.getD j 0) = decide (ns.getD j 0 = ms.getD j 0) := by
      by_cases q : ns.getD j 0 = ms.getD j 0
      · rw [decide_eq_true q]; exact beq_iff_eq.mpr q
      · rw [decide_eq_false q]; exact beq_eq_false_iff_ne.mpr q
    rw [← z]
    exact SeqAt.EqAt.int_int _ _ _ _) (fun j h1 h2 _ => by
    obtain ⟨t, et⟩ := at1 j h1
    obtain ⟨t', et'⟩ := at2 j h2
    rw [et, et']
    exact Ob.RcOp.gt_int _ _ _ _)
  rw [e1, e2] at R
  have z : wpAny (model X.prog X.w) X.A (compareOp .Gt (.ref a) (.ref b)) (EP X pins σ Q) X.xe s := R X.prog X.w X.xe (EP X pins σ Q) ⟨.bl _, H, I, rfl, q⟩
  exact z
abbrev rGtU (K : PySem.W.Frag) : R2 := fun x y H Q => (rI0 fun i j => .bl (decide (j < i))) x y H Q ∨ rGtT K x y H Q
theorem op_gtU {X : Cx} (hu : X.A.units < cLine) : OpR X (compareOp .Gt) (rGtU X.K) := op_gt.or (op_gtT hu)
def gGtU : G2
  | .int i, .int j, k => k (.bl (decide (j < i)))
  | x, y, k => ∃ a b ns ms, tupD x = some a ∧ tupD y = some b ∧ dInts a = some ns ∧ dInts b = some ms ∧ k (.bl (Ob.lexAt (fun j => decide (ns.getD j 0 = ms.getD j 0)) (fun j => decide (ms.getD j 0 < ns.getD j 0)) (decide (ns.length > ms.length)) 0 (min ns.length ms.length)))
@[simp ↓] theorem gGtU_int (i j : Int) (k) : gGtU (.int i) (.int j) k = k (.bl (decide (j < i))) := (rfl)
theorem rv_gtU {K : PySem.W.Frag} : RV2 K (rGtU K) gGtU := fun Hb H x y dx dy k Q s ix iy g q => by
  unfold gGtU at g
  split at g
  · exact .inl ⟨_, _, o_int ix, o_int iy, q _ _ _ _ g .refl (.bl _)⟩
  · obtain ⟨a, b, ns, ms, e1, e2, e3, e4, g⟩ := g
    obtain ⟨p, h1, h2⟩ := tups_ints s ix e1 e3
    obtain ⟨p', h3, h4⟩ := tups_ints s iy e2 e4
    exact .inr ⟨p, p', ns, ms, h1, h3, h2, h4, q _ _ _ _ g .refl (.bl _)⟩
@[simp ↓] theorem gEqU_tup0 (a : List D) (k) : gEqU (.tup a) (.tup []) k = k (.bl (decide (a = []))) := by
  have e : empty2 (.tup a) (.tup []) = some (decide (a = [])) := by simp [empty2, List.length_eq_zero_iff]
  show (match empty2 (.tup a) (.tup []) with | some b => k (.bl b) | none => _) = _
  rw [e]
@[simp ↓] theorem gNeU_tup0 (a : List D) (k) : gNeU (.tup a) (.tup []) k = k (.bl (!decide (a = []))) := by
  have e : empty2 (.tup a) (.tup []) = some (decide (a = [])) := by simp [empty2, List.length_eq_zero_iff]
  show (match empty2 (.tup a) (.tup []) with | some b => k (.bl (!b)) | none => _) = _
  rw [e]
theorem gList_tup (a : List D) (k : D → Prop) (h : k (.lst a)) : gList [.tup a] k := ⟨_, _, rfl, .inl rfl, h⟩
theorem gList_lst (a : List D) (k : D → Prop) (h : k (.lst a)) : gList [.lst a] k := ⟨_, _, rfl, .inr rfl, h⟩
theorem gList_slst (a : List D) (k : D → Prop) (h : k (.lst a)) : gList [.slst a] k := ⟨_, _, rfl, .inr rfl, h⟩
end DL

/-! DG6: == and != by an own __eq__, either side. -/
namespace DE6
open PySem PySem.Spec PyProof.Rows PySem.SeqAt
section
variable {prog : Program} {w : World} {A : Around} {E : Value → Shared → Prop} {s : Shared} {K : PySem.W.Frag} {x C f : Addr} {ox : Obj} {od : Option Obj} {b tb : Value}
theorem ifBound_ne {M : Model} {args : List Value} {Q : Option Value → Shared → Prop} (X : K.In s.heap) (I : PySem.W.InstAt s.heap x ox C od) (hs : PySem.W.findIn K (.ref C) "__ne__" = some (some (.builtin "object.__ne__")))
    (h : wpAny M A (call (.builtin "object.__ne__") (.ref x :: args)) (fun v => Q (some v)) E s) : wpAny M A (callSpecialIfBound? (.ref x) "__ne__" args) Q E s := by
  simp only [callSpecialIfBound?, bindSpecialIfBound?]
  refine wpAny_holding (wpAny_bind (wpAny_bind (wpAny_bind (I.type.here ((PySem.W.looks_findIn X hs).here ?_)))))
  refine wpAny_bind (wpAny_askSetting (wpAny_ite ?_))
  have fin : wpAny M A (call (.builtin "object.__ne__") ([.ref x] ++ args) >>= fun v => pure (some v)) Q E s := wpAny_bind (wpAny_mono h (fun v s' h' => wpAny_pure h') fun _ _ h' => h')
  split
  · exact wpAny_bind (wpAny_of_eq (F.cmp_object.ne.bind _) (wpAny_pure (by exact fin)))
  · exact wpAny_tryCatch (wpAny_bind (wpAny_of_eq (F.cmp_object.ne.bind _) (wpAny_pure (by exact fin))))
theorem special_eqK {M : Model} {Q : Option Value → Shared → Prop} (X : K.In s.heap) (I : PySem.W.InstAt s.heap x ox C od) (hs : PySem.W.findIn K (.ref C) "__eq__" = some (some (.ref f))) (hf : PySem.W.isFn K (.ref f) = true)
    (h : wpAny M A (call (.ref f) [.ref x, b]) (fun v => Q (some v)) E s) : wpAny M A (callSpecialIfBound? (.ref x) "__eq__" [b]) Q E s := PySem.W.ifBound_K X I hs hf h
theorem entry_ne {Q : Fin → Shared → Prop} (X : K.In s.heap) (I : PySem.W.InstAt s.heap x ox C od) (hu : A.units < cLine) (hs : PySem.W.findIn K (.ref C) "__eq__" = some (some (.ref f))) (hf : PySem.W.isFn K (.ref f) = true)
    (h : wpAny (model prog w) A (call (.ref f) [.ref x, b]) (fun v s' => ∃ c : Bool, v = .bool c ∧ Q (.done (.ret (.bool (!c)))) s') E s) : wpAny (model prog w) A (Builtin.«object.__ne__» ⟨[.ref x, b], []⟩) Q E s := by
  unfold Builtin.«object.__ne__»
  repeat (first | with_reducible refine wpAny_cRoomFor hu ?_ | with_reducible refine special_eqK X I hs hf ?_ | with_reducible refine wpAny_mono h ?_ fun _ _ e => e | wp_step)
  rintro v s' ⟨c, rfl, q⟩
  exact wpAny_bind (wpAny_truthy_bool (wpAny_pure q))
theorem call_ne {Q : Value → Shared → Prop} (X : K.In s.heap) (I : PySem.W.InstAt s.heap x ox C od) (hm : PySem.W.mroIn K C (.type "object") = some true) (hu : A.units + 1 < cLine) (hs : PySem.W.findIn K (.ref C) "__eq__" = some (some (.ref f))) (hf : PySem.W.isFn K (.ref f) = true)
    (h : wpAny (model prog w) A.in1 (call (.ref f) [.ref x, b]) (fun v s' => ∃ c : Bool, v = .bool c ∧ Q (.bool (!c)) s') E s) : wpAny (model prog w) A (call (.builtin "object.__ne__") [.ref x, b]) Q E s :=
  wpAny_call (codeAny_call_builtin F.cmp_object.ne.plain F.cmpEntry_ne (PySem.W.check_slot F.cmpKind_ne F.cmpSplit_ne (I.type.andThen (PySem.W.looks_mroIn X hm)) (F.cmpArgs_ne _ _) (entry_ne X I hu hs hf h)))
theorem cmp_ne {Q : Value → Shared → Prop} (hu : A.units + 1 < cLine) (X : K.In s.heap) (I : PySem.W.InstAt s.heap x ox C od) (hb : PySem.W.Looks (model prog w) s.heap (typeOf b) tb) (hn : PySem.W.notFirst K C tb = true)
    (hm : PySem.W.mroIn K C (.type "object") = some true) (hne : PySem.W.findIn K (.ref C) "__ne__" = some (some (.builtin "object.__ne__"))) (hs : PySem.W.findIn K (.ref C) "__eq__" = some (some (.ref f))) (hf : PySem.W.isFn K (.ref f) = true)
    (h : wpAny (model prog w) A.in1 (call (.ref f) [.ref x, b]) (fun v s' => ∃ c : Bool, v = .bool c ∧ Q (.bool (!c)) s') E s) : wpAny (model prog w) A (richCompare .NotEq (.ref x) b) Q E s := by
  have one : wpAny (model prog w) A (tryCompare (.ref x) "__ne__" b) (fun r s' => ∃ c : Bool, r = some (.bool c) ∧ Q (.bool c) s') E s := by
    unfold tryCompare
    refine wpAny_bind (ifBound_ne X I hne (call_ne X I hm hu hs hf (wpAny_mono h (fun v s' hv => ?_) fun _ _ e => e)))
    obtain ⟨c, rfl, q⟩ := hv
    exact ⟨c, rfl, wpAny_pure ⟨_, rfl, q⟩⟩
  unfold richCompare
  simp only [oneThing_ref]
  refine wpAny_holding (wpAny_bind (wpAny_cRoomFor (by omega) ?_))
  refine wpAny_bind (I.type.here (wpAny_bind (hb.here ?_)))
  split
  · rename_i q
    have e : PySem.W.subIn K tb (.ref C) = some false := by
      rcases Bool.or_eq_true_iff.mp hn with e | e
      · rw [beq_iff_eq.mp e] at q; simp at q
      · exact beq_iff_eq.mp e
    refine wpAny_bind ((PySem.W.looks_subIn X e).here ?_)
    simp only [Bool.false_eq_true, if_false]
    refine wpAny_bind (wpAny_mono one (fun r s' z => ?_) fun _ _ e => e)
    obtain ⟨v, rfl, hq⟩ := z
    exact wpAny_pure hq
  · refine wpAny_bind (wpAny_pure ?_)
    simp only [Bool.false_eq_true, if_false]
    refine wpAny_bind (wpAny_mono one (fun r s' z => ?_) fun _ _ e => e)
    obtain ⟨v, rfl, hq⟩ := z
    exact wpAny_pure hq
/-- v declines to compare with the instance x -/
def Declines (s : Shared) (x : Addr) (v : Value) (nm : Str) : Prop := ∀ (prog : Program) (w : World) (A : Around) (E : Value → Shared → Prop) (Q : Option Value → Shared → Prop), Q none s → wpAny (model prog w) A (tryCompare v nm (.ref x)) Q E s
theorem dec_none_eq : Declines s x .none "__eq__" := fun prog w A E Q q =>
  wpAny_tryCompare_declines (show s.TypeIs .none "NoneType" from rfl) F.slot_NoneType_eq (call_gives F.slot_NoneType_eq rfl F.entry_NoneType_eq (F.args_NoneType_eq_2 _ _) (NoneType___eq___none_ref_0 x) ⟨rfl, q⟩)
theorem dec_none_ne : Declines s x .none "__ne__" := fun prog w A E Q q =>
  wpAny_tryCompare_declines (show s.TypeIs .none "NoneType" from rfl) F.slot_NoneType_ne (call_gives F.slot_NoneType_ne rfl F.entry_NoneType_ne (F.args_NoneType_ne_2 _ _) (NoneType___ne___none_ref_0 x) ⟨rfl, q⟩)
theorem isInst_no {M : Model} {T : String} {Q : Bool → Shared → Prop} (X : K.In s.heap) (I : PySem.W.InstAt s.heap x ox C od) (hm : PySem.W.mroIn K C (.type T) = some false) (q : Q false s) : wpAny M A (isInstance (.ref x) (.type T)) Q E s :=
  by
  show wpAny M A (typeOf (.ref x) >>= fun t => isSubtype t (.type T)) Q E s
  exact (PySem.W.Looks.andThen (f := fun t => isSubtype t (.type T)) I.type (PySem.W.looks_mroIn X hm)).here q
theorem tup_eq_no {M : Model} {l : Value} {Q : Fin → Shared → Prop} (X : K.In s.heap) (I : PySem.W.InstAt s.heap x ox C od) (hm : PySem.W.mroIn K C (.type "tuple") = some false) (q : Q (.done (.ret .notImplemented)) s) : wpAny M A (Builtin.«tuple.__eq__» ⟨[l, .ref x], []⟩) Q E s := by
  unfold Builtin.«tuple.__eq__»
  repeat (first | with_reducible refine isInst_no X I hm ?_ | wp_step)
  exact q
theorem tup_ne_no {M : Model} {l : Value} {Q : Fin → Shared → Prop} (X : K.In s.heap) (I : PySem.W.InstAt s.heap x ox C od) (hm : PySem.W.mroIn K C (.type "tuple") = some false) (q : Q (.done (.ret .notImplemented)) s) : wpAny M A (Builtin.«tuple.__ne__» ⟨[l, .ref x], []⟩) Q E s := by
  unfold Builtin.«tuple.__ne__»
  repeat (first | with_reducible refine isInst_no X I hm ?_ | wp_step)
  exact q
theorem int_eq_no {M : Model} {i : Int} {t : Tok} {dx : Addr} {Q : Fin → Shared → Prop} (hx : s.heap.get? x = some (PySem.W.instObj C dx)) (q : Q (.done (.ret .notImplemented)) s) : wpAny M A (Builtin.«int.__eq__» ⟨[.int i t, .ref x], []⟩) Q E s := by
  unfold Builtin.«int.__eq__»
  repeat (first | with_reducible refine wpAny_load hx ?_ | wp_step)
  exact q
theorem int_ne_no {M : Model} {i : Int} {t : Tok} {dx : Addr} {Q : Fin → Shared → Prop} (hx : s.heap.get? x = some (PySem.W.instObj C dx)) (q : Q (.done (.ret .notImplemented)) s) : wpAny M A (Builtin.«int.__ne__» ⟨[.int i t, .ref x], []⟩) Q E s := by
  unfold Builtin.«int.__ne__»
  repeat (first | with_reducible refine wpAny_load hx ?_ | wp_step)
  exact q
theorem dec_tup_eq {l : Addr} (X : K.In s.heap) (I : PySem.W.InstAt s.heap x ox C od) (hm : PySem.W.mroIn K C (.type "tuple") = some false) (ht : s.TypeIs (.ref l) "tuple") : Declines s x (.ref l) "__eq__" := fun prog w A E Q q =>
  wpAny_tryCompare_declines ht F.slot_tuple_eq (GQ.call_here F.slot_tuple_eq ht F.entry_tuple_eq (F.args_tuple_eq_2 _ _) (tup_eq_no X I hm ⟨rfl, q⟩))
theorem dec_tup_ne {l : Addr} (X : K.In s.heap) (I : PySem.W.InstAt s.heap x ox C od) (hm : PySem.W.mroIn K C (.type "tuple") = some false) (ht : s.TypeIs (.ref l) "tuple") : Declines s x (.ref l) "__ne__" := fun prog w A E Q q =>
  wpAny_tryCompare_declines ht F.slot_tuple_ne (GQ.call_here F.slot_tuple_ne ht F.entry_tuple_ne (F.args_tuple_ne_2 _ _) (tup_ne_no X I hm ⟨rfl, q⟩))
theorem dec_int_eq {i : Int} {t : Tok} {dx : Addr} (hx : s.heap.get? x = some (PySem.W.instObj C dx)) : Declines s x (.int i t) "__eq__" := fun prog w A E Q q =>
  wpAny_tryCompare_declines (show s.TypeIs (.int i t) "int" from rfl) F.slot_int_eq (GQ.call_here F.slot_int_eq rfl F.entry_int_eq (F.args_int_eq_2 _ _) (int_eq_no hx ⟨rfl, q⟩))
theorem dec_int_ne {i : Int} {t : Tok} {dx : Addr} (hx : s.heap.get? x = some (PySem.W.instObj C dx)) : Declines s x (.int i t) "__ne__" := fun prog w A E Q q =>
  wpAny_tryCompare_declines (show s.TypeIs (.int i t) "int" from rfl) F.slot_int_ne (GQ.call_here F.slot_int_ne rfl F.entry_int_ne (F.args_int_ne_2 _ _) (int_ne_no hx ⟨rfl, q⟩))
/-- v == x, v declines -/
theorem cmp_reflEq {v : Value} {T : String} {Q : Value → Shared → Prop} (hu : A.units < cLine) (X : K.In s.heap) (I : PySem.W.InstAt s.heap x ox C od) (ho : oneThing? .Eq v (.ref x) = none) (hT : s.TypeIs v T) (hm : PySem.W.mroIn K C (.type T) = some false)
    (hd : Declines s x v "__eq__") (hs : PySem.W.findIn K (.ref C) "__eq__" = some (some (.ref f))) (hf : PySem.W.isFn K (.ref f) = true)
    (h : wpAny (model prog w) A (call (.ref f) [.ref x, v]) (PySem.W.CmpBack Q) E s) : wpAny (model prog w) A (richCompare .Eq v (.ref x)) Q E s := by
  have one : wpAny (model prog w) A (tryCompare (.ref x) "__eq__" v) (fun r s' => ∃ v, r = some v ∧ Q v s') E s := by
    unfold tryCompare
    refine wpAny_bind (PySem.W.ifBound_K X I hs hf (wpAny_mono h (fun v s' hv => ?_) fun _ _ e => e))
    cases v <;> first | exact hv.elim | exact wpAny_pure ⟨_, rfl, hv⟩
  unfold richCompare
  simp only [ho]
  refine wpAny_holding (wpAny_bind (wpAny_cRoomFor hu ?_))
  refine wpAny_bind (wpAny_typeOf hT (wpAny_bind (I.type.here ?_)))
  split
  · refine wpAny_bind ((PySem.W.looks_mroIn X hm).here ?_)
    simp only [Bool.false_eq_true, if_false, Bool.not_false, if_true]
    refine wpAny_bind (hd prog w A E _ ?_)
    refine wpAny_bind (wpAny_mono one (fun r s' z => ?_) fun _ _ e => e)
    obtain ⟨v, rfl, hq⟩ := z
    exact wpAny_pure hq
  · rename_i q
    exact absurd (by simp) q
theorem cmp_reflNe {v : Value} {T : String} {Q : Value → Shared → Prop} (hu : A.units + 1 < cLine) (X : K.In s.heap) (I : PySem.W.InstAt s.heap x ox C od) (ho : oneThing? .NotEq v (.ref x) = none) (hT : s.TypeIs v T) (hm : PySem.W.mroIn K C (.type T) = some false)
    (hd : Declines s x v "__ne__") (hmo : PySem.W.mroIn K C (.type "object") = some true) (hne : PySem.W.findIn K (.ref C) "__ne__" = some (some (.builtin "object.__ne__"))) (hs : PySem.W.findIn K (.ref C) "__eq__" = some (some (.ref f))) (hf : PySem.W.isFn K (.ref f) = true)
    (h : wpAny (model prog w) A.in1 (call (.ref f) [.ref x, v]) (fun v s' => ∃ c : Bool, v = .bool c ∧ Q (.bool (!c)) s') E s) : wpAny (model prog w) A (richCompare .NotEq v (.ref x)) Q E s := by
  have one : wpAny (model prog w) A (tryCompare (.ref x) "__ne__" v) (fun r s' => ∃ c : Bool, r = some (.bool c) ∧ Q (.bool c) s') E s := by
    unfold tryCompare
    refine wpAny_bind (ifBound_ne X I hne (call_ne X I hmo hu hs hf (wpAny_mono h (fun v s' hv => ?_) fun _ _ e => e)))
    obtain ⟨c, rfl, q⟩ := hv
    exact ⟨c, rfl, wpAny_pure ⟨_, rfl, q⟩⟩
  unfold richCompare
  simp only [ho]
  refine wpAny_holding (wpAny_bind (wpAny_cRoomFor (by omega) ?_))
  refine wpAny_bind (wpAny_typeOf hT (wpAny_bind (I.type.here ?_)))
  split
  · refine wpAny_bind ((PySem.W.looks_mroIn X hm).here ?_)
    simp only [Bool.false_eq_true, if_false, Bool.not_false, if_true]
    refine wpAny_bind (hd prog w A E _ ?_)
    refine wpAny_bind (wpAny_mono one (fun r s' z => ?_) fun _ _ e => e)
    obtain ⟨v, rfl, hq⟩ := z
    exact wpAny_pure hq
  · rename_i q
    exact absurd (by simp) q
end
end DE6
namespace DL
open PySem L2
open PyProof.Rows hiding St
structure EqFacts (K : PySem.W.Frag) (C f : Addr) : Prop where
  eq : PySem.W.findIn K (.ref C) "__eq__" = some (some (.ref f))
  fn : PySem.W.isFn K (.ref f) = true
  ne : PySem.W.findIn K (.ref C) "__ne__" = some (some (.builtin "object.__ne__"))
  mo : PySem.W.mroIn K C (.type "object") = some true
  mN : PySem.W.mroIn K C (.type "NoneType") = some false
  mI : PySem.W.mroIn K C (.type "int") = some false
  mT : PySem.W.mroIn K C (.type "tuple") = some false
theorem nf_none {K : PySem.W.Frag} {C : Addr} : PySem.W.notFirst K C (.type "NoneType") = true := by
  have e : PySem.W.subIn K (.type "NoneType") (.ref C) = some false := HN.sub_none
  unfold PySem.W.notFirst
  rw [e]; simp
theorem nf_int {K : PySem.W.Frag} {C : Addr} : PySem.W.notFirst K C (.type "int") = true := by
  have e0 : fastBuiltinMro "int" = some [.type "int", .type "object"] := by decide +kernel
  have e : PySem.W.subIn K (.type "int") (.ref C) = some false := by
    show (fastBuiltinMro "int").map (·.contains (.ref C)) = some false
    rw [e0]
    first | rfl | simp
  unfold PySem.W.notFirst
  rw [e]; simp
theorem nf_tup {K : PySem.W.Frag} {C : Addr} : PySem.W.notFirst K C (.type "tuple") = true := by
  have e0 : fastBuiltinMro "tuple" = some [.type "tuple", .type "object"] := by decide +kernel
  have e : PySem.W.subIn K (.type "tuple") (.ref C) = some false := by
    show (fastBuiltinMro "tuple").map (·.contains (.ref C)) = some false
    rw [e0]
    first | rfl | simp
  unfold PySem.W.notFirst
  rw [e]; simp
theorem looks_ty {M : Model} {s : Shared} {v : Value} {T : String} (h : ∀ s' : Shared, (∀ b o, s.heap.get? b = some o → s'.heap.get? b = some o) → s'.TypeIs v T) : PySem.W.Looks M s.heap (typeOf v) (.type T) := fun A Q E s' k q => wpAny_typeOf (h s' k) q
/-- beside an own ==: None, an int, a tuple -/
def Plain3 (H : Hp) (y : V) : Prop := y = .non ∨ (∃ i, y = .int i) ∨ ∃ b vs, y = .ref b ∧ H b = some (.tup vs)
def rEqOwn (C : Addr) (sp : Sp) (neg : Bool) : R2 := fun x y H Q =>
  (∃ a dx fs, x = .ref a ∧ H a = some (.ins C dx fs) ∧ (Plain3 H y ∨ ∃ b dy gs, y = .ref b ∧ H b = some (.ins C dy gs)) ∧ sp [x, y] H (fun z H2 => ∃ b, z = .bl b ∧ Q (.bl (neg != b)) H2) fun _ _ _ => False) ∨
  (∃ a dx fs, y = .ref a ∧ H a = some (.ins C dx fs) ∧ Plain3 H x ∧ sp [y, x] H (fun z H2 => ∃ b, z = .bl b ∧ Q (.bl (neg != b)) H2) fun _ _ _ => False)
section
variable {X : Cx} {k : Nat} {C f : Addr} {sp : Sp}
theorem typeis_keep {s s' : Shared} {a : Addr} {T : String} (k : ∀ b o, s.heap.get? b = some o → s'.heap.get? b = some o) (h : s.TypeIs (.ref a) T) : s'.TypeIs (.ref a) T := by
  obtain ⟨o, h1, h2⟩ := h
  exact ⟨o, k _ _ h1, h2⟩
theorem own_call (F : FnG X.prog X.w X.K X.mg X.base k f sp) (hr : Room k X.A) (hgu : X.A.guards = some []) {pins : List (Addr × Obj)} {s : Shared} {σ : St} {H : Hp} {x y : V} {u v : Value} {Q : VK} {neg : Bool} (I : Inv X pins σ H s) (rx : RelV x u) (ry : RelV y v)
    (hs : sp [x, y] H (fun z H2 => ∃ b, z = .bl b ∧ Q (.bl (neg != b)) H2) fun _ _ _ => False) :
    wpAny (model X.prog X.w) X.A (call (.ref f) [u, v]) (fun r s' => ∃ c : Bool, r = .bool c ∧ EP X pins σ Q (.bool (neg != c)) s') X.xe s := by
  refine wpAny_call (codeAny_mono (F X.A X.stack s H [u, v] [x, y] _ _ hr hgu I.env0 (.cons rx (.cons ry .nil)) hs) fun res s2 q => ?_)
  cases res with
  | error er => exact (cx_no q).elim
  | ok fl =>
    cases fl with
    | ret u =>
      obtain ⟨z, H3, I3, rz, b, ez, q3⟩ := I.after q
      subst ez
      have ez : u = Value.bool b := rz
      subst ez
      exact ⟨b, rfl, .bl _, H3, I3, rfl, q3⟩
    | next => exact q.elim
    | brk => exact q.elim
    | cont => exact q.elim
theorem own_call1 (F : FnG X.prog X.w X.K X.mg X.base k f sp) (hr : Room (k + 1) X.A) (hgu : X.A.guards = some []) {pins : List (Addr × Obj)} {s : Shared} {σ : St} {H : Hp} {x y : V} {u v : Value} {Q : VK} {neg : Bool} (I : Inv X pins σ H s) (rx : RelV x u) (ry : RelV y v)
    (hs : sp [x, y] H (fun z H2 => ∃ b, z = .bl b ∧ Q (.bl (neg != b)) H2) fun _ _ _ => False) :
    wpAny (model X.prog X.w) X.A.in1 (call (.ref f) [u, v]) (fun r s' => ∃ c : Bool, r = .bool c ∧ EP X pins σ Q (.bool (neg != c)) s') X.xe s := by
  refine wpAny_call (codeAny_mono (F X.A.in1 X.stack s H [u, v] [x, y] _ _ hr.in1 hgu I.env0.in1 (.cons rx (.cons ry .nil)) hs) fun res s2 q => ?_)
  cases res with
  | error er => exact (cx_no q).elim
  | ok fl =>
    cases fl with
    | ret u =>
      obtain ⟨z, H3, I3, rz, b, ez, q3⟩ := I.after q
      subst ez
      have ez : u = Value.bool b := rz
      subst ez
      exact ⟨b, rfl, .bl _, H3, I3, rfl, q3⟩
    | next => exact q.elim
    | brk => exact q.elim
    | cont => exact q.elim
theorem tup_ty {pins : List (Addr × Obj)} {s : Shared} {σ : St} {H : Hp} {b : Addr} {vs : List V} (I : Inv X pins σ H s) (h : H b = some (.tup vs)) : s.TypeIs (.ref b) "tuple" := by
  obtain ⟨its, r1, p1, _⟩ := I.tuple (a := b) (xs := vs) (.inl (.inl h))
  obtain ⟨o, h1, h2, _⟩ := p1
  exact ⟨o, h1, h2⟩
/-- what stands right of an own == -/
theorem right_ty {pins : List (Addr × Obj)} {s : Shared} {σ : St} {H : Hp} {y : V} {v : Value} (I : Inv X pins σ H s) (ry : RelV y v) (h : Plain3 H y ∨ ∃ b dy gs, y = .ref b ∧ H b = some (.ins C dy gs)) :
    ∃ tb, PySem.W.Looks (model X.prog X.w) s.heap (typeOf v) tb ∧ PySem.W.notFirst X.K C tb = true := by
  rcases h with (rfl | ⟨i, rfl⟩ | ⟨b, vs, rfl, hb⟩) | ⟨b, dy, gs, rfl, hb⟩
  · obtain rfl : v = Value.none := ry
    exact ⟨_, looks_ty (T := "NoneType") fun _ _ => rfl, nf_none⟩
  · obtain ⟨t, rfl⟩ : ∃ t, v = Value.int i t := ry
    exact ⟨_, looks_ty (T := "int") fun _ _ => rfl, nf_int⟩
  · obtain rfl : v = Value.ref b := ry
    exact ⟨_, looks_ty (T := "tuple") fun s' k => typeis_keep k (tup_ty I hb), nf_tup⟩
  · obtain rfl : v = Value.ref b := ry
    obtain ⟨mA, O, _⟩ := ins_get I.hok hb
    obtain ⟨od, J, _⟩ := O.look
    exact ⟨_, J.type, by simp [PySem.W.notFirst]⟩
/-- what stands left of it -/
theorem left_ty {pins : List (Addr × Obj)} {s : Shared} {σ : St} {H : Hp} {y : V} {v : Value} {x : Addr} {ox : Obj} {od : Option Obj} {dx : Addr} (I : Inv X pins σ H s) (e : EqFacts X.K C f) (J : PySem.W.InstAt s.heap x ox C od) (hx : s.heap.get? x = some (PySem.W.instObj C dx)) (ry : RelV y v) (h : Plain3 H y) :
    ∃ T : String, s.TypeIs v T ∧ PySem.W.mroIn X.K C (.type T) = some false ∧ DE6.Declines s x v "__eq__" ∧ DE6.Declines s x v "__ne__" ∧ oneThing? .Eq v (.ref x) = none ∧ oneThing? .NotEq v (.ref x) = none := by
  rcases h with rfl | ⟨i, rfl⟩ | ⟨b, vs, rfl, hb⟩
  · obtain rfl : v = Value.none := ry
    exact ⟨"NoneType", rfl, e.mN, DE6.dec_none_eq, DE6.dec_none_ne, rfl, rfl⟩
  · obtain ⟨t, rfl⟩ : ∃ t, v = Value.int i t := ry
    exact ⟨"int", rfl, e.mI, DE6.dec_int_eq hx, DE6.dec_int_ne hx, rfl, rfl⟩
  · obtain rfl : v = Value.ref b := ry
    exact ⟨"tuple", tup_ty I hb, e.mT, DE6.dec_tup_eq I.kIn J e.mT (tup_ty I hb), DE6.dec_tup_ne I.kIn J e.mT (tup_ty I hb), rfl, rfl⟩
theorem op_eqOwn (e : EqFacts X.K C f) (F : FnG X.prog X.w X.K X.mg X.base k f sp) (hr : Room (k + 1) X.A) (hgu : X.A.guards = some []) : OpR X (compareOp .Eq) (rEqOwn C sp false) := by
  intro pins s σ H x y v u Q I rx ry h
  have hu1 := hu_of hr
  rcases h with ⟨a, dx, fs, rfl, ha, hy, hs⟩ | ⟨a, dx, fs, rfl, ha, hy, hs⟩
  · obtain rfl : v = Value.ref a := rx
    obtain ⟨mA, O, _⟩ := ins_get I.hok ha
    obtain ⟨od, J, _⟩ := O.look
    obtain ⟨m, fr⟩ := I.fr
    obtain ⟨tb, lk, nf⟩ := right_ty I ry hy
    refine (PySem.W.cmp_K (op := .Eq) (tb := tb) (by omega) fr I.ok.mod.kin J lk nf e.eq e.fn ?_ : wpAny (model X.prog X.w) X.A (richCompare .Eq (.ref a) u) (EP X pins σ Q) X.xe s)
    refine thn (own_call F (hr.mono (Nat.le_succ k)) hgu I (show RelV (V.ref a) (Value.ref a) from rfl) ry hs) fun r s' ⟨c, er, q⟩ => ?_
    subst er
    simpa [PySem.W.CmpBack] using q
  · obtain rfl : u = Value.ref a := ry
    obtain ⟨mA, O, _⟩ := ins_get I.hok ha
    obtain ⟨od, J, _⟩ := O.look
    obtain ⟨T, t1, t2, d1, d2, o1, o2⟩ := left_ty I e J J.at_ rx hy
    refine (DE6.cmp_reflEq (by omega) I.kIn J o1 t1 t2 d1 e.eq e.fn ?_ : wpAny (model X.prog X.w) X.A (richCompare .Eq v (.ref a)) (EP X pins σ Q) X.xe s)
    refine thn (own_call F (hr.mono (Nat.le_succ k)) hgu I (show RelV (V.ref a) (Value.ref a) from rfl) rx hs) fun r s' ⟨c, er, q⟩ => ?_
    subst er
    simpa [PySem.W.CmpBack] using q
theorem op_neOwn (e : EqFacts X.K C f) (F : FnG X.prog X.w X.K X.mg X.base k f sp) (hr : Room (k + 1) X.A) (hgu : X.A.guards = some []) : OpR X (compareOp .NotEq) (rEqOwn C sp true) := by
  intro pins s σ H x y v u Q I rx ry h
  have hu1 := hu_of hr
  rcases h with ⟨a, dx, fs, rfl, ha, hy, hs⟩ | ⟨a, dx, fs, rfl, ha, hy, hs⟩
  · obtain rfl : v = Value.ref a := rx
    obtain ⟨mA, O, _⟩ := ins_get I.hok ha
    obtain ⟨od, J, _⟩ := O.look
    obtain ⟨tb, lk, nf⟩ := right_ty I ry hy
    refine (DE6.cmp_ne (tb := tb) (by omega) I.kIn J lk nf e.mo e.ne e.eq e.fn ?_ : wpAny (model X.prog X.w) X.A (richCompare .NotEq (.ref a) u) (EP X pins σ Q) X.xe s)
    refine thn (own_call1 F hr hgu I (show RelV (V.ref a) (Value.ref a) from rfl) ry hs) fun r s' ⟨c, er, q⟩ => ⟨c, er, ?_⟩
    simpa using q
  · obtain rfl : u = Value.ref a := ry
    obtain ⟨mA, O, _⟩ := ins_get I.hok ha
    obtain ⟨od, J, _⟩ := O.look
    obtain ⟨T, t1, t2, d1, d2, o1, o2⟩ := left_ty I e J J.at_ rx hy
    refine (DE6.cmp_reflNe (by omega) I.kIn J o2 t1 t2 d2 e.mo e.ne e.eq e.fn ?_ : wpAny (model X.prog X.w) X.A (richCompare .NotEq v (.ref a)) (EP X pins σ Q) X.xe s)
    refine thn (own_call1 F hr hgu I (show RelV (V.ref a) (Value.ref a) from rfl) rx hs) fun r s' ⟨c, er, q⟩ => ⟨c, er, ?_⟩
    simpa using q
end
end DL

/-! DG7: == and != by an own __eq__ over data, isinstance of an own class, list + list as a new cell. -/
namespace DL
open PySem L2
open PyProof.Rows hiding St
def rightD (n : Str) : D → Prop
  | .non => True
  | .int _ => True
  | .tup _ => True
  | .obj m _ => m = n
  | _ => False
def leftD : D → Prop
  | .non => True
  | .int _ => True
  | .tup _ => True
  | _ => False
def eqOwn (n : Str) (G : DFn) (x y : D) (k : Bool → Prop) : Prop :=
  isObj n x ∧ rightD n y ∧ callD G [some x, some y] (fun z _ => gB z k) noX .mk ∨
  leftD x ∧ isObj n y ∧ callD G [some y, some x] (fun z _ => gB z k) noX .mk
theorem eqOwn_l {n : Str} {G : DFn} {fs : List (Str × D)} {y : D} {k : Bool → Prop} (hy : rightD n y) (h : G [some (.obj n fs), some y] (fun z _ => gB z k) noX) : eqOwn n G (.obj n fs) y k := .inl ⟨⟨_, rfl⟩, hy, h⟩
theorem eqOwn_r {n : Str} {G : DFn} {fs : List (Str × D)} {x : D} {k : Bool → Prop} (hx : leftD x) (h : G [some (.obj n fs), some x] (fun z _ => gB z k) noX) : eqOwn n G x (.obj n fs) k := .inr ⟨hx, ⟨_, rfl⟩, h⟩
def fEqOwn (n : Str) (neg : Bool) (G : DFn) (Fa Fb : FE) : FE := fun ρ post xp => Fa ρ (fun x ρ1 => Fb ρ1 (fun y ρ2 => eqOwn n G x y fun b => post (.bl (neg != b)) ρ2) xp) xp
@[simp ↓] theorem fEqOwn_ap (n : Str) (neg : Bool) (G : DFn) (Fa Fb : FE) (ρ : Env) (post : Post) (xp : XP) : fEqOwn n neg G Fa Fb ρ post xp = (Fa ρ (fun x ρ1 => Fb ρ1 (fun y ρ2 => eqOwn n G x y fun b => post (.bl (neg != b)) ρ2) xp) xp) := (rfl)
section
variable {X : Cx} {Wx : WX} {P L I J J1 J2 : List Nat} {e a b : Expr} {es : List Expr} {F Fa Fb : FE} {A : FA} {pos p p1 p2 apos : Pos} {k : Nat} {f : Addr} {G : DFn} {x m y n : Str} {ta tb : TE} {tA : TA} {C : Addr} {st : Stmt}
theorem plain3 {K : PySem.W.Frag} {Hb H : Hp} (s : Sub Hb H) {v : V} {d : D} (i : Is K Hb v d) (h : leftD d) : Plain3 H v := by
  cases i with
  | non => exact .inl rfl
  | int i => exact .inr (.inl ⟨_, rfl⟩)
  | tup h1 l => exact .inr (.inr ⟨_, _, rfl, s.at h1⟩)
  | _ => exact h.elim
theorem eqOwn_core (hc : IsCl X.K n C) (neg : Bool) (ha : DE X Wx P I a ta Fa J1) (hb : DE X Wx P J1 b tb Fb J) : ∀ (W : Wd) (ρ : Env) (σ : St) (Hb H : Hp) (Q : VK) (post : Post) (xp : XP), EnvOk X.K W P I ρ σ Hb H → fEqOwn n neg G Fa Fb ρ post xp → XOk X Wx W P σ xp →
    (∀ d ρ' v Hb' H', post d ρ' → EnvOk X.K W P J ρ' σ Hb' H' → Sub Hb Hb' → Is X.K Hb' v d → Q v H') → tOp (rEqOwn C (spD X.K 2 [] G) neg) ta tb σ H Q := by
  intro W ρ σ Hb H Q post xp E f x q
  refine ha.ev W ρ σ Hb H _ _ xp E f x fun d ρ1 v Hb1 H1 f1 E1 s1 i1 => ?_
  refine hb.ev W ρ1 σ Hb1 H1 _ _ xp E1 f1 x fun d2 ρ2 v2 Hb2 H2 f2 E2 s2 i2 => ?_
  have i1' := i1.mono s2
  have hsl : ∀ j ∈ slots [none, none], j ∈ P ∨ j ∈ J := fun j h => by simp [slots] at h
  have hl : ∀ j ∈ slots [none, none], get ρ2 j ≠ none := fun j h => by simp [slots] at h
  have go : ∀ (u w : V) (du dw : D), Is X.K Hb2 u du → Is X.K Hb2 w dw → callD G [some du, some dw] (fun z _ => gB z fun b => post (.bl (neg != b)) ρ2) noX .mk →
      spD X.K 2 [] G [u, w] H2 (fun z H2 => ∃ b, z = .bl b ∧ Q (.bl (neg != b)) H2) fun _ _ _ => False := fun u w du dw iu iw f2 => by
    have ar : Args X.K Hb2 σ [none, none] [u, w] [some du, some dw] := ⟨⟨_, rfl, iu⟩, ⟨_, rfl, iw⟩, trivial⟩
    refine ⟨rfl, [some du, some dw], Hb2, _, _, E2.lend ar hsl (by simp [slots]) hl, f2, fun z ρ' v Hb' H' p1 E4 is => ?_, fun c ρ' cls dx Hb' H' p1 => p1.elim⟩
    have E3 := E2.given ar hsl (by simp [slots]) hl E4 rfl
    have eu : unfill [none, none] ρ' ρ2 = ρ2 := by
      cases ρ' with
      | nil => rfl
      | cons a r => cases r <;> rfl
    rw [eu] at E3
    cases z <;> first | exact p1.elim | skip
    exact ⟨_, is_bl is, q _ _ _ _ _ p1 E3 ((s1.trans s2).trans E4.stp.hb) (.bl _)⟩
  rcases f2 with ⟨⟨fs, e⟩, hy, f2⟩ | ⟨hx, ⟨fs, e⟩, f2⟩
  · subst e
    obtain ⟨a, C', dx, vs, rfl, hc', hh, e1, l1⟩ := o_obj E2.sub (.inl i1')
    obtain rfl := hc.eq hc'
    refine .inl ⟨a, dx, vs, rfl, hh, ?_, go _ _ _ _ i1' i2 f2⟩
    cases d2 with
    | obj m gs =>
      obtain rfl : m = n := hy
      obtain ⟨b, C'', dy, ws, rfl, hc'', hh', _, _⟩ := o_obj E2.sub (.inl i2)
      obtain rfl := hc.eq hc''
      exact .inr ⟨b, dy, ws, rfl, hh'⟩
    | non => exact .inl (plain3 E2.sub i2 trivial)
    | int i => exact .inl (plain3 E2.sub i2 trivial)
    | tup l => exact .inl (plain3 E2.sub i2 trivial)
    | _ => exact hy.elim
  · subst e
    obtain ⟨a, C', dx, vs, rfl, hc', hh, e1, l1⟩ := o_obj E2.sub (.inl i2)
    obtain rfl := hc.eq hc'
    exact .inr ⟨a, dx, vs, rfl, hh, plain3 E2.sub i1' hx, go _ _ _ _ i2 i1' f2⟩
theorem de_eqOwn (hc : IsCl X.K n C) (ef : EqFacts X.K C f) (Fn : FnG X.prog X.w X.K X.mg X.base k f (spD X.K 2 [] G)) (hr : Room (k + 1) X.A) (hgu : X.A.guards = some []) (ha : DE X Wx P I a ta Fa J1) (hb : DE X Wx P J1 b tb Fb J) (hm : behindInMarks .Eq b = false := by first | exact nomark _ | rfl) :
    DE X Wx P I (.Compare a [.Eq] [b] pos) (tOp (rEqOwn C (spD X.K 2 [] G) false) ta tb) (fEqOwn n false G Fa Fb) J := de_of (pe_cmpR (op_eqOwn ef Fn hr hgu) ha.pe hb.pe hm) (eqOwn_core hc false ha hb)
theorem de_neOwn (hc : IsCl X.K n C) (ef : EqFacts X.K C f) (Fn : FnG X.prog X.w X.K X.mg X.base k f (spD X.K 2 [] G)) (hr : Room (k + 1) X.A) (hgu : X.A.guards = some []) (ha : DE X Wx P I a ta Fa J1) (hb : DE X Wx P J1 b tb Fb J) (hm : behindInMarks .NotEq b = false := by first | exact nomark _ | rfl) :
    DE X Wx P I (.Compare a [.NotEq] [b] pos) (tOp (rEqOwn C (spD X.K 2 [] G) true) ta tb) (fEqOwn n true G Fa Fb) J := de_of (pe_cmpR (op_neOwn ef Fn hr hgu) ha.pe hb.pe hm) (eqOwn_core hc true ha hb)
theorem dt_eqOwn (neg : Bool) {op : CmpOp} (hop : OpR X (compareOp op) (rEqOwn C (spD X.K 2 [] G) neg)) (hc : IsCl X.K n C) (ha : DE X Wx P I a ta Fa J1) (hb : DE X Wx P J1 b tb Fb J) (hm : behindInMarks op b = false := by first | exact nomark _ | rfl) :
    DT X Wx P I (.Compare a [op] [b] pos) (tTest (tOp (rEqOwn C (spD X.K 2 [] G) neg) ta tb)) (fTest (fEqOwn n neg G Fa Fb)) J := by
  refine dt_of (pt_cmpR hop ha.pe hb.pe hm) fun W ρ σ Hb H Q post xp E f x q => eqOwn_core hc neg ha hb W ρ σ Hb H _ _ xp E f x fun d ρ1 v Hb1 H1 f1 E1 s1 i1 => ?_
  cases d <;> first | exact f1.elim | skip
  exact ⟨_, is_bl i1, q _ _ _ _ f1 E1 s1⟩
/-! ### isinstance(x, C) -/
structure IsiF (K : PySem.W.Frag) (C : Addr) : Prop where
  ty : ∀ (H : Hp) (a dx : Addr) (fs : List (Str × V)), H a = some (.ins C dx fs) → TyX K H (.ref a) (.ref C)
  kN : PySem.W.kitOne K (.type "NoneType") (.ref C) = some false
  kI : PySem.W.kitOne K (.type "int") (.ref C) = some false
  kT : PySem.W.kitOne K (.type "tuple") (.ref C) = some false
def isOwn (n : Str) : D → Option Bool
  | .obj m _ => if m = n then some true else none
  | .non => some false
  | .int _ => some false
  | .tup _ => some false
  | _ => none
def fIsiOwn (n : Str) (F : FE) : FE := fun ρ post xp => F ρ (fun d ρ1 => ∃ b, isOwn n d = some b ∧ post (.bl b) ρ1) xp
@[simp ↓] theorem fIsiOwn_ap (n : Str) (F : FE) (ρ : Env) (post : Post) (xp : XP) : fIsiOwn n F ρ post xp = (F ρ (fun d ρ1 => ∃ b, isOwn n d = some b ∧ post (.bl b) ρ1) xp) := (rfl)
theorem isiOwn_ok {K : PySem.W.Frag} (hc : IsCl K n C) (iF : IsiF K C) {Hb H : Hp} (s : Sub Hb H) {v : V} {d : D} {b : Bool} (i : Is K Hb v d) (h : isOwn n d = some b) : ∃ t, TyX K H v t ∧ PySem.W.kitOne K t (.ref C) = some b := by
  cases d with
  | obj m fs =>
    have h : (if m = n then some true else none) = some b := h
    by_cases e : m = n
    · subst e
      rw [if_pos rfl] at h
      cases h
      obtain ⟨a, C', dx, vs, rfl, hc', hh, e1, l1⟩ := o_obj s (.inl i)
      obtain rfl := hc.eq hc'
      exact ⟨_, iF.ty _ _ _ _ hh, by simp [PySem.W.kitOne]⟩
    · rw [if_neg e] at h; cases h
  | non => cases h; exact ⟨_, o_tyx s (.inl i) rfl, iF.kN⟩
  | int j => cases h; exact ⟨_, o_tyx s (.inl i) rfl, iF.kI⟩
  | tup j => cases h; exact ⟨_, o_tyx s (.inl i) rfl, iF.kT⟩
  | _ => cases h
theorem de_isiOwn (hc : IsCl X.K n C) (hm : X.mg y = some (.ref C)) (iF : IsiF X.K C) (hmi : X.mg "isinstance" = none) (ha : DE X Wx P I e ta F J) (hg : Gl X "isinstance" := by rfl) (hgc : Gl X y := by rfl) (hdc : (y == ("__debug__" : Str)) = false := by decide)
    (he : starEach [e, .Name y p2] X.env = (false, eval e X.env) :: starEach [.Name y p2] X.env := by rfl) (hpl : (backTo pos (starEach [.Name y p2] X.env)).any (·.1) = false := by rfl) :
    DE X Wx P I (.Call (.Name "isinstance" p1) [e, .Name y p2] [] pos) (tCB (rIsi X.K) (tCons ta (tCons (tC (.ref C)) tNil))) (fIsiOwn n F) J := by
  refine de_of (pe_callB (id := "isinstance") call_isi hg hmi rfl (pa_cons ha.pe (hs := he) (pa_cons (pe_glob hgc hm rfl hdc) pa_nil)) (he := he) (hpl := hpl)) fun W ρ σ Hb H Q post xp E f x q => ha.ev W ρ σ Hb H _ _ xp E f x fun d ρ1 v Hb1 H1 f1 E1 s1 i1 => ?_
  obtain ⟨b, hb, f1⟩ := f1
  obtain ⟨t, h1, h2⟩ := isiOwn_ok hc iF E1.sub i1 hb
  exact ⟨v, .ref C, t, .ref C, b, rfl, .own C, h1, h2, q _ _ _ _ _ f1 E1 s1 (.bl b)⟩
/-! ### a slice of an owned list; list + list as a new cell -/
def fCutO (i : Nat) (A B : FO) : FE := fun ρ post xp => get ρ i ≠ none ∧ A ρ (fun lo ρ1 => B ρ1 (fun hi ρ2 => ∃ ds, get ρ2 i = some (.lst ds) ∧ post (.lst (cutL ds lo hi)) ρ2) xp) xp
theorem de_cutO {lo hi : Option Expr} {tl th : TO} {Fl Fh : FO} (i : Nat) (hiI : i ∈ P ∨ i ∈ I := by decide) (hiJ : i ∈ P ∨ i ∈ J := by decide) (ha : DOp X Wx P I lo tl Fl J1) (hb : DOp X Wx P J1 hi th Fh J) (hN : X.N[i]? = some x := by rfl) (hv : Vis X.env.scope x := by first | exact Or.inl rfl | exact Or.inr (Or.inl rfl) | exact Or.inr (Or.inr rfl)) (hd : (x == ("__debug__" : Str)) = false := by decide)
    (hcd : (x == ("__classdict__" : Str)) = false := by decide) : DE X Wx P I (.Subscript (.Name x p1) (.Slice lo hi none p2) pos) (tSl (rSlL X.K) (tVar i) tl th) (fCutO i Fl Fh) J := by
  refine de_of (pe_slice sl_list (pe_var hN hv hd hcd) ha.pe hb.pe) fun W ρ σ Hb H Q post xp E f x q => ?_
  obtain ⟨f0, f1⟩ := f
  cases g : get ρ i with
  | none => exact absurd g f0
  | some d0 =>
    obtain ⟨p, ep, _, _⟩ := E.cel i d0 hiI g
    refine ⟨_, ep, ha.ev W ρ σ Hb H _ _ xp E f1 x fun lo ρ1 Hb1 H1 f1 E1 s1 => hb.ev W ρ1 σ Hb1 H1 _ _ xp E1 f1 x fun hi ρ2 Hb2 H2 f2 E2 s2 => ?_⟩
    obtain ⟨ds, g2, f2⟩ := f2
    obtain ⟨p', ep', _, c, _⟩ := E2.cel i _ hiJ g2
    rw [ep] at ep'
    cases ep'
    obtain ⟨vs, h, l⟩ := c
    refine ⟨p, vs, rfl, .inl (.inl h), fun r hr => q _ _ _ _ _ f2 (E2.alloc hr) ((s1.trans s2).trans (Sub.new (E2.sub.none hr))) (.lst upd_same ((cut_is l lo hi).mono (Sub.new (E2.sub.none hr))))⟩
def fAddN (Fa Fb : FE) : FE := fun ρ post xp => Fa ρ (fun u ρ1 => Fb ρ1 (fun v ρ2 => ∃ ds es, u = .lst ds ∧ v = .lst es ∧ ds.length + es.length ≤ 1000000 ∧ post (.lst (ds ++ es)) ρ2) xp) xp
theorem dn_add (ha : DE X Wx P I a ta Fa J1) (hb : DE X Wx P J1 b tb Fb J) : DNw X Wx P I (.BinOp a .Add b pos) (tOp rCat ta tb) (fAddN Fa Fb) J := by
  refine ⟨pe_op op_cat ha.pe hb.pe, fun W ρ σ Hb H Q post xp E f x q => ha.ev W ρ σ Hb H _ _ xp E f x fun d ρ1 v Hb1 H1 f1 E1 s1 i1 => hb.ev W ρ1 σ Hb1 H1 _ _ xp E1 f1 x fun d2 ρ2 v2 Hb2 H2 f2 E2 s2 i2 => ?_⟩
  obtain ⟨ds, es, e1, e2, hl, f2⟩ := f2
  subst e1 e2
  obtain ⟨a, vs, rfl, h1, l1⟩ := o_lst E2.sub (.inl (i1.mono s2))
  obtain ⟨b, ws, rfl, h2, l2⟩ := o_lst E2.sub (.inl i2)
  exact ⟨a, b, vs, ws, rfl, rfl, h1, h2, by rw [l1.length, l2.length]; exact Nat.le_trans hl (by decide), fun p hp => q _ _ _ _ _ f2 (E2.more hp) (s1.trans s2) (NewAt.mk' E2 hp ⟨_, upd_same, l1.append l2⟩)⟩
end
end DL

/-! DG8: zip, a released cell as a value. -/
namespace DL
open PySem L2 RZ
open PyProof.Rows hiding St
def zipD (ds es : List D) : List D := List.zipWith (fun x y => D.tup [x, y]) ds es
theorem zipD_get {ds es : List D} {i : Nat} {d : D} (h : (zipD ds es)[i]? = some d) : ∃ x y, ds[i]? = some x ∧ es[i]? = some y ∧ d = .tup [x, y] := by
  unfold zipD at h
  rw [List.getElem?_zipWith] at h
  cases e1 : ds[i]? with
  | none => rw [e1] at h; simp at h
  | some x =>
    cases e2 : es[i]? with
    | none => rw [e1, e2] at h; simp at h
    | some y => rw [e1, e2] at h; simp at h; exact ⟨x, y, rfl, rfl, h.symm⟩
theorem itd_zipL {K : PySem.W.Frag} {Hb : Hp} {a b : Addr} {vs ws : List V} {ds es : List D} (h : SqL K Hb a vs) (h' : SqL K Hb b ws) (l : IsL K Hb vs ds) (l' : IsL K Hb ws es) : ItD K (Itz K a b) Hb (zipD ds es) := fun i H1 Hb1 s1 s2 => by
  have h1 := (s1.trans s2).sqL h
  have h2 := (s1.trans s2).sqL h'
  refine ⟨fun d hd => ?_, fun e => ⟨vs, ws, h1, h2, ?_⟩⟩
  · obtain ⟨x, y, e1, e2, rfl⟩ := zipD_get hd
    obtain ⟨v, hv, iv⟩ := l.get e1
    obtain ⟨w, hw, iw⟩ := l'.get e2
    refine ⟨⟨vs, ws, v, w, h1, h2, hv, hw⟩, fun z H2 ⟨T, u1, u2, ez, hT, eH, q1, q2⟩ => ?_⟩
    subst ez eH
    have ex := q1 vs h1
    have ey := q2 ws h2
    rw [hv] at ex; cases ex
    rw [hw] at ey; cases ey
    have nb : Hb1 T = none := s2.none hT
    exact ⟨_, .one hT, .tup upd_same (.cons ((iv.mono s1).mono (Sub.new nb)) (.cons ((iw.mono s1).mono (Sub.new nb)) .nil))⟩
  · have := l.length
    have := l'.length
    unfold zipD at e
    rw [List.length_zipWith] at e
    omega
theorem itd_zipT {K : PySem.W.Frag} {Hb : Hp} {a b : Addr} {vs ws : List V} {ds es : List D} (h : SqT K Hb a vs) (h' : SqT K Hb b ws) (l : IsL K Hb vs ds) (l' : IsL K Hb ws es) : ItD K (ItzT K a b) Hb (zipD ds es) := fun i H1 Hb1 s1 s2 => by
  have h1 := (s1.trans s2).sqT h
  have h2 := (s1.trans s2).sqT h'
  refine ⟨fun d hd => ?_, fun e => ⟨vs, ws, h1, h2, ?_⟩⟩
  · obtain ⟨x, y, e1, e2, rfl⟩ := zipD_get hd
    obtain ⟨v, hv, iv⟩ := l.get e1
    obtain ⟨w, hw, iw⟩ := l'.get e2
    refine ⟨⟨vs, ws, v, w, h1, h2, hv, hw⟩, fun z H2 ⟨T, u1, u2, ez, hT, eH, q1, q2⟩ => ?_⟩
    subst ez eH
    have ex := q1 vs h1
    have ey := q2 ws h2
    rw [hv] at ex; cases ex
    rw [hw] at ey; cases ey
    have nb : Hb1 T = none := s2.none hT
    exact ⟨_, .one hT, .tup upd_same (.cons ((iv.mono s1).mono (Sub.new nb)) (.cons ((iw.mono s1).mono (Sub.new nb)) .nil))⟩
  · have := l.length
    have := l'.length
    unfold zipD at e
    rw [List.length_zipWith] at e
    omega
/-- zip of two lists, or of two tuples -/
def fZip (A : FA) : FA := fun ρ post xp => A ρ (fun ds ρ1 => match ds with
  | [.lst a, .lst b] => post (zipD a b) ρ1
  | [.tup a, .tup b] => post (zipD a b) ρ1
  | _ => False) xp
@[simp ↓] theorem fZip_ap (A : FA) (ρ : Env) (post : List D → Env → Prop) (xp : XP) : fZip A ρ post xp = (A ρ (fun ds ρ1 => match ds with
  | [.lst a, .lst b] => post (zipD a b) ρ1
  | [.tup a, .tup b] => post (zipD a b) ρ1
  | _ => False) xp) := (rfl)
section
variable {X : Cx} {Wx : WX} {P L I J J1 J2 : List Nat} {e e2 tg : Expr} {es elts : List Expr} {F : FE} {A : FA} {pos p tpos : Pos} {kk : Nat} {te : TE} {tA : TA} {x : Str}
theorem di_zip (hm : X.mg "zip" = none) (ha : DA X Wx P I [e, e2] tA A J) (hg : Gl X "zip" := by rfl)
    (hs : starEach [e, e2] X.env = (false, eval e X.env) :: starEach [e2] X.env := by rfl) (hpl : (backTo pos (starEach [e2] X.env)).any (·.1) = false := by rfl) :
    DI X Wx P I (.Tuple elts kk tpos) (.Call (.Name "zip" p) [e, e2] [] pos) (iZipA X.K tA) (fZip A) J := by
  obtain ⟨pa, k⟩ := ha
  refine ⟨pi_zipA hg hm pa hs hpl, fun W ρ σ Hb H R post xp E f x q => k W ρ σ Hb H _ _ xp E f x fun ds ρ1 vs Hb1 H1 f1 E1 s1 i1 => ?_⟩
  match ds, i1, f1 with
  | [.lst a, .lst b], .cons i (.cons j .nil), f1 =>
    obtain ⟨a', us, rfl, h, l⟩ := is_lstD i rfl
    obtain ⟨b', ws, rfl, h', l'⟩ := is_lstD j rfl
    exact ⟨a', b', us, ws, rfl, .inl ⟨E1.sub.sqL h, E1.sub.sqL h', q _ _ _ _ _ f1 E1 s1 (itd_zipL h h' l l')⟩⟩
  | [.tup a, .tup b], .cons i (.cons j .nil), f1 =>
    obtain ⟨a', us, rfl, h, l⟩ := is_tupD i rfl
    obtain ⟨b', ws, rfl, h', l'⟩ := is_tupD j rfl
    exact ⟨a', b', us, ws, rfl, .inr ⟨E1.sub.sqT h, E1.sub.sqT h', q _ _ _ _ _ f1 E1 s1 (itd_zipT h h' l l')⟩⟩
/-- an owned slot read as a value: it is owned no more -/
theorem de_rel (i : Nat) (hP : i ∉ P := by decide) (hJ : ∀ j ∈ J, j ∈ I := by decide) (hiJ : i ∉ J := by decide) (hPI : ∀ j ∈ I, j ∉ P := by decide) (hN : X.N[i]? = some x := by rfl) (hv : Vis X.env.scope x := by first | exact Or.inl rfl | exact Or.inr (Or.inl rfl) | exact Or.inr (Or.inr rfl)) (hd : (x == ("__debug__" : Str)) = false := by decide)
    (hcd : (x == ("__classdict__" : Str)) = false := by decide) : DE X Wx P I (.Name x pos) (tVar i) (fVar i) J :=
  de_of (pe_var hN hv hd hcd) fun W ρ σ Hb H Q post xp E f _ q => by
    unfold fVar at f
    split at f
    · rename_i d g
      obtain ⟨Hb', E', s'⟩ := E.drop hJ hPI
      obtain ⟨v, e, is⟩ := E'.val i d g hP hiJ
      exact ⟨v, e, q _ _ _ _ _ f E' s' is⟩
    · exact f.elim
end
end DL

/-! DG9: any(list of ints). -/
namespace L2
open PySem PySem.Spec PyProof.Rows
section
variable {X : Cx}
theorem truth_intsD {prog : Program} {w : World} {A : Around} {ns : List Int} {its : List Value} (e : IntsAre its ns) :
    TruthOf prog w A (fun i v => its.toArray[i]? = some v) (fun i => (ns.map fun n => n != 0).getD i false) := fun i v s Q E hv hq => by
  have hv' : its[i]? = some v := by simpa using hv
  obtain ⟨hl, hv2⟩ := List.getElem?_eq_some_iff.mp hv'
  obtain ⟨t, ev⟩ := PyProof.Rows.IntsAre.int_at e i v hv'
  subst ev
  have hi : i < ns.length := by rw [← e.length]; exact hl
  have hg : (ns.map fun n => n != 0).getD i false = (ns.getD i 0 != 0) := by
    rw [List.getD_eq_getElem?_getD, List.getElem?_map, List.getD_eq_getElem?_getD, List.getElem?_eq_getElem hi]; rfl
  have hq' : Q ((ns.map fun n => n != 0).getD i false) s := hq
  rw [hg] at hq'
  exact truthy_int hq'
def rAnyI (K : PySem.W.Frag) : List V → Hp → VK → Prop := fun vs H Q => ∃ (a : Addr) (ns : List Int), vs = [V.ref a] ∧ SqL K H a (ns.map V.int) ∧ Q (.bl (ns.any fun n => n != 0)) H
theorem cr_anyI (hc : X.calm = true) : CallR X (.builtin "any") (rAnyI X.K) := by
  intro pins s σ H vs us Q I r h
  obtain ⟨a, ns, rfl, hs, q⟩ := h
  obtain ⟨its, rv, hl, _⟩ := I.list hs
  rw [Vals.ref1 r]
  have hb : IntsAre its ns := Vals.ints rv
  refine call_any_walk (iter_any hl.isList fun s₂ e2 st hne => ?_)
  subst e2
  refine ⟨_, _, _, _, _, _, _, rfl, Walks.list (A := X.A.in1) (I.ok.hd hc) _ a hne its.toArray, st, truth_intsD hb, fun h' tk hk => ?_⟩
  refine ⟨.bl _, H, I.kept fun b o eo => hk b o (fun hmem => ?_) (Heap.get?_push_of_some _ eo), ?_, q⟩
  · rcases List.mem_cons.mp hmem with e1 | hmem
    · exact absurd (e1 ▸ Heap.lt_size eo) (Nat.lt_irrefl _)
    · cases hmem
  · show Value.bool _ = Value.bool _
    have e : (ns.any fun n => n != 0) = (ns.map fun n => n != 0).any id := by simp [List.any_map]
    rw [e, ← any_range, List.size_toArray, List.length_map, hb.length]
end
end L2
namespace DL
open PySem L2
def gAnyI : GN := fun xs k => ∃ d es ns, xs = [d] ∧ lstD d = some es ∧ dInts es = some ns ∧ k (.bl (ns.any fun n => n != 0))
theorem rv_anyI {K : PySem.W.Frag} : RVN K (rAnyI K) gAnyI := fun Hb H xs ds k Q s l g q => by
  obtain ⟨d, es, bs, rfl, e1, e2, g⟩ := g
  obtain ⟨v, rfl, i⟩ := o_one l
  obtain ⟨a, vs, rfl, h, m⟩ := o_lstD s i e1
  obtain rfl := is_ints m e2
  exact ⟨a, bs, rfl, h, q _ _ _ _ g .refl (.bl _)⟩
end DL

/-! DG10: C(a, .., *xs) where __init__ takes some arguments and the rest; C.m(..), m a classmethod. -/
namespace DL
open PySem L2 ClX
open PyProof.Rows hiding St
theorem isL_take {K : PySem.W.Frag} {H : Hp} : ∀ {vs : List V} {ds : List D} (n : Nat), IsL K H vs ds → IsL K H (vs.take n) (ds.take n)
  | _, _, 0, _ => by simp; exact .nil
  | _, _, n + 1, .nil => by simp; exact .nil
  | _, _, n + 1, .cons a r => by simp only [List.take_succ_cons]; exact .cons a (isL_take n r)
theorem isL_drop {K : PySem.W.Frag} {H : Hp} : ∀ {vs : List V} {ds : List D} (n : Nat), IsL K H vs ds → IsL K H (vs.drop n) (ds.drop n)
  | _, _, 0, h => by simpa using h
  | _, _, n + 1, .nil => by simp; exact .nil
  | _, _, n + 1, .cons a r => by simp only [List.drop_succ_cons]; exact isL_drop n r
def fMakeSn (n : Str) (m : Nat) (G : DFn) (A : FA) : FE := fun ρ post xp => A ρ (fun ds ρ1 => (m ≤ ds.length ∧ ds.length ≤ 1000) ∧ callD G (some (.obj n []) :: (ds.take m ++ [D.tup (ds.drop m)]).map some) (fun d r => d = .non ∧ ∃ fs, get r 0 = some (.obj n fs) ∧ post (.obj n fs) ρ1) (fun c _ => xp c ρ1) .mk) xp
@[simp ↓] theorem fMakeSn_ap (n : Str) (m : Nat) (G : DFn) (A : FA) (ρ : Env) (post : Post) (xp : XP) : fMakeSn n m G A ρ post xp = (A ρ (fun ds ρ1 => (m ≤ ds.length ∧ ds.length ≤ 1000) ∧ callD G (some (.obj n []) :: (ds.take m ++ [D.tup (ds.drop m)]).map some) (fun d r => d = .non ∧ ∃ fs, get r 0 = some (.obj n fs) ∧ post (.obj n fs) ρ1) (fun c _ => xp c ρ1) .mk) xp) := (rfl)
section
variable {X : Cx} {Wx : WX} {P I J J1 : List Nat} {a b e : Expr} {es : List Expr} {A : FA} {pos p : Pos} {k : Nat} {f : Addr} {G : DFn} {y : Str} {tA : TA} {ta tb : TE} {C : Addr} {n : Str} {m : Nat} {Fa Fb : FE}
theorem makeSn_core {t : TA} (hc : IsCl X.K n C) (hPJ : ∀ j ∈ J, j ∉ P)
    (ka : ∀ (W : Wd) (ρ : Env) (σ : St) (Hb H : Hp) (Q : List V → Hp → Prop) (post : List D → Env → Prop) (xp : XP), EnvOk X.K W P I ρ σ Hb H → A ρ post xp → XOk X Wx W P σ xp →
    (∀ ds ρ' vs Hb' H', post ds ρ' → EnvOk X.K W P J ρ' σ Hb' H' → Sub Hb Hb' → IsL X.K Hb' vs ds → Q vs H') → t σ H Q) :
    ∀ (W : Wd) (ρ : Env) (σ : St) (Hb H : Hp) (Q : VK) (post : Post) (xp : XP), EnvOk X.K W P I ρ σ Hb H → fMakeSn n m G A ρ post xp → XOk X Wx W P σ xp →
    (∀ d ρ' p Hb' H', post d ρ' → EnvOk X.K W P J ρ' σ Hb' H' → Sub Hb Hb' → NewAt X.K W P J ρ' σ Hb' H' p d → Q (.ref p) H') → tMakeG C (spStar (m + 1) (spD X.K (m + 2) [0] G)) (WE Wx) t σ H Q := by
  intro W ρ σ Hb H Q post xp E h x q
  refine ka W ρ σ Hb H _ _ xp E h x fun ds ρ1 vs Hb1 H1 f1 E1 s1 l1 a dx nx nd ne => ?_
  obtain ⟨⟨hm0, hm⟩, f1⟩ := f1
  have hlv : m ≤ vs.length := by rw [l1.length]; exact hm0
  refine ⟨.ref a :: vs.take m, vs.drop m, by simp, by simp [Nat.min_eq_left hlv], by rw [List.length_drop, l1.length]; exact Nat.le_trans (Nat.sub_le _ _) (Nat.le_trans hm (by decide)), fun pt ft => ?_⟩
  have fa : pt ≠ a := fun z => by subst z; rw [upd_same] at ft; cases ft
  have fd : pt ≠ dx := fun z => by subst z; rw [upd_ne ne, upd_same] at ft; cases ft
  have f1n : H1 pt = none := by rw [upd_ne fa, upd_ne fd] at ft; exact ft
  have Et := E1.alloc (o := .tup (vs.drop m)) f1n
  have nbt : Hb1 pt = none := E1.sub.none f1n
  have lt : IsL X.K (upd Hb1 pt (.tup (vs.drop m))) (vs.take m ++ [V.ref pt]) (ds.take m ++ [D.tup (ds.drop m)]) := ((isL_take m l1).mono (Sub.new nbt)).append (.cons (.tup upd_same ((isL_drop m l1).mono (Sub.new nbt))) .nil)
  have nx' : upd H1 pt (.tup (vs.drop m)) a = none := by rw [upd_ne fa.symm]; exact nx
  have nd' : upd H1 pt (.tup (vs.drop m)) dx = none := by rw [upd_ne fd.symm]; exact nd
  have comm : upd (upd (upd H1 dx (.own a)) a (.ins C dx [])) pt (.tup (vs.drop m)) = upd (upd (upd H1 pt (.tup (vs.drop m))) dx (.own a)) a (.ins C dx []) := by
    funext z
    by_cases z1 : z = pt
    · subst z1; rw [upd_same, upd_ne fa, upd_ne fd, upd_same]
    · by_cases z2 : z = a
      · subst z2; rw [upd_ne z1, upd_same, upd_same]
      · by_cases z3 : z = dx
        · subst z3; rw [upd_ne z1, upd_ne z2, upd_same, upd_ne z2, upd_same]
        · rw [upd_ne z1, upd_ne z2, upd_ne z3, upd_ne z2, upd_ne z3, upd_ne z1]
  show spD X.K (m + 2) [0] G (V.ref a :: (vs.take m ++ [V.ref pt])) _ _ _
  rw [comm]
  refine ⟨by simp [Nat.min_eq_left hlv], _, _, _, _, made_env Et hc nx' nd' ne lt, f1, fun d ρ' v Hb' H' p1 E4 is => ?_, fun c ρ' cls dx' Hb' H' p1 E4 xi => ?_⟩
  · obtain ⟨e, fs, g, p1⟩ := p1
    subst e
    refine ⟨is_non is, q _ _ _ _ _ p1 (made_back Et nx' nd' ne E4) ((s1.trans (Sub.new nbt)).trans E4.stp.hb) (made_new E1 Et (Sub.new nbt) nx nx' nd' ne E4 g)⟩
  · obtain ⟨Hb3, E5, s5⟩ := (made_back Et nx' nd' ne E4).drop (J := []) (fun j q => by cases q) hPJ
    refine x c _ cls dx' Hb3 H' p1 E5 ?_
    obtain ⟨e, r | ⟨d, us, e1, e2, e3, e4⟩⟩ := xi
    · exact ⟨e, .inl r⟩
    · exact ⟨e, .inr ⟨d, us, e1, s5.at e2, e3, e4.mono s5⟩⟩
end
end DL

/-! DG11: starred arguments, C(a, .., *xs) by name and by a local variable, classmethods. -/
namespace DL
open PySem L2 ClX
open PyProof.Rows hiding St
section
variable {X : Cx} {k i : Nat} {C f : Addr} {sp : Sp} {E : St → XK} {x : Str} {e : Expr} {es : List Expr} {p pos : Pos} {t : TA}
theorem pe_makeGS2 (M : Mk X.K C f) (F : FnG X.prog X.w X.K X.mg X.base k f sp) (hr : Room (k + 1) X.A) (hgu : X.A.guards = some []) (hg : Gl X x) (hm : X.mg x = some (.ref C)) (hx : ∀ σ, PassesAt (L2.CX X.prog X.w) X σ (E σ)) (ha : PA X (e :: es) t)
    (hdb : (x == ("__debug__" : Str)) = false := by decide) (he : starEach (e :: es) X.env = (false, eval e X.env) :: starEach es X.env := by rfl) (hst : (backTo pos (starEach es X.env)).any (·.1) = true := by rfl) :
    PE X (.Call (.Name x p) (e :: es) [] pos) (tMakeG C sp E t) := ⟨fun pins s σ H Q I h =>
  wpAny_Call_Name_kw (ld_glob I hg hm (PySem.W.callWith_S2 (h₀ := X.base) I.ok.mod.kin M.kp (thn (ha.run pos pins s σ H _ I h) fun us s1 ⟨vs, H1, I1, r, q⟩ => ⟨I1.kIn, run_makeG M F hr hgu hx I1 r q⟩) he hst) hdb)⟩
/-- a local variable that holds the class -/
def tMakeL (i : Nat) (C : Addr) (sp : Sp) (E : St → XK) (t : TA) : TE := fun σ H Q => σ[i]? = some (some (.ref C)) ∧ tMakeG C sp E t σ H Q
theorem pe_makeLS2 (M : Mk X.K C f) (F : FnG X.prog X.w X.K X.mg X.base k f sp) (hr : Room (k + 1) X.A) (hgu : X.A.guards = some []) (hN : X.N[i]? = some x) (hv : Vis X.env.scope x) (hx : ∀ σ, PassesAt (L2.CX X.prog X.w) X σ (E σ)) (ha : PA X (e :: es) t)
    (hdb : (x == ("__debug__" : Str)) = false := by decide) (hcd : (x == ("__classdict__" : Str)) = false := by decide) (he : starEach (e :: es) X.env = (false, eval e X.env) :: starEach es X.env := by rfl) (hst : (backTo pos (starEach es X.env)).any (·.1) = true := by rfl) :
    PE X (.Call (.Name x p) (e :: es) [] pos) (tMakeL i C sp E t) := by
  refine ⟨fun pins s σ H Q I h => ?_⟩
  obtain ⟨hs, ht⟩ := h
  refine wpAny_Call_Name_kw (thn ((pe_var (pos := p) hN hv hdb hcd).run pins s σ H (fun v H1 => v = .ref C ∧ H1 = H) I ⟨.ref C, hs, rfl, rfl⟩) fun u s1 ⟨v, H1, I1, r1, q1⟩ => ?_)
  obtain ⟨rfl, rfl⟩ := q1
  cases r1
  exact PySem.W.callWith_S2 (h₀ := X.base) I.ok.mod.kin M.kp (thn (ha.run pos pins s1 σ _ _ I1 ht) fun us s2 ⟨vs, H2, I2, r, q⟩ => ⟨I2.kIn, run_makeG M F hr hgu hx I2 r q⟩) he hst
theorem pe_makeL (M : Mk X.K C f) (F : FnG X.prog X.w X.K X.mg X.base k f sp) (hr : Room (k + 1) X.A) (hgu : X.A.guards = some []) (hN : X.N[i]? = some x) (hv : Vis X.env.scope x) (hx : ∀ σ, PassesAt (L2.CX X.prog X.w) X σ (E σ)) (ha : PA X (e :: es) t)
    (hdb : (x == ("__debug__" : Str)) = false := by decide) (hcd : (x == ("__classdict__" : Str)) = false := by decide) (he : starEach (e :: es) X.env = (false, eval e X.env) :: starEach es X.env := by rfl) (hpl : (backTo pos (starEach es X.env)).any (·.1) = false := by rfl) :
    PE X (.Call (.Name x p) (e :: es) [] pos) (tMakeL i C sp E t) := by
  refine ⟨fun pins s σ H Q I h => ?_⟩
  obtain ⟨hs, ht⟩ := h
  refine wpAny_Call_Name_kw (thn ((pe_var (pos := p) hN hv hdb hcd).run pins s σ H (fun v H1 => v = .ref C ∧ H1 = H) I ⟨.ref C, hs, rfl, rfl⟩) fun u s1 ⟨v, H1, I1, r1, q1⟩ => ?_)
  obtain ⟨rfl, rfl⟩ := q1
  cases r1
  exact PySem.W.callWith_K (h₀ := X.base) I.ok.mod.kin M.kp (thn (ha.run pos pins s1 σ _ _ I1 ht) fun us s2 ⟨vs, H2, I2, r, q⟩ => ⟨I2.kIn, run_makeG M F hr hgu hx I2 r q⟩) he hpl
end
section
variable {X : Cx} {Wx : WX} {P I J J1 : List Nat} {a b e o : Expr} {es : List Expr} {F : FE} {A : FA} {pos p apos : Pos} {k : Nat} {f : Addr} {G : DFn} {x y : Str} {tA : TA} {te : TE} {C : Addr} {n : Str} {m : Nat}
/-- a starred last argument -/
theorem da_star (ha : DE X Wx P I e te F J) (hs : starEach [.Starred e p] X.env = (true, eval e X.env) :: starEach [] X.env := by rfl) : DA X Wx P I [.Starred e p] (StX.tStar X.K te tNil) (fStar F) J :=
  ⟨StX.pa_star ha.pe pa_nil hs, fun W ρ σ Hb H Q post xp E f x q => ha.ev W ρ σ Hb H _ _ xp E f x fun d ρ1 v Hb1 H1 f1 E1 s1 i1 => by
    obtain ⟨xs, hxs, f1⟩ := f1
    obtain ⟨a, vs, e1, h1, l1⟩ := o_seqD E1.sub (.inl i1) hxs
    refine ⟨a, vs, e1, h1.symm, ?_⟩
    show Q (vs ++ []) H1
    rw [List.append_nil]
    exact q _ _ _ _ _ f1 E1 s1 l1⟩
theorem da_consS (ha : DE X Wx P I e te F J1) (hb : DA X Wx P J1 es tA A J) (hs : starEach (e :: es) X.env = (false, eval e X.env) :: starEach es X.env := by rfl) : DA X Wx P I (e :: es) (tCons te tA) (fCons F A) J := da_cons ha hb hs
/-- C(a, .., *xs) -/
theorem dn_makeSn {fi : Addr} (M : Mk X.K C fi) (hc : IsCl X.K n C) (Fn : FnG X.prog X.w X.K X.mg X.base k fi (spStar (m + 1) (spD X.K (m + 2) [0] G))) (hr : Room (k + 1) X.A) (hgu : X.A.guards = some []) (hm : X.mg y = some (.ref C)) (tk : Takes X Wx) (ha : DA X Wx P I (e :: es) tA A J)
    (hPJ : ∀ j ∈ J, j ∉ P := by decide) (hg : Gl X y := by rfl) (hdb : (y == ("__debug__" : Str)) = false := by decide) (he : starEach (e :: es) X.env = (false, eval e X.env) :: starEach es X.env := by rfl) (hst : (backTo pos (starEach es X.env)).any (·.1) = true := by rfl) :
    DNw X Wx P I (.Call (.Name y p) (e :: es) [] pos) (tMakeG C (spStar (m + 1) (spD X.K (m + 2) [0] G)) (WE Wx) tA) (fMakeSn n m G A) J :=
  ⟨pe_makeGS2 M Fn hr hgu hg hm (fun σ => passAt tk σ) ha.pe hdb he hst, makeSn_core hc hPJ ha.ev⟩
/-- C(a, .., z): without a rest -/
theorem dn_makeSn0 {fi : Addr} (M : Mk X.K C fi) (hc : IsCl X.K n C) (Fn : FnG X.prog X.w X.K X.mg X.base k fi (spStar (m + 1) (spD X.K (m + 2) [0] G))) (hr : Room (k + 1) X.A) (hgu : X.A.guards = some []) (hm : X.mg y = some (.ref C)) (tk : Takes X Wx) (ha : DA X Wx P I (e :: es) tA A J)
    (hPJ : ∀ j ∈ J, j ∉ P := by decide) (hg : Gl X y := by rfl) (hdb : (y == ("__debug__" : Str)) = false := by decide) (he : starEach (e :: es) X.env = (false, eval e X.env) :: starEach es X.env := by rfl) (hpl : (backTo pos (starEach es X.env)).any (·.1) = false := by rfl) :
    DNw X Wx P I (.Call (.Name y p) (e :: es) [] pos) (tMakeG C (spStar (m + 1) (spD X.K (m + 2) [0] G)) (WE Wx) tA) (fMakeSn n m G A) J :=
  ⟨pe_makeG M Fn hr hgu hg hm (fun σ => passAt tk σ) ha.pe hdb he hpl, makeSn_core hc hPJ ha.ev⟩
def fMakeL (i : Nat) (n : Str) (m : Nat) (G : DFn) (A : FA) : FE := fun ρ post xp => get ρ i = some (.cl n) ∧ fMakeSn n m G A ρ post xp
@[simp ↓] theorem fMakeL_ap (i : Nat) (n : Str) (m : Nat) (G : DFn) (A : FA) (ρ : Env) (post : Post) (xp : XP) : fMakeL i n m G A ρ post xp = (get ρ i = some (.cl n) ∧ fMakeSn n m G A ρ post xp) := (rfl)
theorem makeL_core {t : TA} (i : Nat) (hc : IsCl X.K n C) (hiP : i ∉ P) (hiI : i ∉ I)
    (kk : ∀ (W : Wd) (ρ : Env) (σ : St) (Hb H : Hp) (Q : VK) (post : Post) (xp : XP), EnvOk X.K W P I ρ σ Hb H → fMakeSn n m G A ρ post xp → XOk X Wx W P σ xp →
    (∀ d ρ' p Hb' H', post d ρ' → EnvOk X.K W P J ρ' σ Hb' H' → Sub Hb Hb' → NewAt X.K W P J ρ' σ Hb' H' p d → Q (.ref p) H') → tMakeG C (spStar (m + 1) (spD X.K (m + 2) [0] G)) (WE Wx) t σ H Q) :
    ∀ (W : Wd) (ρ : Env) (σ : St) (Hb H : Hp) (Q : VK) (post : Post) (xp : XP), EnvOk X.K W P I ρ σ Hb H → fMakeL i n m G A ρ post xp → XOk X Wx W P σ xp →
    (∀ d ρ' p Hb' H', post d ρ' → EnvOk X.K W P J ρ' σ Hb' H' → Sub Hb Hb' → NewAt X.K W P J ρ' σ Hb' H' p d → Q (.ref p) H') → tMakeL i C (spStar (m + 1) (spD X.K (m + 2) [0] G)) (WE Wx) t σ H Q := by
  intro W ρ σ Hb H Q post xp E h x q
  obtain ⟨g, h⟩ := h
  obtain ⟨v, e, is⟩ := E.val i _ g hiP hiI
  have ev : v = .ref C := by cases is with | cl c => rw [c.eq hc]
  rw [ev] at e
  exact ⟨e, kk W ρ σ Hb H Q post xp E h x q⟩
theorem dn_makeLS {fi : Addr} (i : Nat) (M : Mk X.K C fi) (hc : IsCl X.K n C) (Fn : FnG X.prog X.w X.K X.mg X.base k fi (spStar (m + 1) (spD X.K (m + 2) [0] G))) (hr : Room (k + 1) X.A) (hgu : X.A.guards = some []) (tk : Takes X Wx) (ha : DA X Wx P I (e :: es) tA A J)
    (hPJ : ∀ j ∈ J, j ∉ P := by decide) (hiP : i ∉ P := by decide) (hiI : i ∉ I := by decide) (hN : X.N[i]? = some x := by rfl) (hv : Vis X.env.scope x := by first | exact Or.inl rfl | exact Or.inr (Or.inl rfl) | exact Or.inr (Or.inr rfl)) (hdb : (x == ("__debug__" : Str)) = false := by decide) (hcd : (x == ("__classdict__" : Str)) = false := by decide)
    (he : starEach (e :: es) X.env = (false, eval e X.env) :: starEach es X.env := by rfl) (hst : (backTo pos (starEach es X.env)).any (·.1) = true := by rfl) :
    DNw X Wx P I (.Call (.Name x p) (e :: es) [] pos) (tMakeL i C (spStar (m + 1) (spD X.K (m + 2) [0] G)) (WE Wx) tA) (fMakeL i n m G A) J :=
  ⟨pe_makeLS2 M Fn hr hgu hN hv (fun σ => passAt tk σ) ha.pe hdb hcd he hst, makeL_core i hc hiP hiI (makeSn_core hc hPJ ha.ev)⟩
theorem dn_makeL {fi : Addr} (i : Nat) (M : Mk X.K C fi) (hc : IsCl X.K n C) (Fn : FnG X.prog X.w X.K X.mg X.base k fi (spStar (m + 1) (spD X.K (m + 2) [0] G))) (hr : Room (k + 1) X.A) (hgu : X.A.guards = some []) (tk : Takes X Wx) (ha : DA X Wx P I (e :: es) tA A J)
    (hPJ : ∀ j ∈ J, j ∉ P := by decide) (hiP : i ∉ P := by decide) (hiI : i ∉ I := by decide) (hN : X.N[i]? = some x := by rfl) (hv : Vis X.env.scope x := by first | exact Or.inl rfl | exact Or.inr (Or.inl rfl) | exact Or.inr (Or.inr rfl)) (hdb : (x == ("__debug__" : Str)) = false := by decide) (hcd : (x == ("__classdict__" : Str)) = false := by decide)
    (he : starEach (e :: es) X.env = (false, eval e X.env) :: starEach es X.env := by rfl) (hpl : (backTo pos (starEach es X.env)).any (·.1) = false := by rfl) :
    DNw X Wx P I (.Call (.Name x p) (e :: es) [] pos) (tMakeL i C (spStar (m + 1) (spD X.K (m + 2) [0] G)) (WE Wx) tA) (fMakeL i n m G A) J :=
  ⟨pe_makeL M Fn hr hgu hN hv (fun σ => passAt tk σ) ha.pe hdb hcd he hpl, makeL_core i hc hiP hiI (makeSn_core hc hPJ ha.ev)⟩
/-- the class itself as a value -/
theorem de_cls (hm : X.mg x = some (.ref C)) (hc : IsCl X.K n C) (hg : Gl X x := by rfl) (hdb : (x == ("__debug__" : Str)) = false := by decide) : DE X Wx P I (.Name x pos) (tC (.ref C)) (fC (.cl n)) I :=
  de_of (pe_glob hg hm rfl hdb) fun W ρ σ Hb H Q post xp E f _ q => q _ _ _ _ _ f E (Sub.refl _) (.cl hc)
end
end DL

/-! DG12: classmethods. -/
namespace DL
open PySem L2 ClX
open PyProof.Rows hiding St
def tCls (C : Addr) (t : TA) : TA := fun σ H Q => t σ H fun vs H1 => Q (.ref C :: vs) H1
section
variable {X : Cx} {k : Nat} {C p g : Addr} {mc : Value} {sp : Sp} {E : St → XK} {o e : Expr} {es : List Expr} {m : Str} {pos apos : Pos} {t : TA} {pl : Sem Bool}
theorem run_cmG {pins : List (Addr × Obj)} {σ : St} {H : Hp} {s : Shared} {q : Addr} {Q : VK} {us : List Value} {vs : List V} (F : FnG X.prog X.w X.K X.mg X.base k g sp) (hr : Room k X.A) (hgu : X.A.guards = some []) (hx : PassesAt (L2.CX X.prog X.w) X σ (E σ)) (I : Inv X ((q, PySem.W.methodObj (.ref g) (.ref C)) :: pins) σ H s)
    (r : Vals vs us) (h : sp (.ref C :: vs) H Q (E σ)) : wpAny (model X.prog X.w) X.A (call (.ref q) us) (EP X pins σ Q) X.xe s := by
  have z : wpAny (model X.prog X.w) X.A (call (.ref q) us) (EP X ((q, PySem.W.methodObj (.ref g) (.ref C)) :: pins) σ Q) X.xe s :=
    wpAny_call (PySem.W.method_call (pin_at I) (run_G (us := .ref C :: us) (vs := .ref C :: vs) F hr hgu hx I (.cons rfl r) h))
  exact thn z fun _ _ y => unpinE y
theorem pe_cmethG (ho : PE X o (tC (.ref C))) (r : CRead X.K C mc) (c : CMet X.K C mc m p g) (F : FnG X.prog X.w X.K X.mg X.base k g sp) (hr : Room k X.A) (hgu : X.A.guards = some []) (hx : ∀ σ, PassesAt (L2.CX X.prog X.w) X σ (E σ)) (ha : PA X (e :: es) t)
    (hst : starEach (e :: es) X.env = (false, eval e X.env) :: starEach es X.env := by rfl) (hpl : (backTo pos (starEach es X.env)).any (·.1) = false := by rfl)
    (ht : eval (.Call (.Attribute o m apos) (e :: es) [] pos) X.env = (do
      let ov ← eval o X.env
      standAt apos.atName
      let (f, first) ← holding [ov] (getMethod ov m pl)
      callWith pos f first (backTo pos (starEach (e :: es) X.env)) (backToKw pos (keywordEach [] X.env))) := by rfl) :
    PE X (.Call (.Attribute o m apos) (e :: es) [] pos) (tCallS sp E (tCls C t)) := by
  refine ⟨fun pins s σ H Q I h => ?_⟩
  refine PySem.W.methodCall_KW (pl := pl) (thn (ho.run pins s σ H (fun x H1 => x = .ref C ∧ H1 = H) I ⟨rfl, rfl⟩) fun u s1 ⟨x, H1, I1, rx, ex, eH⟩ => ?_) ht
  subst ex eH
  obtain rfl : u = Value.ref C := rx
  refine getmethcm_ok I1 r c fun s2 I2 => ?_
  refine callwith_cm I2 (base_none I1 (Nat.le_refl _)) c.fi (thn (ha.run pos _ s2 σ _ _ I2 h) fun us s3 ⟨vs, H2, I3, rv, q2⟩ => ⟨⟨pin_at I3, I3.kIn⟩, ?_⟩) hst hpl
  exact run_cmG F hr hgu (hx σ) I3 rv q2
end
section
variable {X : Cx} {Wx : WX} {P I J J1 : List Nat} {e o : Expr} {es : List Expr} {B : Env → (Env → Env → Prop) → XP → Prop} {sl : List (Option Nat)} {pos p' apos : Pos} {k nn : Nat} {p g : Addr} {G : DFn} {x m : Str} {io : List Nat} {tA : TA} {C : Addr} {mc : Value}
theorem de_cmeth {n : Str} {pl : Sem Bool} (hc : IsCl X.K n C) (hm : X.mg x = some (.ref C)) (r : CRead X.K C mc) (c : CMet X.K C mc m p g) (Fn : FnG X.prog X.w X.K X.mg X.base k g (spD X.K nn io G)) (hr : Room k X.A) (hgu : X.A.guards = some []) (tk : Takes X Wx)
    (hb : DO X Wx P I (e :: es) tA B sl J) (hio : ioOf 0 (none :: sl) = io := by decide) (hsl : ∀ j ∈ slots (none :: sl), j ∈ P ∨ j ∈ J := by decide) (nd : (slots (none :: sl)).Nodup := by decide) (hPJ : ∀ j ∈ J, j ∉ P := by decide) (hn : (none :: sl).length = nn := by decide)
    (hg : Gl X x := by rfl) (hdb : (x == ("__debug__" : Str)) = false := by decide)
    (hst : starEach (e :: es) X.env = (false, eval e X.env) :: starEach es X.env := by rfl) (hpl : (backTo pos (starEach es X.env)).any (·.1) = false := by rfl)
    (ht : eval (.Call (.Attribute (.Name x p') m apos) (e :: es) [] pos) X.env = (do
      let ov ← eval (.Name x p') X.env
      standAt apos.atName
      let (f, first) ← holding [ov] (getMethod ov m pl)
      callWith pos f first (backTo pos (starEach (e :: es) X.env)) (backToKw pos (keywordEach [] X.env))) := by rfl) :
    DE X Wx P I (.Call (.Attribute (.Name x p') m apos) (e :: es) [] pos) (tCallS (spD X.K nn io G) (WE Wx) (tCls C tA)) (fCall G (none :: sl) (oVal (fC (.cl n)) B)) J :=
  de_of (pe_cmethG (pe_glob hg hm rfl hdb) r c Fn hr hgu (fun σ => passAt tk σ) hb.pe hst hpl ht) (call_core (t := tCls C tA) tk hio hsl nd hPJ hn fun W ρ σ Hb H Q post xp E f x q =>
    hb.ev W ρ σ Hb H _ _ xp E f x fun ds ρ2 vs Hb2 H2 f2 E2 s2 i2 => q _ _ _ _ _ f2 E2 s2 ⟨⟨_, rfl, .cl hc⟩, i2⟩)
end
end DL

/-! DG13: sorted of a list of (pair, anything) with different pairs. -/
namespace SrtI
open PySem PyProof.Rows Srt PySem.SeqAt SrtO
section
variable {prog : Program} {w : World} {A : Around} {E : Value → Shared → Prop} {s : Shared}
theorem pair_eq {v u : Value} {x y x' y' : Int} (h1 : Srt.IsPair s.heap v x y) (h2 : Srt.IsPair s.heap u x' y') (hu : A.units < cLine) : EqAt A s v u (decide (x = x' ∧ y = y')) := by
  obtain ⟨a, o, t, u, n, e, ho, hc, hd⟩ := h1
  obtain ⟨a', o', t', u', n', e', ho', hc', hd'⟩ := h2
  subst e e'
  by_cases ea : a = a'
  · subst ea
    rw [ho] at ho'; cases ho'
    rw [hd] at hd'
    have e1 : x = x' ∧ y = y' := by
      simp only [Data.seq.injEq] at hd'
      have := congrArg Array.toList hd'.1
      simp at this
      exact ⟨this.1.1, this.2.1⟩
    rw [decide_eq_true e1]
    exact EqAt.same (.ref a)
  · refine EqAt.of_refs ea ?_
    have R := RcAt.tuples (A := A) (s := s) (e := fun j => if j = 0 then (x == x') else (y == y')) ⟨o, ho, hc, n, hd⟩ ⟨o', ho', hc', n', hd'⟩ hu (fun j h1 h2 => by
      match j, h1, h2 with
      | 0, _, _ => exact EqAt.int_int x t x' t'
      | 1, _, _ => exact EqAt.int_int y u y' u')
    have e2 : ((List.range (min (#[Value.int x t, Value.int y u] : Array Value).size (#[Value.int x' t', Value.int y' u'] : Array Value).size)).all (fun j => if j = 0 then (x == x') else (y == y')) && (#[Value.int x t, Value.int y u] : Array Value).size == (#[Value.int x' t', Value.int y' u'] : Array Value).size) = decide (x = x' ∧ y = y') := by
      have e3 : List.range 2 = [0, 1] := rfl
      by_cases p : x = x' <;> by_cases q : y = y' <;> simp [e3, p, q]
    rw [← e2]
    exact R
theorem pair_lt {v u : Value} {x y x' y' : Int} (h1 : Srt.IsPair s.heap v x y) (h2 : Srt.IsPair s.heap u x' y') (hu : A.units < cLine) : Ob.RcOp .Lt A s v u (lexB (x, y) (x', y')) := by
  obtain ⟨a, o, t, u, n, e, ho, hc, hd⟩ := h1
  obtain ⟨a', o', t', u', n', e', ho', hc', hd'⟩ := h2
  subst e e'
  have R := Ob.RcOp.tuples_lt (A := A) (s := s) (e := fun j => if j = 0 then (x == x') else (y == y')) (r := fun j => if j = 0 then decide (x < x') else decide (y < y')) ⟨o, ho, hc, n, hd⟩ ⟨o', ho', hc', n', hd'⟩ hu (fun j h1 h2 => by
      match j, h1, h2 with
      | 0, _, _ => exact EqAt.int_int x t x' t'
      | 1, _, _ => exact EqAt.int_int y u y' u') (fun j h1 h2 _ => by
      match j, h1, h2 with
      | 0, _, _ => exact Ob.RcOp.lt_int x x' t t'
      | 1, _, _ => exact Ob.RcOp.lt_int y y' u u')
  have e2 : Ob.lexAt (fun j => if j = 0 then (x == x') else (y == y')) (fun j => if j = 0 then decide (x < x') else decide (y < y')) (decide ((#[Value.int x t, Value.int y u] : Array Value).size < (#[Value.int x' t', Value.int y' u'] : Array Value).size)) 0 (min (#[Value.int x t, Value.int y u] : Array Value).size (#[Value.int x' t', Value.int y' u'] : Array Value).size) = lexB (x, y) (x', y') := by
    unfold lexB
    by_cases p : x = x' <;> by_cases q : y = y' <;> simp [Ob.lexAt, p, q]
  rw [← e2]
  exact R
/-- a tuple of a pair of ints and one thing more -/
def IsItem (h : Heap) (v : Value) (x y : Int) : Prop := ∃ a o n p c, v = .ref a ∧ h.get? a = some o ∧ o.cls = .type "tuple" ∧ o.data = .seq #[.ref p, c] n ∧ Srt.IsPair h (.ref p) x y
theorem IsItem.keeps {h h' : Heap} {v : Value} {x y : Int} (i : IsItem h v x y) (k : ∀ b o, h.get? b = some o → o.cls = .type "tuple" → h'.get? b = some o) : IsItem h' v x y := by
  obtain ⟨a, o, n, p, c, e, ho, hc, hd, hp⟩ := i
  exact ⟨a, o, n, p, c, e, k _ _ ho hc, hc, hd, hp.keeps k⟩
theorem item_cmp {vs : List Value} {k : Value → Int × Int} (hu : A.units < cLine) (hp : ∀ v ∈ vs, IsItem s.heap v (k v).1 (k v).2) (inj : ∀ v ∈ vs, ∀ u ∈ vs, k v = k u → v = u) : Cmp prog w A s (tuples' false) (fun p => p.1 ∈ vs) (lt2 fun v u => lexB (k v) (k u)) := by
  intro p q hm hm'
  have h1 := hp _ hm
  have h2 := hp _ hm'
  have hi := inj _ hm _ hm'
  show wpAny (model prog w) A (keyLt' (tuples' false) p.1 q.1) (fun r s' => s' = s ∧ r = lexB (k p.1) (k q.1)) (fun _ _ => False) s
  obtain ⟨a, o, n, p1, c, e, ho, hc, hd, hpp⟩ := h1
  obtain ⟨a', o', n', p1', c', e', ho', hc', hd', hpp'⟩ := h2
  rw [e, e']
  rw [e, e'] at hi
  rw [e] at hpp
  rw [e'] at hpp'
  refine PySem.W.kat_lt ho hd ho' hd' ?_
  show PySem.W.KatLex prog w A false (decide (2 < 2)) _ [(.ref p1, .ref p1'), (c, c')] 0 s
  refine PySem.W.kat_cons (pair_eq hpp hpp' hu prog w _ _ ?_)
  refine PySem.W.kat_go (fun e1 => ?_) (fun e1 => ?_)
  · have ek : k (.ref a) = k (.ref a') := by
      have := of_decide_eq_true e1
      exact Prod.ext this.1 this.2
    have ev := hi ek
    cases ev
    rw [ho] at ho'; cases ho'
    rw [hd] at hd'
    have ec : c = c' := by
      simp only [Data.seq.injEq] at hd'
      have := congrArg Array.toList hd'.1
      simp at this
      exact this.2
    subst ec
    refine PySem.W.kat_yes (PySem.W.kat_cons (EqAt.same c prog w _ _ ?_))
    refine PySem.W.kat_yes (PySem.W.kat_nil ⟨rfl, ?_⟩)
    have := (swo_lex k).asym (.ref a) (.ref a)
    cases z : lexB (k (.ref a)) (k (.ref a)) with
    | false => rfl
    | true => rw [this z] at z; cases z
  · exact PySem.W.kat_no (PySem.W.kat_one _ _ (pair_lt hpp hpp' hu prog w _ _ ⟨rfl, rfl⟩))
theorem firsts_item {h : Heap} : ∀ {vs : List Value}, (∀ v ∈ vs, ∃ x y, IsItem h v x y) → ∃ fs : List Value, PySem.W.KatTups h vs fs ∧ fs.length = vs.length ∧ ∀ f ∈ fs, ∃ x y, Srt.IsPair h f x y
  | [], _ => ⟨[], PySem.W.KatTups.nil, rfl, fun _ hm => by simp at hm⟩
  | v :: vs, hp => by
    obtain ⟨fs, h1, h2, h3⟩ := firsts_item (vs := vs) fun v' hm => hp v' (List.mem_cons_of_mem _ hm)
    obtain ⟨x, y, a, o, n, p, c, e, ho, hc, hd, hpp⟩ := hp v (List.mem_cons_self ..)
    subst e
    refine ⟨.ref p :: fs, PySem.W.KatTups.cons ho hc hd rfl h1, by rw [List.length_cons, List.length_cons, h2], fun f hm => ?_⟩
    rcases List.mem_cons.mp hm with rfl | hm
    · exact ⟨x, y, hpp⟩
    · exact h3 f hm
theorem items_sortable {a : Addr} {vs : List Value} {k : Value → Int × Int} (h0 : 0 < vs.length) (hu : A.units < cLine) (hp : ∀ v ∈ vs, IsItem s.heap v (k v).1 (k v).2) (inj : ∀ v ∈ vs, ∀ u ∈ vs, k v = k u → v = u) (ha : ∀ o, s.heap.get? a = some o → o.cls ≠ .type "tuple") : SortableO prog w A s a vs fun v u => lexB (k v) (k u) := by
  intro h' keep
  have hp' : ∀ v ∈ vs, IsItem h' v (k v).1 (k v).2 := fun v hm => (hp v hm).keeps fun b o e c => keep b o (fun z => by subst z; exact ha o e c) e
  obtain ⟨fs, h1, h2, h3⟩ := firsts_item fun v hm => ⟨_, _, hp' v hm⟩
  refine ⟨tuples' false, fun Q E hq => ?_, item_cmp hu hp' inj⟩
  refine PySem.W.kat_kind (T := .type "tuple") h1 (by omega) (fun f hm => ?_) (by rfl) ?_
  · obtain ⟨x, y, a, o, t, u, n, rfl, ho, hc, hd⟩ := h3 f hm
    exact fun A Q E s' k q => wpAny_typeOf (show s'.TypeIs (.ref a) "tuple" from ⟨o, k _ _ ho, hc⟩) q
  · have e : (Value.type "tuple" != Value.type "tuple") = false := by first | decide +kernel | rfl | decide
    rw [e]
    exact hq
theorem sorted_items {l : Addr} {vs : List Value} {k : Value → Int × Int} {Q : Value → Shared → Prop} (hu : A.units + 2 < cLine) (hl : s.heap.IsList l vs.toArray) (hz : vs.length ≤ sizeLine) (hp : ∀ v ∈ vs, IsItem s.heap v (k v).1 (k v).2) (inj : ∀ v ∈ vs, ∀ u ∈ vs, k v = k u → v = u)
    (h : ∀ (h' : Heap) (d : Addr) (out : List Value), Srtd (fun v u => lexB (k v) (k u)) out → Stb (fun v u => lexB (k v) (k u)) out vs → (∀ b o, s.heap.get? b = some o → h'.get? b = some o) → s.heap.objs.size ≤ d → (∃ n, h'.get? d = some (seqObj "list" out.toArray n)) → Q (.ref d) { s with heap := h' }) :
    wpAny (model prog w) A (call (.builtin "sorted") [.ref l]) Q E s := by
  refine sorted_ord (swo_lex k) hl hz (fun h2 h₁ a ha kk => ?_) fun out hs hb => ?_
  · refine items_sortable (s := { s with heap := h₁ }) (by omega) (by show A.units + 1 + 1 < cLine; omega) (fun v hm => (hp v hm).keeps fun b o e _ => (kk b o e).2) inj fun o e => ?_
    have e' : some o = some (seqObj "list" vs.toArray 0) := e.symm.trans ha
    cases e'
    intro c
    exact absurd (Value.type.inj c) (by decide)
  · exact h _ _ out hs hb (fun b o e => sortedAll_old e) (Nat.le_succ _) (sortedAll_at s.heap vs out.toArray)
end
end SrtI

/-! DG14: sorted of a list of (pair, anything) with different pairs, as a rule. -/
namespace L2
open PySem PySem.Spec PyProof.Rows
def rSortIL (K : PySem.W.Frag) : List V → Hp → VK → Prop := fun vs H Q => ∃ (a : Addr) (xs : List V) (k : V → Int × Int), vs = [V.ref a] ∧ SqL K H a xs ∧
  (∀ x ∈ xs, ∃ t p c, x = V.ref t ∧ H t = some (.tup [.ref p, c]) ∧ H p = some (.tup [.int (k x).1, .int (k x).2])) ∧ (∀ x ∈ xs, ∀ y ∈ xs, k x = k y → x = y) ∧
  ∀ ys p, SrtO.Srtd (ltP k) ys → SrtO.Stb (ltP k) ys xs → H p = none → Q (.ref p) (upd H p (.lst ys))
section
variable {X : Cx}
theorem cr_sortIL (hu : X.A.units + 2 < cLine) : CallR X (.builtin "sorted") (rSortIL X.K) := by
  intro pins s σ H vs us Q I r h
  obtain ⟨a, xs, k, rfl, hs, hx, inj, q⟩ := h
  obtain ⟨its, rv, hl, hz⟩ := I.list hs
  obtain ⟨u, rfl, ru⟩ := vals1 r
  obtain rfl : u = Value.ref a := ru
  obtain ⟨e1, e2⟩ := refs_back rv fun x m => by
    obtain ⟨t, _, _, e, _⟩ := hx x m
    exact ⟨t, e⟩
  have mem : ∀ v ∈ its, ∃ t, v = Value.ref t ∧ V.ref t ∈ xs := fun v hv => by
    obtain ⟨t, rfl⟩ := e2 v hv
    exact ⟨t, rfl, by rw [e1]; exact List.mem_map.mpr ⟨_, hv, rfl⟩⟩
  refine SrtI.sorted_items (k := fun u => k (backV u)) hu hl.isList (by rw [← rv.length]; exact hz) (fun v hv => ?_) (fun v hv u hu e => ?_) fun h' d out h1 h2 kp hd hn => ?_
  · obtain ⟨t, rfl, hm⟩ := mem v hv
    obtain ⟨t', p, c, e, ht, hp⟩ := hx _ hm
    cases e
    obtain ⟨_, its2, r2, o, ho, hc, n, hd⟩ := I.hok _ _ ht
    obtain ⟨u1, u2, rfl, ri, rj⟩ := vals2 r2
    obtain rfl : u1 = Value.ref p := ri
    obtain ⟨_, its3, r3, o3, ho3, hc3, n3, hd3⟩ := I.hok _ _ hp
    obtain ⟨u3, u4, rfl, r5, r6⟩ := vals2 r3
    obtain ⟨t1, rfl⟩ := r5
    obtain ⟨t2, rfl⟩ := r6
    exact ⟨t, o, n, p, u2, rfl, ho, hc, hd, p, o3, t1, t2, n3, rfl, ho3, hc3, hd3⟩
  · obtain ⟨t, rfl, hm⟩ := mem v hv
    obtain ⟨t', rfl, hm'⟩ := mem u hu
    have := inj _ hm _ hm' e
    cases this
    rfl
  · have h3 : ∀ u ∈ out, ∃ a, u = Value.ref a := fun u hu => e2 u (h2.perm.mem_iff.mp hu)
    obtain ⟨n, hn⟩ := hn
    have hb : SrtO.Stb (ltP k) (out.map backV) xs := by
      rw [e1]
      exact SrtO.Stb.map (ltP_swo k) backV h2
    refine ⟨.ref d, upd H d (.lst (out.map backV)), I.laid (t' := s.toks) kp hd ⟨?_, out, n, vals_back h3, hn⟩, rfl, q _ d (SrtO.srtd_map h1) hb (I.hok.fresh hd)⟩
    rw [hb.len]
    exact hz
end
end L2
namespace DL
open PySem L2
theorem isL_perm {K : PySem.W.Frag} {H : Hp} {ys vs : List V} (p : ys.Perm vs) : ∀ {ds : List D}, IsL K H vs ds → ∃ es : List D, es.Perm ds ∧ IsL K H ys es := by
  induction p with
  | nil => intro ds h; exact ⟨ds, .refl _, h⟩
  | cons x p ih =>
    intro ds h
    cases h with
    | cons a r =>
      obtain ⟨es, q, l⟩ := ih r
      exact ⟨_ :: es, q.cons _, .cons a l⟩
  | swap x y l =>
    intro ds h
    cases h with
    | cons a r =>
      cases r with
      | cons b r => exact ⟨_ :: _ :: _, .swap _ _ _, .cons b (.cons a r)⟩
  | trans p q ih1 ih2 =>
    intro ds h
    obtain ⟨es, q1, l1⟩ := ih2 h
    obtain ⟨es2, q2, l2⟩ := ih1 l1
    exact ⟨es2, q2.trans q1, l2⟩
def keyD : D → Option (Int × Int)
  | .tup [.tup [.int x, .int y], _] => some (x, y)
  | _ => none
def keyV (H : Hp) : V → Int × Int
  | .ref t => match H t with
    | some (.tup [.ref p, _]) => (match H p with
      | some (.tup [.int x, .int y]) => (x, y)
      | _ => (0, 0))
    | _ => (0, 0)
  | _ => (0, 0)
theorem key_of {K : PySem.W.Frag} {Hb H : Hp} (s : Sub Hb H) {v : V} {d : D} {q : Int × Int} (i : Is K Hb v d) (e : keyD d = some q) : ∃ t p c, v = V.ref t ∧ H t = some (.tup [.ref p, c]) ∧ H p = some (.tup [.int q.1, .int q.2]) ∧ keyV H v = q := by
  unfold keyD at e
  split at e
  · rename_i x y c
    cases e
    cases i with
    | tup h l =>
      cases l with
      | cons a l =>
        cases l with
        | cons b l =>
          cases l
          cases a with
          | tup h2 l2 =>
            cases l2 with
            | cons a2 l2 =>
              cases l2 with
              | cons b2 l2 =>
                cases l2
                cases a2
                cases b2
                refine ⟨_, _, _, rfl, s.at h, s.at h2, ?_⟩
                simp only [keyV, s.at h, s.at h2]
  · cases e
def ltK (a b : D) : Prop := ∃ p q, keyD a = some p ∧ keyD b = some q ∧ SrtO.lexB p q = true
def gSortI : GN := fun xs k => ∃ d ds, xs = [d] ∧ lstD d = some ds ∧ (∀ e ∈ ds, (keyD e).isSome) ∧ (ds.map keyD).Nodup ∧ ∀ es : List D, es.Perm ds → es.Pairwise ltK → k (.lst es)
theorem lex_tri {p q : Int × Int} (h : SrtO.lexB p q = false) (n : p ≠ q) : SrtO.lexB q p = true := by
  have := SrtO.lexB_no.mp h
  refine SrtO.lexB_iff.mpr ?_
  have n' : ¬ (p.1 = q.1 ∧ p.2 = q.2) := fun z => n (Prod.ext z.1 z.2)
  omega
theorem rv_sortI {K : PySem.W.Frag} : RVN K (rSortIL K) gSortI := fun Hb H xs ds k Q s l g q => by
  obtain ⟨d, ds, rfl, e1, hk, nd, g⟩ := g
  obtain ⟨v, rfl, i⟩ := o_one l
  obtain ⟨a, vs, rfl, h, m⟩ := o_lstD s i e1
  have at1 : ∀ (j : Nat) (x : V), vs[j]? = some x → ∃ e p, ds[j]? = some e ∧ keyD e = some p ∧ keyV H x = p ∧ Is K Hb x e := fun j x hj => by
    have hl : j < ds.length := by rw [← m.length]; exact (List.getElem?_eq_some_iff.mp hj).1
    obtain ⟨x', hx', ix⟩ := m.get (List.getElem?_eq_getElem hl)
    rw [hj] at hx'; cases hx'
    have hs := hk ds[j] (List.getElem_mem hl)
    obtain ⟨p, hp⟩ := Option.isSome_iff_exists.mp hs
    obtain ⟨_, _, _, _, _, _, kv⟩ := key_of s ix hp
    exact ⟨ds[j], p, List.getElem?_eq_getElem hl, hp, kv, ix⟩
  refine ⟨a, vs, keyV H, rfl, h, fun x hx => ?_, fun x hx y hy e => ?_, fun ys p hs hb hp => ?_⟩
  · obtain ⟨j, hj⟩ := List.getElem?_of_mem hx
    obtain ⟨e, p, _, hp, kv, ix⟩ := at1 j x hj
    obtain ⟨t, p', c, e2, h1, h2, kv'⟩ := key_of s ix hp
    rw [kv']
    exact ⟨t, p', c, e2, h1, h2⟩
  · obtain ⟨j, hj⟩ := List.getElem?_of_mem hx
    obtain ⟨i', hi⟩ := List.getElem?_of_mem hy
    obtain ⟨e1', p1, d1, k1, kv1, _⟩ := at1 j x hj
    obtain ⟨e2', p2, d2, k2, kv2, _⟩ := at1 i' y hi
    have ep : p1 = p2 := by rw [← kv1, ← kv2, e]
    have hji : j = i' := by
      have a1 : (ds.map keyD)[j]? = some (some p1) := by rw [List.getElem?_map, d1]; exact congrArg some k1
      have a2 : (ds.map keyD)[i']? = some (some p1) := by rw [List.getElem?_map, d2, ep]; exact congrArg some k2
      exact (List.getElem?_inj (List.getElem?_eq_some_iff.1 a1).1 nd).1 (a1.trans a2.symm)
    subst hji
    rw [hj] at hi
    exact Option.some.inj hi
  · obtain ⟨es, pe, le⟩ := isL_perm hb.perm m
    have ndE : (es.map keyD).Nodup := (pe.map keyD).nodup_iff.2 nd
    have hkE : ∀ e ∈ es, (keyD e).isSome := fun e he => hk e (pe.mem_iff.1 he)
    refine q _ _ _ _ (g es pe ?_) (.one hp) (.lst upd_same (le.mono (Sub.new (s.none hp))))
    rw [List.pairwise_iff_getElem]
    intro i j hi hj hij
    obtain ⟨p1, k1⟩ := Option.isSome_iff_exists.mp (hkE es[i] (List.getElem_mem hi))
    obtain ⟨p2, k2⟩ := Option.isSome_iff_exists.mp (hkE es[j] (List.getElem_mem hj))
    obtain ⟨x, hx, ix⟩ := le.get (List.getElem?_eq_getElem hi)
    obtain ⟨y, hy, iy⟩ := le.get (List.getElem?_eq_getElem hj)
    obtain ⟨_, _, _, _, _, _, kx⟩ := key_of s ix k1
    obtain ⟨_, _, _, _, _, _, ky⟩ := key_of s iy k2
    refine ⟨p1, p2, k1, k2, ?_⟩
    have hlt : (ltP (keyV H)) y x = false := by
      obtain ⟨hi', ex⟩ := List.getElem?_eq_some_iff.1 hx
      obtain ⟨hj', ey⟩ := List.getElem?_eq_some_iff.1 hy
      have := (List.pairwise_iff_getElem.1 hs) i j hi' hj' hij
      rw [ex, ey] at this
      exact this
    refine lex_tri (p := p2) (q := p1) ?_ ?_
    · have h2 : SrtO.lexB (keyV H y) (keyV H x) = false := hlt
      rw [kx, ky] at h2
      exact h2
    · intro e
      subst e
      have a1 : (es.map keyD)[i]? = some (some p2) := by rw [List.getElem?_map, List.getElem?_eq_getElem hi]; exact congrArg some k1
      have a2 : (es.map keyD)[j]? = some (some p2) := by rw [List.getElem?_map, List.getElem?_eq_getElem hj]; exact congrArg some k2
      have := (List.getElem?_inj (List.getElem?_eq_some_iff.1 a1).1 ndE).1 (a1.trans a2.symm)
      omega
end DL

/-! DG15: d.get(k, z), {} with tuple keys, starred items in a display. -/
namespace DL
open PySem L2
open PyProof.Rows hiding St
def fGet2 (F Fk Fz : FE) : FE := fun ρ post xp => F ρ (fun d ρ1 => isDict d ∧ Fk ρ1 (fun k ρ2 => Fz ρ2 (fun z ρ3 => ∃ r, getK d k = some r ∧ post (r.getD z) ρ3) xp) xp) xp
@[simp ↓] theorem fGet2_ap (F Fk Fz : FE) (ρ : Env) (post : Post) (xp : XP) : fGet2 F Fk Fz ρ post xp = (F ρ (fun d ρ1 => isDict d ∧ Fk ρ1 (fun k ρ2 => Fz ρ2 (fun z ρ3 => ∃ r, getK d k = some r ∧ post (r.getD z) ρ3) xp) xp) xp) := (rfl)
def fGetO (i : Nat) (Fk Fz : FE) : FE := fun ρ post xp => (∃ d0, get ρ i = some d0 ∧ isDict d0) ∧ Fk ρ (fun k ρ2 => Fz ρ2 (fun z ρ3 => ∃ d r, get ρ3 i = some d ∧ getK d k = some r ∧ post (r.getD z) ρ3) xp) xp
@[simp ↓] theorem fGetO_ap (i : Nat) (Fk Fz : FE) (ρ : Env) (post : Post) (xp : XP) : fGetO i Fk Fz ρ post xp = ((∃ d0, get ρ i = some d0 ∧ isDict d0) ∧ Fk ρ (fun k ρ2 => Fz ρ2 (fun z ρ3 => ∃ d r, get ρ3 i = some d ∧ getK d k = some r ∧ post (r.getD z) ρ3) xp) xp) := (rfl)
theorem isD_cell {K : PySem.W.Frag} {Hb H : Hp} {p : Addr} {d : D} (c : RCell K Hb H p d) (h : isDict d) : IsD H p := by
  cases d <;> first | exact h.elim | skip
  · obtain ⟨vs, h1, _⟩ := c; exact .inl ⟨vs, h1⟩
  · obtain ⟨vs, h1, _⟩ := c; exact .inr ⟨vs, h1⟩
  · obtain ⟨vs, h1, _⟩ := c; exact .inl ⟨vs, h1⟩
theorem is_dictref {K : PySem.W.Frag} {Hb : Hp} {v : V} {d : D} (i : Is K Hb v d) (h : isDict d) : ∃ p, v = .ref p := by
  cases i <;> first | exact h.elim | exact ⟨_, rfl⟩
theorem cell_dict {K : PySem.W.Frag} {Hb H : Hp} {a : Addr} {d : D} (i : Is K Hb (.ref a) d) (s : Sub Hb H) (h : isDict d) : RCell K Hb H a d :=
  cell_of_is i s (by cases d <;> first | exact h.elim | trivial)
section
variable {X : Cx} {Wx : WX} {P L I J J1 J2 : List Nat} {o e f : Expr} {es : List Expr} {F Fk Fz : FE} {A : FA} {pos p apos cpos : Pos} {td ty tx te : TE} {tA : TA} {x : Str}
theorem de_get2 (hu : X.A.units + 1 < cLine) (ho : DE X Wx P I o td F J1) (hk : DE X Wx P J1 e ty Fk J2) (hz : DE X Wx P J2 f tx Fz J) (m : M2 X o "get" apos e f cpos := by exact ⟨rfl, rfl, rfl, rfl⟩) : DE X Wx P I (.Call (.Attribute o "get" apos) [e, f] [] cpos) (tDGet2 td ty tx) (fGet2 F Fk Fz) J :=
  de_of (pe_dget2 hu ho.pe hk.pe hz.pe m) fun W ρ σ Hb H Q post xp E g x q => ho.ev W ρ σ Hb H _ _ xp E g x fun d ρ1 v Hb1 H1 f1 E1 s1 i1 => by
    obtain ⟨dd, f1⟩ := f1
    obtain ⟨a, rfl⟩ := is_dictref i1 dd
    refine ⟨a, rfl, isD_cell (cell_dict i1 E1.sub dd) dd, hk.ev W ρ1 σ Hb1 H1 _ _ xp E1 f1 x fun kd ρ2 y Hb2 H2 f2 E2 s2 i2 => hz.ev W ρ2 σ Hb2 H2 _ _ xp E2 f2 x fun zd ρ3 z Hb3 H3 f3 E3 s3 i3 => ?_⟩
    obtain ⟨r, gr, f3⟩ := f3
    have i1' := i1.mono (s2.trans s3)
    obtain ⟨ov, dg, h1, h2⟩ := cell_get (cell_dict i1' E3.sub dd) (i2.mono s3) E3.sub gr
    refine ⟨ov, dg, ?_⟩
    cases r with
    | none => rw [h1 rfl]; exact q _ _ _ _ _ f3 E3 ((s1.trans s2).trans s3) i3
    | some w =>
      obtain ⟨v', e', i'⟩ := h2 w rfl
      rw [e']
      exact q _ _ _ _ _ f3 E3 ((s1.trans s2).trans s3) i'
theorem de_getO (hu : X.A.units + 1 < cLine) (i : Nat) (hi : i ∈ P ∨ i ∈ I := by decide) (hj : i ∈ P ∨ i ∈ J := by decide) (hk : DE X Wx P I e ty Fk J2) (hz : DE X Wx P J2 f tx Fz J) (hN : X.N[i]? = some x := by rfl) (hv : Vis X.env.scope x := by first | exact Or.inl rfl | exact Or.inr (Or.inl rfl) | exact Or.inr (Or.inr rfl)) (hd : (x == ("__debug__" : Str)) = false := by decide)
    (hcd : (x == ("__classdict__" : Str)) = false := by decide) (m : M2 X (.Name x p) "get" apos e f cpos := by exact ⟨rfl, rfl, rfl, rfl⟩) : DE X Wx P I (.Call (.Attribute (.Name x p) "get" apos) [e, f] [] cpos) (tDGet2 (tVar i) ty tx) (fGetO i Fk Fz) J :=
  de_of (pe_dget2 hu (pe_var hN hv hd hcd) hk.pe hz.pe m) fun W ρ σ Hb H Q post xp E g x q => by
    obtain ⟨⟨d0, g0, dd⟩, f1⟩ := g
    obtain ⟨a, ea, _, c0, _⟩ := E.cel i d0 hi g0
    refine ⟨_, ea, a, rfl, isD_cell c0.r dd, hk.ev W ρ σ Hb H _ _ xp E f1 x fun kd ρ2 y Hb2 H2 f2 E2 s2 i2 => hz.ev W ρ2 σ Hb2 H2 _ _ xp E2 f2 x fun zd ρ3 z Hb3 H3 f3 E3 s3 i3 => ?_⟩
    obtain ⟨d, r, g3, gr, f3⟩ := f3
    obtain ⟨a', ea', _, c3, _⟩ := E3.cel i d hj g3
    rw [ea] at ea'
    cases ea'
    obtain ⟨ov, dg, h1, h2⟩ := cell_get c3.r (i2.mono s3) E3.sub gr
    refine ⟨ov, dg, ?_⟩
    cases r with
    | none => rw [h1 rfl]; exact q _ _ _ _ _ f3 E3 (s2.trans s3) i3
    | some w =>
      obtain ⟨v', e', i'⟩ := h2 w rfl
      rw [e']
      exact q _ _ _ _ _ f3 E3 (s2.trans s3) i'
/-- {} whose keys will be tuples -/
theorem dn_dict0T : DNw X Wx P I (.Dict [] [] pos) tDNewT (fC (.dt [])) I :=
  ⟨pe_dnewT, fun W ρ σ Hb H Q post xp E f x q p hp => q _ _ _ _ _ f (E.more hp) (Sub.refl _) (NewAt.mk' E hp ⟨[], upd_same, rfl, .nil⟩)⟩
/-- a starred item, then others -/
def fStarC (F : FE) (A : FA) : FA := fun ρ post xp => F ρ (fun d ρ1 => ∃ xs, (tupD d = some xs ∨ lstD d = some xs) ∧ A ρ1 (fun ys ρ2 => post (xs ++ ys) ρ2) xp) xp
@[simp ↓] theorem fStarC_ap (F : FE) (A : FA) (ρ : Env) (post : List D → Env → Prop) (xp : XP) : fStarC F A ρ post xp = (F ρ (fun d ρ1 => ∃ xs, (tupD d = some xs ∨ lstD d = some xs) ∧ A ρ1 (fun ys ρ2 => post (xs ++ ys) ρ2) xp) xp) := (rfl)
end
end DL

/-! DG16: walks over dicts: keys, items. -/
namespace L2
open PySem PySem.Spec PyProof.Rows
/-- the dict that t gives is locked from here on -/
def tLk (t : TE) : TE := fun σ H Q => t σ H fun x H1 => ∃ d u, x = .ref d ∧ ((∃ o, H1 d = some (.frz o u) ∧ Q x H1) ∨ (H1 d = some u ∧ Mut (some u) ∧ ∀ o, Q x (upd H1 d (.frz o u))))
theorem pe_lk {X : Cx} {e : Expr} {t : TE} (h : PE X e t) : PE X e (tLk t) := by
  refine ⟨fun pins s σ H Q I hw => thn (h.run pins s σ H _ I hw) fun v s1 ⟨x, H1, I1, r, d, u, ex, q⟩ => ?_⟩
  rcases q with ⟨o, hd, q⟩ | ⟨hd, mu, q⟩
  · exact ⟨x, H1, I1, r, q⟩
  · obtain ⟨od, I2⟩ := I1.lock hd mu
    exact ⟨x, _, I2, r, q od⟩
section
variable {X : Cx} {pins : List (Addr × Obj)} {σ : St} {H : Hp} {s : Shared} {d : Addr} {o : Obj}
/-- what stands at a locked dict of tuple keys: key and value of each entry -/
theorem Inv.frzTv {kvs : List (List Key × V)} (I : Inv X pins σ H s) (h : H d = some (.frz o (.dT kvs))) :
    (d == sysModules) = false ∧ s.heap.get? d = some o ∧ o.ExactDict ∧ ∃ (es : Array DictEntry) (ep : Nat), o.data = .dict es ep ∧ es.size = kvs.length ∧
      ∀ (i : Nat) (k : List Key) (v : V), kvs[i]? = some (k, v) → ∃ (en : DictEntry) (q : Addr), es[i]? = some en ∧ en.key = .ref q ∧ H q = some (.tup (k.map kV)) ∧ RelV v en.val := by
  obtain ⟨hd, _, hs, xs, pr, o1, es, ep, ho, hx, hdt, he, _⟩ := I.hok d _ h
  have e1 : o1 = o := Option.some.inj (ho.symm.trans hd)
  subst e1
  refine ⟨hs, ho, hx, es, ep, hdt, (size_of_entries he).trans (Paired.length pr).symm, fun i k v e => ?_⟩
  obtain ⟨b, hb, e1, e2, e3⟩ := paired_get pr e
  have q := entry_at he i
  rw [hb] at q
  exact ⟨_, b.2.1, q, rfl, e2, e3⟩
end
/-- the pairs of a locked dict of tuple keys: a new tuple of the key's own tuple and the value -/
def ItiT (d : Addr) (o : Obj) (kvs : List (List Key × V)) : It where
  go i H := H d = some (.frz o (.dT kvs)) ∧ i < kvs.length
  yld i H x H' := ∃ (T q : Addr) (k : List Key) (v : V), kvs[i]? = some (k, v) ∧ x = .ref T ∧ H T = none ∧ H q = some (.tup (k.map kV)) ∧ H' = upd H T (.tup [.ref q, v])
  stop i H := H d = some (.frz o (.dT kvs)) ∧ kvs.length ≤ i
theorem turn_itT {P : Program} {w : World} {K : PySem.W.Frag} {d : Addr} {o : Obj} {es : Array DictEntry} {ep : Nat} {kvs : List (List Key × V)} {elts : List Expr} {kk : Nat} {tpos : Pos} (it : Addr) (hod : o.data = .dict es ep) :
    Turn P w K (.Tuple elts kk tpos) (ItiT d o kvs) [it] it (fun i h => ∃ a b, IsItemIter h it d i kvs.length ep a b) where
  mem := List.mem_singleton.mpr rfl
  obj := fun i h ⟨a, b, q⟩ c hc => by
    cases List.mem_singleton.mp hc
    exact ⟨_, q, fun v z => nomatch z⟩
  keep := fun i h h' ⟨a, b, q⟩ k => ⟨a, b, k it (List.mem_singleton.mpr rfl) _ q⟩
  item := by
    intro X eP ew eK hc i pins s σ H E I hf st hg
    subst eP ew eK
    obtain ⟨hd, hi⟩ := hg
    obtain ⟨_, hgd, hx, es1, ep1, hdt, hsz, ent⟩ := I.frzTv hd
    obtain ⟨e1, e2⟩ := dict_ep hod hdt
    subst e1 e2
    obtain ⟨⟨k, v⟩, hkv⟩ : ∃ p, kvs[i]? = some p := ⟨_, List.getElem?_eq_getElem hi⟩
    obtain ⟨en, q, hen, hkey, hHq, rv⟩ := ent i k v hkv
    obtain ⟨a, b, hit⟩ := st
    rw [← hsz] at hit
    have hie : i < es1.size := by rw [hsz]; exact hi
    have een : es1[i] = en := by
      have := Array.getElem?_eq_getElem hie
      rw [hen] at this
      exact (Option.some.inj this).symm
    have hlt : it < s.heap.objs.size := Heap.lt_size hit
    refine DT.nextI hit ⟨o, hgd, hx, hdt⟩ hie fun h1 hout hT hz hk => ⟨_, rfl, wpAny_letOwnedTupleGo_items (s := { s with heap := h1 }) hout fun h2 hit2 sb => ?_⟩
    rw [een] at hT
    have hT2 : h2.get? s.heap.objs.size = some { cls := .type "tuple", data := .seq #[en.key, en.val] } := (sb.2 _ (Nat.ne_of_gt hlt)).trans hT
    have new : ObjOk X.prog X.w (upd H s.heap.objs.size (.tup [.ref q, v])) h2 s.heap.objs.size (.tup [.ref q, v]) :=
      ⟨by show 2 ≤ sizeLine; decide, [en.key, en.val], .cons hkey (.cons rv .nil), ⟨_, hT2, rfl, _, rfl⟩⟩
    have I1 : Inv X pins σ (upd H s.heap.objs.size (.tup [.ref q, v])) { s with heap := h2 } :=
      I.turnedNew (t' := s.toks) (ch := [it]) (fun c oc hb e => by
        have hb : c ≠ it := fun z => hb (List.mem_singleton.mpr z)
        exact (sb.2 c hb).trans (hk c oc hb e)) hf (Nat.le_refl _) new
    refine ⟨.ref s.heap.objs.size, _, I1, rfl, ⟨_, q, k, v, hkv, rfl, I.hok.fresh (Nat.le_refl _), hHq, rfl⟩, ⟨en.key, en.val, ?_⟩, fun c hb => ?_⟩
    · rw [← hsz]
      rw [een] at hit2
      exact hit2
    · cases List.mem_singleton.mp hb
      rw [upd_ne (Nat.ne_of_lt hlt)]
      exact (hf it (List.mem_singleton.mpr rfl)).1
  done := by
    intro X eP ew eK hc i pins s σ H E I hf st hg
    subst eP ew eK
    obtain ⟨hd, hi⟩ := hg
    obtain ⟨f0, f1, f2, f3, f4, f5⟩ := hf it (List.mem_singleton.mpr rfl)
    obtain ⟨_, hgd, hx, es1, ep1, hdt, hsz, _⟩ := I.frzTv hd
    obtain ⟨e1, e2⟩ := dict_ep hod hdt
    subst e1 e2
    obtain ⟨a, b, hit⟩ := st
    rw [← hsz] at hit
    exact DT.endI (I.ok.hd hc) hit ⟨o, hgd, hx, hdt⟩ (by rw [hsz]; exact hi) fun h1 eb => ⟨rfl, I.turned (t' := s.toks) (fun c oc hb e => eb c oc hb e) f0 f1 f3 f4 f5⟩
  self := fun A i s Q E ⟨_, _, q⟩ h => PySem.W.kcp_self q h
/-- d.items(), the keys tuples; d is locked -/
def iItT (td : TE) : TI := fun σ H R => td σ H fun x H1 => ∃ d o kvs, x = .ref d ∧ H1 d = some (.frz o (.dT kvs)) ∧ R (ItiT d o kvs) H1
theorem pi_itT {X : Cx} {e : Expr} {td : TE} {apos cpos tpos : Pos} {elts : List Expr} {kk : Nat} (he : PE X e td) (hb : attributeBase e "items" X.env (eval e X.env) = eval e X.env := by rfl) (hl : (apos.endLine == cpos.line) = true := by rfl) :
    PI X (.Tuple elts kk tpos) (.Call (.Attribute e "items" apos) [] [] cpos) (iItT td) := by
  refine ⟨fun pins s σ H R I h => wpAny_Call_method (T := "dict") (id := "dict.items") hb rfl hl PySem.F.plainAttrs_dict PySem.F.slot_dict_items PySem.F.type_dict_items
    (thn (he.run pins s σ H _ I h) fun u s1 ⟨x, H1, I1, rx, d, o, kvs, ex, hd, q⟩ => ?_)⟩
  subst ex
  obtain rfl : u = Value.ref d := rx
  obtain ⟨hs, hgd, hx, es, ep, hdt, hsz, _⟩ := I1.frzTv hd
  have rw0 : DT.Raw s1.heap d es ep := ⟨o, hgd, hx, hdt⟩
  refine ⟨rw0.typeIs, fun b eb => ?_, ?_⟩
  · cases eb
    exact ⟨o, hgd, hx.2.1⟩
  · have I2 : Inv X pins σ H1 { s1 with heap := s1.heap.push { cls := .type "dict_items", data := .fields #[.ref d] } } := I1.kept (t' := s1.toks) fun b ob q => Heap.get?_push_of_some _ q
    have fin : wpAny (model X.prog X.w) X.A (pyIter (.ref s1.heap.objs.size)) (PIE X pins σ (.Tuple elts kk tpos) R) X.xe { s1 with heap := s1.heap.push { cls := .type "dict_items", data := .fields #[.ref d] } } := by
      refine DT.iterI (es := es) (ep := ep) ⟨_, Heap.get?_push_size _ rfl, rfl, rfl⟩ (rw0.push _) (pi_one (tk := s1.toks) I2 _ (turn_itT _ hdt) ⟨.none, .none, ?_⟩ q)
      rw [← hsz]
      exact Heap.get?_push_size _ rfl
    exact method_meetsIn PySem.F.slot_dict_items PySem.F.entry_dict_items rfl (PySem.evalArgs_none ⟨rfl, rw0.typeIs, PySem.F.args_dict_items_1 _, _, DT.meetsItems (es := es) (ep := ep) hs, rw0, fin⟩)
end L2

/-! DG17: walks over dicts, over data. -/
namespace DL
open PySem L2
open PyProof.Rows hiding St
@[simp] def kD : Key → D
  | .inl i => .int i
  | .inr s => .str s
theorem kD_is {K : PySem.W.Frag} {H : Hp} : ∀ k : Key, Is K H (kV k) (kD k)
  | .inl i => .int i
  | .inr s => .str s
theorem kDs_is {K : PySem.W.Frag} {H : Hp} : ∀ ks : List Key, IsL K H (ks.map kV) (ks.map kD)
  | [] => .nil
  | k :: r => .cons (kD_is k) (kDs_is r)
def Lkd (K : PySem.W.Frag) (Hb : Hp) (u : HO) : D → Prop
  | .dk kvs => ∃ vs : List (Key × V), u = .dK vs ∧ vs.map (·.1) = kvs.map (·.1) ∧ IsL K Hb (vs.map (·.2)) (kvs.map (·.2))
  | .dt kvs => ∃ vs : List (List Key × V), u = .dT vs ∧ vs.map (·.1) = kvs.map (·.1) ∧ IsL K Hb (vs.map (·.2)) (kvs.map (·.2))
  | .nest _ kvs => ∃ vs : List (Key × V), u = .dK vs ∧ vs.map (·.1) = kvs.map (·.1) ∧ IsL K Hb (vs.map (·.2)) (kvs.map (·.2))
  | _ => False
theorem Lkd.mono {K : PySem.W.Frag} {Hb Hb' : Hp} {u : HO} (s : Sub Hb Hb') : ∀ {d : D}, Lkd K Hb u d → Lkd K Hb' u d
  | .dk _, ⟨vs, a, b, c⟩ => ⟨vs, a, b, c.mono s⟩
  | .dt _, ⟨vs, a, b, c⟩ => ⟨vs, a, b, c.mono s⟩
  | .nest _ _, ⟨vs, a, b, c⟩ => ⟨vs, a, b, c.mono s⟩
theorem Lkd.do {K : PySem.W.Frag} {Hb : Hp} {u : HO} : ∀ {d : D}, Lkd K Hb u d → isDO u = true ∧ Mut (some u)
  | .dk _, ⟨vs, a, _⟩ => by subst a; exact ⟨rfl, True.intro⟩
  | .dt _, ⟨vs, a, _⟩ => by subst a; exact ⟨rfl, True.intro⟩
  | .nest _ _, ⟨vs, a, _⟩ => by subst a; exact ⟨rfl, True.intro⟩
theorem lkd_of {K : PySem.W.Frag} {Hb : Hp} {p : Addr} : ∀ {d : D}, isDict d → Is K Hb (.ref p) d → ∃ u, Rd Hb p u ∧ Lkd K Hb u d
  | .dk _, _, .dk h e l => ⟨_, h, _, rfl, e, l⟩
  | .dt _, _, .dt h e l => ⟨_, h, _, rfl, e, l⟩
  | .nest _ _, _, .nest h e l => ⟨_, h, _, rfl, e, l⟩
section
variable {X : Cx} {Wx : WX} {P L I J : List Nat} {e tg : Expr} {F : FE} {te : TE}
theorem lk_ev (h : DE X Wx P I e te F J) : ∀ (W : Wd) (ρ : Env) (σ : St) (Hb H : Hp) (Q : VK) (post : Post) (xp : XP), EnvOk X.K W P I ρ σ Hb H → F ρ (fun d ρ1 => isDict d ∧ post d ρ1) xp → XOk X Wx W P σ xp →
    (∀ d ρ' p o u Hb' H', post d ρ' → EnvOk X.K W P J ρ' σ Hb' H' → Sub Hb Hb' → Hb' p = some (.frz o u) → Lkd X.K Hb' u d → Q (.ref p) H') → tLk te σ H Q := by
  intro W ρ σ Hb H Q post xp E f x q
  refine h.ev W ρ σ Hb H _ _ xp E f x fun d ρ1 v Hb1 H1 f1 E1 s1 i1 => ?_
  obtain ⟨dd, f1⟩ := f1
  obtain ⟨p, rfl⟩ := isDict_ref dd i1
  obtain ⟨u, r, l⟩ := lkd_of dd i1
  obtain ⟨du, mu⟩ := l.do
  refine ⟨p, u, rfl, ?_⟩
  rcases r with r | ⟨o, r⟩
  · obtain ⟨o', h', fz⟩ := E1.sub _ _ r
    rcases fz with rfl | ⟨_, od, rfl⟩
    · refine .inr ⟨h', mu, fun o => ?_⟩
      obtain ⟨E2, s2⟩ := E1.lockD (od := o) r du (.inl h')
      exact q d ρ1 p o _ _ _ f1 E2 (s1.trans s2) upd_same (l.mono s2)
    · refine .inl ⟨od, h', ?_⟩
      obtain ⟨E2, s2⟩ := E1.lockD (od := od) r du (.inr h')
      have e : upd H1 p (.frz od u) = H1 := by
        funext a
        by_cases ha : a = p
        · subst ha; rw [upd_same, h']
        · rw [upd_ne ha]
      rw [e] at E2
      exact q d ρ1 p od _ _ _ f1 E2 (s1.trans s2) upd_same (l.mono s2)
  · exact .inl ⟨o, E1.sub.at r, q d ρ1 p o u _ _ f1 E1 s1 r l⟩
theorem key_at {κ : Type} {vs : List (κ × V)} {kvs : List (κ × D)} (e : vs.map (·.1) = kvs.map (·.1)) {i : Nat} {kd : κ × D} (h : kvs[i]? = some kd) : ∃ v, vs[i]? = some (kd.1, v) := by
  have h1 : (vs.map (·.1))[i]? = some kd.1 := by rw [e, List.getElem?_map, h]; rfl
  rw [List.getElem?_map] at h1
  cases q : vs[i]? with
  | none => rw [q] at h1; cases h1
  | some p =>
    rw [q] at h1
    have : p.1 = kd.1 := Option.some.inj h1
    exact ⟨p.2, by rw [← this]⟩
theorem val_at {κ : Type} {K : PySem.W.Frag} {H : Hp} {vs : List (κ × V)} {kvs : List (κ × D)} (l : IsL K H (vs.map (·.2)) (kvs.map (·.2))) {i : Nat} {kv : κ × V} {kd : κ × D} (h : vs[i]? = some kv) (h' : kvs[i]? = some kd) : Is K H kv.2 kd.2 := by
  obtain ⟨v, e, is⟩ := l.get (show (kvs.map (·.2))[i]? = some kd.2 by rw [List.getElem?_map, h']; rfl)
  rw [List.getElem?_map, h] at e
  cases e
  exact is
theorem len_keys {κ α β : Type} {vs : List (κ × α)} {kvs : List (κ × β)} (e : vs.map (·.1) = kvs.map (·.1)) : vs.length = kvs.length := by
  have := congrArg List.length e
  simpa using this
theorem itd_keysK {K : PySem.W.Frag} {Hb : Hp} {d : Addr} {o : Obj} {vs : List (Key × V)} {kvs : List (Key × D)} (h : Hb d = some (.frz o (.dK vs))) (e : vs.map (·.1) = kvs.map (·.1)) : ItD K (Itk d o vs) Hb (kvs.map fun kv => kD kv.1) := fun i H1 Hb1 s1 s2 => by
  have h1 : H1 d = some (.frz o (.dK vs)) := (s1.trans s2).at h
  refine ⟨fun x hx => ?_, fun ei => ⟨h1, by rw [ei, List.length_map, len_keys e]; exact Nat.le_refl _⟩⟩
  rw [List.getElem?_map] at hx
  cases q : kvs[i]? with
  | none => rw [q] at hx; cases hx
  | some kd =>
    rw [q] at hx; cases hx
    obtain ⟨v, hv⟩ := key_at e q
    refine ⟨⟨h1, (List.getElem?_eq_some_iff.mp hv).1⟩, fun y H2 ⟨eH, k, v', hk, ey⟩ => ?_⟩
    subst eH ey
    rw [hv] at hk; cases hk
    exact ⟨Hb1, .refl, kD_is _⟩
theorem itd_keysT {K : PySem.W.Frag} {Hb : Hp} {d : Addr} {o : Obj} {vs : List (List Key × V)} {kvs : List (List Key × D)} (h : Hb d = some (.frz o (.dT vs))) (e : vs.map (·.1) = kvs.map (·.1)) : ItD K (Itkt d o vs) Hb (kvs.map fun kv => D.tup (kv.1.map kD)) := fun i H1 Hb1 s1 s2 => by
  have h1 : H1 d = some (.frz o (.dT vs)) := (s1.trans s2).at h
  refine ⟨fun x hx => ?_, fun ei => ⟨h1, by rw [ei, List.length_map, len_keys e]; exact Nat.le_refl _⟩⟩
  rw [List.getElem?_map] at hx
  cases q : kvs[i]? with
  | none => rw [q] at hx; cases hx
  | some kd =>
    rw [q] at hx; cases hx
    obtain ⟨v, hv⟩ := key_at e q
    refine ⟨⟨h1, (List.getElem?_eq_some_iff.mp hv).1⟩, fun y H2 ⟨eH, k, v', t, hk, ey, ht⟩ => ?_⟩
    subst eH ey
    rw [hv] at hk; cases hk
    exact ⟨_, .know .refl ht, .tup upd_same (kDs_is _)⟩
theorem itd_itemsK {K : PySem.W.Frag} {Hb : Hp} {d : Addr} {o : Obj} {vs : List (Key × V)} {kvs : List (Key × D)} (h : Hb d = some (.frz o (.dK vs))) (e : vs.map (·.1) = kvs.map (·.1)) (l : IsL K Hb (vs.map (·.2)) (kvs.map (·.2))) :
    ItD K (Iti d o vs) Hb (kvs.map fun kv => D.tup [kD kv.1, kv.2]) := fun i H1 Hb1 s1 s2 => by
  have h1 : H1 d = some (.frz o (.dK vs)) := (s1.trans s2).at h
  refine ⟨fun x hx => ?_, fun ei => ⟨h1, by rw [ei, List.length_map, len_keys e]; exact Nat.le_refl _⟩⟩
  rw [List.getElem?_map] at hx
  cases q : kvs[i]? with
  | none => rw [q] at hx; cases hx
  | some kd =>
    rw [q] at hx; cases hx
    obtain ⟨v, hv⟩ := key_at e q
    refine ⟨⟨h1, (List.getElem?_eq_some_iff.mp hv).1⟩, fun y H2 ⟨T, k, v', hk, ey, hT, eH⟩ => ?_⟩
    subst eH ey
    rw [hv] at hk; cases hk
    have nb := Sub.new (o := .tup [kV kd.1, v]) (s2.none hT)
    exact ⟨_, .one hT, .tup upd_same (.cons (kD_is _) (.cons (((val_at l hv q).mono s1).mono nb) .nil))⟩
theorem itd_itemsT {K : PySem.W.Frag} {Hb : Hp} {d : Addr} {o : Obj} {vs : List (List Key × V)} {kvs : List (List Key × D)} (h : Hb d = some (.frz o (.dT vs))) (e : vs.map (·.1) = kvs.map (·.1)) (l : IsL K Hb (vs.map (·.2)) (kvs.map (·.2))) :
    ItD K (ItiT d o vs) Hb (kvs.map fun kv => D.tup [.tup (kv.1.map kD), kv.2]) := fun i H1 Hb1 s1 s2 => by
  have h1 : H1 d = some (.frz o (.dT vs)) := (s1.trans s2).at h
  refine ⟨fun x hx => ?_, fun ei => ⟨h1, by rw [ei, List.length_map, len_keys e]; exact Nat.le_refl _⟩⟩
  rw [List.getElem?_map] at hx
  cases q : kvs[i]? with
  | none => rw [q] at hx; cases hx
  | some kd =>
    rw [q] at hx; cases hx
    obtain ⟨v, hv⟩ := key_at e q
    refine ⟨⟨h1, (List.getElem?_eq_some_iff.mp hv).1⟩, fun y H2 ⟨T, t, k, v', hk, ey, hT, ht, eH⟩ => ?_⟩
    subst eH ey
    rw [hv] at hk; cases hk
    have sk : Sub Hb1 (upd Hb1 t (.tup (kd.1.map kV))) := fun a u ea => by
      by_cases ha : a = t
      · subst ha
        obtain ⟨o', h', f⟩ := s2 a u ea
        rw [ht] at h'; cases h'
        exact ⟨_, upd_same, f⟩
      · rw [upd_ne ha]; exact ⟨u, ea, .inl rfl⟩
    have tT : t ≠ T := ne_of_none ht hT
    have nT : upd Hb1 t (.tup (kd.1.map kV)) T = none := by rw [upd_ne (Ne.symm tT)]; exact s2.none hT
    have nb := Sub.new (o := .tup [.ref t, v]) nT
    refine ⟨_, .step (.know .refl ht) hT, .tup upd_same (.cons (.tup ?_ (kDs_is _)) (.cons ((((val_at l hv q).mono s1).mono sk).mono nb) .nil))⟩
    rw [upd_ne tT, upd_same]
/-- for x in d -/
def fKeysI (F : FE) : FA := fun ρ post xp => F ρ (fun d ρ1 => isDict d ∧ match d with
  | .dk kvs => post (kvs.map fun kv => kD kv.1) ρ1
  | .dt kvs => post (kvs.map fun kv => .tup (kv.1.map kD)) ρ1
  | _ => False) xp
@[simp ↓] theorem fKeysI_ap (F : FE) (ρ : Env) (post : List D → Env → Prop) (xp : XP) : fKeysI F ρ post xp = (F ρ (fun d ρ1 => isDict d ∧ match d with
  | .dk kvs => post (kvs.map fun kv => kD kv.1) ρ1
  | .dt kvs => post (kvs.map fun kv => .tup (kv.1.map kD)) ρ1
  | _ => False) xp) := (rfl)
/-- for k, v in d.items(), the keys tuples -/
def fItemsT (F : FE) : FA := fun ρ post xp => F ρ (fun d ρ1 => isDict d ∧ match d with
  | .dt kvs => post (kvs.map fun kv => .tup [.tup (kv.1.map kD), kv.2]) ρ1
  | _ => False) xp
@[simp ↓] theorem fItemsT_ap (F : FE) (ρ : Env) (post : List D → Env → Prop) (xp : XP) : fItemsT F ρ post xp = (F ρ (fun d ρ1 => isDict d ∧ match d with
  | .dt kvs => post (kvs.map fun kv => .tup [.tup (kv.1.map kD), kv.2]) ρ1
  | _ => False) xp) := (rfl)
/-- .. ints or texts -/
def fItemsK (F : FE) : FA := fun ρ post xp => F ρ (fun d ρ1 => isDict d ∧ match d with
  | .dk kvs => post (kvs.map fun kv => .tup [kD kv.1, kv.2]) ρ1
  | _ => False) xp
@[simp ↓] theorem fItemsK_ap (F : FE) (ρ : Env) (post : List D → Env → Prop) (xp : XP) : fItemsK F ρ post xp = (F ρ (fun d ρ1 => isDict d ∧ match d with
  | .dk kvs => post (kvs.map fun kv => .tup [kD kv.1, kv.2]) ρ1
  | _ => False) xp) := (rfl)
theorem di_keys (h : DE X Wx P I e te F J) : DI X Wx P I tg e (iKeys (tLk te)) (fKeysI F) J :=
  ⟨pi_keys (pe_lk h.pe), fun W ρ σ Hb H R post xp E f x q => lk_ev h W ρ σ Hb H _ _ xp E f x fun d ρ1 p o u Hb1 H1 f1 E1 s1 hp l => by
    refine ⟨p, o, rfl, ?_⟩
    cases d <;> first | exact f1.elim | skip
    · obtain ⟨vs, rfl, e, l⟩ := l
      exact .inl ⟨vs, E1.sub.at hp, q _ _ _ _ _ f1 E1 s1 (itd_keysK hp e)⟩
    · obtain ⟨vs, rfl, e, l⟩ := l
      exact .inr ⟨vs, E1.sub.at hp, q _ _ _ _ _ f1 E1 s1 (itd_keysT hp e)⟩⟩
theorem di_itemsT {elts : List Expr} {kk : Nat} {tpos apos cpos : Pos} (h : DE X Wx P I e te F J) (hb : attributeBase e "items" X.env (eval e X.env) = eval e X.env := by rfl) (hl : (apos.endLine == cpos.line) = true := by rfl) :
    DI X Wx P I (.Tuple elts kk tpos) (.Call (.Attribute e "items" apos) [] [] cpos) (iItT (tLk te)) (fItemsT F) J :=
  ⟨pi_itT (pe_lk h.pe) hb hl, fun W ρ σ Hb H R post xp E f x q => lk_ev h W ρ σ Hb H _ _ xp E f x fun d ρ1 p o u Hb1 H1 f1 E1 s1 hp l => by
    cases d <;> first | exact f1.elim | skip
    obtain ⟨vs, rfl, e, l⟩ := l
    exact ⟨p, o, vs, rfl, E1.sub.at hp, q _ _ _ _ _ f1 E1 s1 (itd_itemsT hp e l)⟩⟩
theorem di_itemsK {elts : List Expr} {kk : Nat} {tpos apos cpos : Pos} (h : DE X Wx P I e te F J) (hb : attributeBase e "items" X.env (eval e X.env) = eval e X.env := by rfl) (hl : (apos.endLine == cpos.line) = true := by rfl) :
    DI X Wx P I (.Tuple elts kk tpos) (.Call (.Attribute e "items" apos) [] [] cpos) (iItems (tLk te)) (fItemsK F) J :=
  ⟨pi_items (pe_lk h.pe) hb hl, fun W ρ σ Hb H R post xp E f x q => lk_ev h W ρ σ Hb H _ _ xp E f x fun d ρ1 p o u Hb1 H1 f1 E1 s1 hp l => by
    cases d <;> first | exact f1.elim | skip
    obtain ⟨vs, rfl, e, l⟩ := l
    exact ⟨p, o, vs, rfl, E1.sub.at hp, q _ _ _ _ _ f1 E1 s1 (itd_itemsK hp e l)⟩⟩
end
end DL

/-! DG18: sorted(d.items()), the keys pairs of ints. -/
namespace SrtI
open PySem PyProof.Rows
theorem IsItem.uniq {h : Heap} {v : Value} {x y x' y' : Int} (i : IsItem h v x y) (j : IsItem h v x' y') : (x, y) = (x', y') := by
  obtain ⟨a, o, n, p, c, e, ho, _, hd, b, o1, t, u, n1, e1, ho1, _, hd1⟩ := i
  obtain ⟨a', o', n', p', c', e', ho', _, hd', b', o1', t', u', n1', e1', ho1', _, hd1'⟩ := j
  subst e
  cases e'
  rw [ho] at ho'; cases ho'
  rw [hd] at hd'
  cases e1
  cases e1'
  have h1 := congrArg Array.toList (Data.seq.inj hd').1
  simp at h1
  rw [← h1.1] at ho1'
  rw [ho1] at ho1'; cases ho1'
  rw [hd1] at hd1'
  have h2 := congrArg Array.toList (Data.seq.inj hd1').1
  simp at h2
  exact Prod.ext h2.1.1 h2.2.1
open Classical in
noncomputable def keyH (h : Heap) (v : Value) : Int × Int := if q : ∃ xy : Int × Int, IsItem h v xy.1 xy.2 then q.choose else (0, 0)
theorem IsItem.key {h : Heap} {v : Value} {x y : Int} (i : IsItem h v x y) : keyH h v = (x, y) := by
  have q : ∃ xy : Int × Int, IsItem h v xy.1 xy.2 := ⟨(x, y), i⟩
  unfold keyH
  rw [dif_pos q]
  exact q.choose_spec.uniq i
end SrtI
namespace L2
open PySem PySem.Spec PyProof.Rows
/-- new tuples of a key's tuple and a value -/
def layT : Hp → List (Addr × Addr × V) → Hp
  | H, [] => H
  | H, z :: r => layT (upd H z.1 (.tup [.ref z.2.1, z.2.2])) r
theorem lay_keep : ∀ {L : List (Addr × Addr × V)} {H : Hp} {a : Addr}, a ∉ L.map (·.1) → layT H L a = H a
  | [], _, _, _ => rfl
  | z :: r, H, a, h => by
    rw [List.map_cons, List.mem_cons, not_or] at h
    show layT (upd H z.1 _) r a = _
    rw [lay_keep h.2, upd_ne h.1]
theorem lay_at : ∀ {L : List (Addr × Addr × V)} {H : Hp} {z : Addr × Addr × V}, (L.map (·.1)).Nodup → z ∈ L → layT H L z.1 = some (.tup [.ref z.2.1, z.2.2])
  | y :: r, H, z, nd, h => by
    rw [List.map_cons, List.nodup_cons] at nd
    rcases List.mem_cons.mp h with rfl | h
    · show layT (upd H z.1 _) r z.1 = _
      rw [lay_keep nd.1, upd_same]
    · exact lay_at (L := r) (H := upd H y.1 (.tup [.ref y.2.1, y.2.2])) nd.2 h
theorem lay_inv {X : Cx} {pins : List (Addr × Obj)} {σ : St} {H0 : Hp} {s : Shared} {h' : Heap} {tk : Nat} (I0 : Inv X pins σ H0 s) : ∀ {L : List (Addr × Addr × V)} {H1 : Hp}, Inv X pins σ H1 { s with heap := h', toks := tk } → (L.map (·.1)).Nodup →
    (∀ z ∈ L, s.heap.objs.size ≤ z.1 ∧ H1 z.1 = none ∧ ∀ H2, ObjOk X.prog X.w H2 h' z.1 (.tup [.ref z.2.1, z.2.2])) → Inv X pins σ (layT H1 L) { s with heap := h', toks := tk }
  | [], _, I1, _, _ => I1
  | z :: r, H1, I1, nd, h => by
    rw [List.map_cons, List.nodup_cons] at nd
    obtain ⟨h1, h2, h3⟩ := h z List.mem_cons_self
    have I2 := I1.take (h' := h') (t' := tk) (fun b ob _ e => e) (I0.fpOk h1 h2) (h3 _)
    refine lay_inv (L := r) (H1 := upd H1 z.1 (.tup [.ref z.2.1, z.2.2])) I0 I2 nd.2 fun y hy => ?_
    obtain ⟨k1, k2, k3⟩ := h y (List.mem_cons_of_mem _ hy)
    refine ⟨k1, ?_, k3⟩
    rw [upd_ne (fun e => nd.1 (by rw [← e]; exact List.mem_map.mpr ⟨y, hy, rfl⟩))]
    exact k2
theorem kt_keys {H : Hp} : ∀ {kvs : List (List Key × V)} {xs : List (List Key × Addr × Value)}, KT H kvs xs → kvs.map (·.1) = xs.map (·.1)
  | _, _, .nil => rfl
  | _, _, .cons f t => by rw [List.map_cons, List.map_cons, f.1, kt_keys t]
/-- d.items() as a value -/
def tItemsV (td : TE) : TE := fun σ H Q => td σ H fun x H1 => ∃ d kvs, x = .ref d ∧ Rd H1 d (.dT kvs) ∧ ∀ p, H1 p = none → Q (.ref p) (upd H1 p (DX.itemsO p d))
theorem pe_itemsV {X : Cx} {e : Expr} {td : TE} {apos cpos : Pos} (he : PE X e td) (hb : attributeBase e "items" X.env (eval e X.env) = eval e X.env := by rfl) (hl : (apos.endLine == cpos.line) = true := by rfl) :
    PE X (.Call (.Attribute e "items" apos) [] [] cpos) (tItemsV td) := by
  refine ⟨fun pins s σ H Q I h => wpAny_Call_method (T := "dict") (id := "dict.items") hb rfl hl PySem.F.plainAttrs_dict PySem.F.slot_dict_items PySem.F.type_dict_items
    (thn (he.run pins s σ H _ I h) fun u s1 ⟨x, H1, I1, rx, d, kvs, ex, hd, q⟩ => ?_)⟩
  subst ex
  obtain rfl : u = Value.ref d := rx
  obtain ⟨_, hs, _, _, o, es, ep, ho, hx, hdt, _⟩ := dt_rd I1.hok hd
  have rw0 : DT.Raw s1.heap d es ep := ⟨o, ho, hx, hdt⟩
  refine ⟨rw0.typeIs, fun b eb => ?_, ?_⟩
  · cases eb
    exact ⟨o, ho, hx.2.1⟩
  · exact method_meetsIn PySem.F.slot_dict_items PySem.F.entry_dict_items rfl (PySem.evalArgs_none ⟨rfl, rw0.typeIs, PySem.F.args_dict_items_1 _, _, DT.meetsItems (es := es) (ep := ep) hs, rw0,
      ⟨.ref s1.heap.objs.size, _, I1.laid (t' := s1.toks) (fun b u e => Heap.get?_push_of_some _ e) (Nat.le_refl _) (DX.itemsO_ok (Heap.get?_push_size _ rfl)), rfl, q _ (I1.hok.fresh (Nat.le_refl _))⟩⟩)
/-- the sorted pairs: each new tuple, its key's tuple, the entry -/
def rSortItP : List V → Hp → VK → Prop := fun vs H Q => ∃ (p a : Addr) (kvs : List (List Key × V)) (k : List Key → Int × Int), vs = [.ref p] ∧ H p = some (DX.itemsO p a) ∧ Rd H a (.dT kvs) ∧
  (∀ e ∈ kvs, e.1 = [.inl (k e.1).1, .inl (k e.1).2]) ∧
  ∀ (l : Addr) (zs : List (Addr × Addr × List Key × V)), (zs.map (·.2.2)).Perm kvs → (zs.map (·.2.2)).Pairwise (fun e f => SrtO.lexB (k e.1) (k f.1) = true) → H l = none → (zs.map (·.1)).Nodup →
    (∀ z ∈ zs, H z.1 = none ∧ z.1 ≠ l ∧ H z.2.1 = some (.tup (z.2.2.1.map kV))) → Q (.ref l) (layT (upd H l (.lst (zs.map fun z => .ref z.1))) (zs.map fun z => (z.1, z.2.1, z.2.2.2)))
theorem cr_sortItP {X : Cx} (hc : X.calm = true) (hu : X.A.units + 2 < cLine) : CallR X (.builtin "sorted") rSortItP := by
  intro pins s σ H xs us Q I r h
  obtain ⟨p, a, kvs, k, rfl, hp, ha, hk, q⟩ := h
  obtain rfl := Vals.ref1 r
  have view : s.heap.IsItemsView p a := (show ObjOk X.prog X.w H s.heap p (DX.itemsO p a) from I.hok p _ hp).1
  obtain ⟨zl, hd, xs', rel, o, es, ep, ho, hx, hdat, hes, his, hn⟩ := dt_rd I.hok ha
  have l1 : kvs.length = xs'.length := Paired.length rel
  have l2 : es.size = xs'.length := size_of_entries hes
  have kn : (kvs.map (·.1)).Nodup := by rw [kt_keys rel]; exact hn
  refine DT.sortedI (es := es) (ep := ep) (I.ok.hd hc) view ⟨o, ho, hx, hdat⟩ (by omega) fun h' tk as hkp hlt hl hG => ?_
  have lak : as.length = xs'.length := by omega
  have nd : as.Nodup := List.Pairwise.imp (fun h => Nat.ne_of_lt h) hG.rise
  -- one row for each pair that was made
  let L : List (Addr × Addr × List Key × V) := (as.zip (xs'.zip kvs)).map fun z => (z.1, z.2.1.2.1, z.2.2)
  have lz : (xs'.zip kvs).length = xs'.length := by rw [List.length_zip, l1, Nat.min_self]
  have L1 : L.map (·.1) = as := by
    show ((as.zip (xs'.zip kvs)).map _).map _ = as
    rw [List.map_map]
    exact List.map_fst_zip (by rw [lz, lak]; exact Nat.le_refl _)
  have L2 : L.map (·.2.2) = kvs := by
    show ((as.zip (xs'.zip kvs)).map _).map _ = kvs
    rw [List.map_map]
    have e1 : ((as.zip (xs'.zip kvs)).map (·.2)).map (·.2) = kvs := by
      rw [List.map_snd_zip (by rw [lz, lak]; exact Nat.le_refl _)]
      exact List.map_snd_zip (by rw [l1]; exact Nat.le_refl _)
    rw [List.map_map] at e1
    exact e1
  have row : ∀ z ∈ L, s.heap.objs.size < z.1 ∧ H z.2.1 = some (.tup (z.2.2.1.map kV)) ∧ z.2.2 ∈ kvs ∧ ∃ u, h'.get? z.1 = some { cls := .type "tuple", data := .seq #[Value.ref z.2.1, u] } ∧ RelV z.2.2.2 u := by
    intro z hz
    obtain ⟨y, hy, rfl⟩ := List.mem_map.mp hz
    obtain ⟨j, hj⟩ := List.mem_iff_getElem?.mp hy
    obtain ⟨h1, h2⟩ := List.getElem?_zip_eq_some.mp hj
    obtain ⟨h3, h4⟩ := List.getElem?_zip_eq_some.mp h2
    obtain ⟨en, he, hg⟩ := hG.pairs j y.1 h1
    rw [entry_at hes j, h3] at he
    have een : entryOfKey (tupleKind (mixKind X.prog X.w)) y.2.1 = en := Option.some.inj he
    obtain ⟨b, hb, r1, r2, r3⟩ := paired_get rel h4
    rw [h3] at hb
    have eb : y.2.1 = b := Option.some.inj hb
    subst eb
    refine ⟨hG.above _ (List.mem_of_getElem? h1), r2, List.mem_of_getElem? h4, y.2.1.2.2, ?_, r3⟩
    rw [hg, ← een]
    rfl
  clear_value L
  -- the heap of the sort
  have hob : (h'.push { cls := .type "list", data := .seq (as.map Value.ref).toArray }).get? h'.objs.size = some (seqObj "list" (as.map Value.ref).toArray 0) := Heap.get?_push_size _ rfl
  have ka : ∀ b o, h'.get? b = some o → (h'.push { cls := .type "list", data := .seq (as.map Value.ref).toArray }).get? b = some o := fun b o e => Heap.get?_push_of_some _ e
  have ne0 : ∀ b o, h'.get? b = some o → b ≠ h'.objs.size := fun b o e => Nat.ne_of_lt (Heap.lt_size e)
  generalize hh2 : h'.push { cls := .type "list", data := .seq (as.map Value.ref).toArray } = h2 at hob ka ⊢
  have item : ∀ z ∈ L, SrtI.IsItem h2 (.ref z.1) (k z.2.2.1).1 (k z.2.2.1).2 := by
    intro z hz
    obtain ⟨_, r2, r3, u, hg, _⟩ := row z hz
    rw [hk _ r3] at r2
    obtain ⟨_, its, rv, o1, ho1, hc1, n1, hd1⟩ := I.hok _ _ r2
    obtain ⟨u1, u2, rfl, ri, rj⟩ := vals2 rv
    obtain ⟨t1, rfl⟩ := ri
    obtain ⟨t2, rfl⟩ := rj
    exact ⟨z.1, _, 0, z.2.1, u, rfl, ka _ _ hg, rfl, rfl, z.2.1, o1, t1, t2, n1, rfl, ka _ _ (hkp _ _ ho1), hc1, hd1⟩
  have at_ : ∀ v ∈ as.map Value.ref, ∃ z ∈ L, v = .ref z.1 := by
    intro v hv
    obtain ⟨b, hb, rfl⟩ := List.mem_map.mp hv
    rw [← L1] at hb
    obtain ⟨z, hz, rfl⟩ := List.mem_map.mp hb
    exact ⟨z, hz, rfl⟩
  have kz : ∀ z ∈ L, SrtI.keyH h2 (.ref z.1) = k z.2.2.1 := fun z hz => (item z hz).key
  have ndK : (L.map (·.2.2.1)).Nodup := by
    have e : (L.map (·.2.2)).map (·.1) = kvs.map (·.1) := by rw [L2]
    rw [List.map_map] at e
    rw [← e] at kn
    exact kn
  have same : ∀ z ∈ L, ∀ y ∈ L, k z.2.2.1 = k y.2.2.1 → z = y := by
    intro z hz y hy e
    obtain ⟨_, _, r3, _⟩ := row z hz
    obtain ⟨_, _, r3', _⟩ := row y hy
    have ek : z.2.2.1 = y.2.2.1 := by rw [hk _ r3, hk _ r3', e]
    obtain ⟨i, hi⟩ := List.mem_iff_getElem?.mp hz
    obtain ⟨j, hj⟩ := List.mem_iff_getElem?.mp hy
    have a1 : (L.map (·.2.2.1))[i]? = some z.2.2.1 := by rw [List.getElem?_map, hi]; rfl
    have a2 : (L.map (·.2.2.1))[j]? = some z.2.2.1 := by rw [List.getElem?_map, hj, ek]; rfl
    have eij : i = j := (List.getElem?_inj (List.getElem?_eq_some_iff.mp a1).1 ndK).mp (a1.trans a2.symm)
    subst eij
    exact Option.some.inj (hi.symm.trans hj)
  refine wpAny_call_entry PyProof.Rows.slot_list_sort ⟨_, hob, rfl⟩ PyProof.Rows.entry_list_sort
    (SrtO.list_sort_ord (s := { s with heap := h2, toks := tk }) (SrtO.swo_lex (SrtI.keyH h2)) hob (by rw [List.length_map]; omega) (fun h2' => ?_) fun out o1 o2 => ⟨.none, rfl, ?_⟩) (PyProof.Rows.args_list_sort _)
  · refine SrtI.items_sortable (s := { s with heap := h2, toks := tk }) (by omega) (by show X.A.units + 1 + 1 < cLine; omega) (fun v hv => ?_) (fun v hv u hu e => ?_) fun o e c => ?_
    · obtain ⟨z, hz, rfl⟩ := at_ v hv
      rw [kz z hz]
      exact item z hz
    · obtain ⟨z, hz, rfl⟩ := at_ v hv
      obtain ⟨y, hy, rfl⟩ := at_ u hu
      rw [kz z hz, kz y hy] at e
      rw [same z hz y hy e]
    · have e' : some o = some (seqObj "list" (as.map Value.ref).toArray 0) := e.symm.trans hob
      cases e'
      exact absurd (Value.type.inj c) (by decide)
  · show EP X pins σ Q (.ref h'.objs.size) { s with heap := sortedHeap h2 h'.objs.size (as.map Value.ref) out.toArray, toks := tk }
    have eL : L.map (fun z => Value.ref z.1) = as.map Value.ref := by rw [← L1, List.map_map]; rfl
    obtain ⟨zs, pz, ez⟩ := perm_lift (fun z : Addr × Addr × List Key × V => Value.ref z.1) o2.perm L eL
    have mz : ∀ z ∈ zs, z ∈ L := fun z hz => pz.mem_iff.mp hz
    have kF : ∀ b o, b ≠ h'.objs.size → h2.get? b = some o → (sortedHeap h2 h'.objs.size (as.map Value.ref) out.toArray).get? b = some o := fun b o hb e => (PyProof.Rows.sortedHeap_old hb (Heap.lt_size e)).trans e
    have kS : ∀ b o, s.heap.get? b = some o → (sortedHeap h2 h'.objs.size (as.map Value.ref) out.toArray).get? b = some o := fun b o e => kF b o (ne0 _ _ (hkp b o e)) (ka _ _ (hkp b o e))
    obtain ⟨eF, heF⟩ := PyProof.Rows.sortedHeap_at (vs := as.map Value.ref) (out := out.toArray) hob
    have I1 : Inv X pins σ H { s with heap := sortedHeap h2 h'.objs.size (as.map Value.ref) out.toArray, toks := tk } := I.kept (t' := tk) kS
    have hn0 : H h'.objs.size = none := I.hok.fresh (Nat.le_of_lt hlt)
    have rv : Vals (zs.map fun z => V.ref z.1) out.toArray.toList := by
      rw [← ez]
      exact vals_maps (fun z : Addr × Addr × List Key × V => V.ref z.1) (fun z => Value.ref z.1) zs fun _ _ => rfl
    have ll : (zs.map fun z => V.ref z.1).length ≤ sizeLine := by
      have e := pz.length_eq
      have e2 := congrArg List.length L2
      rw [List.length_map] at e2 ⊢
      omega
    have I2 : Inv X pins σ (upd H h'.objs.size (.lst (zs.map fun z => V.ref z.1))) { s with heap := sortedHeap h2 h'.objs.size (as.map Value.ref) out.toArray, toks := tk } :=
      I1.take (h' := sortedHeap h2 h'.objs.size (as.map Value.ref) out.toArray) (t' := tk) (fun b ob _ e => e) (I.fpOk (Nat.le_of_lt hlt) hn0) ⟨ll, out.toArray.toList, eF, rv, heF⟩
    have ndz : (zs.map (·.1)).Nodup := by
      have := (pz.map (·.1)).nodup_iff.mpr (by rw [L1]; exact nd)
      exact this
    have fr : ∀ z ∈ zs, H z.1 = none ∧ z.1 ≠ h'.objs.size := fun z hz => by
      obtain ⟨r1, _, _, u, hg, _⟩ := row z (mz z hz)
      exact ⟨I.hok.fresh (Nat.le_of_lt r1), ne0 _ _ hg⟩
    have I3 := lay_inv I (L := zs.map fun z => (z.1, z.2.1, z.2.2.2)) I2 (by rw [List.map_map]; exact ndz) fun y hy => by
      obtain ⟨z, hz, rfl⟩ := List.mem_map.mp hy
      obtain ⟨r1, r2, _, u, hg, ru⟩ := row z (mz z hz)
      obtain ⟨n1, n2⟩ := fr z hz
      refine ⟨Nat.le_of_lt r1, by rw [upd_ne n2]; exact n1, fun H2 => ⟨by show 2 ≤ sizeLine; decide, [Value.ref z.2.1, u], .cons rfl (.cons ru .nil), ⟨_, kF _ _ n2 (ka _ _ hg), rfl, 0, rfl⟩⟩⟩
    refine ⟨.ref h'.objs.size, _, I3, rfl, q h'.objs.size zs ?_ ?_ hn0 ndz fun z hz => ⟨(fr z hz).1, (fr z hz).2, (row z (mz z hz)).2.1⟩⟩
    · have := pz.map (·.2.2)
      rw [L2] at this
      exact this
    · rw [List.pairwise_iff_getElem]
      intro i j hi hj hij
      rw [List.length_map] at hi hj
      have hi2 : i < out.length := by rw [← ez, List.length_map]; exact hi
      have hj2 : j < out.length := by rw [← ez, List.length_map]; exact hj
      have hlt : SrtO.lexB (SrtI.keyH h2 out[j]) (SrtI.keyH h2 out[i]) = false := (List.pairwise_iff_getElem.1 o1) i j hi2 hj2 hij
      have ei : ∀ (m : Nat) (hm : m < zs.length) (hm' : m < out.length), out[m] = Value.ref zs[m].1 := fun m hm hm' => by
        have : out[m]? = some (Value.ref zs[m].1) := by rw [← ez, List.getElem?_map, List.getElem?_eq_getElem hm]; rfl
        rw [List.getElem?_eq_getElem hm'] at this
        exact Option.some.inj this
      have mi := mz zs[i] (List.getElem_mem hi)
      have mj := mz zs[j] (List.getElem_mem hj)
      rw [ei i hi, ei j hj, kz _ mi, kz _ mj] at hlt
      rw [List.getElem_map, List.getElem_map]
      refine DL.lex_tri hlt fun e => ?_
      have e3 := same _ mj _ mi e
      have a1 : (zs.map (·.1))[i]? = some zs[i].1 := by rw [List.getElem?_map, List.getElem?_eq_getElem hi]; rfl
      have a2 : (zs.map (·.1))[j]? = some zs[i].1 := by rw [List.getElem?_map, List.getElem?_eq_getElem hj, e3]; rfl
      have := (List.getElem?_inj (List.getElem?_eq_some_iff.mp a1).1 ndz).mp (a1.trans a2.symm)
      omega
end L2

/-! DG19: sorted(d.items()) over data. -/
namespace DL
open PySem L2
open PyProof.Rows hiding St
theorem paired_perm {α β : Type} {R : α → β → Prop} {l m : List α} (p : l.Perm m) : ∀ {k : List β}, Paired R m k → ∃ k' : List β, k'.Perm k ∧ Paired R l k' := by
  induction p with
  | nil => intro k h; exact ⟨k, .refl _, h⟩
  | cons x p ih =>
    intro k h
    cases h with
    | cons a r =>
      obtain ⟨es, q, l⟩ := ih r
      exact ⟨_ :: es, q.cons _, .cons a l⟩
  | swap x y l =>
    intro k h
    cases h with
    | cons a r =>
      cases r with
      | cons b r => exact ⟨_ :: _ :: _, .swap _ _ _, .cons b (.cons a r)⟩
  | trans p q ih1 ih2 =>
    intro k h
    obtain ⟨es, q1, l1⟩ := ih2 h
    obtain ⟨es2, q2, l2⟩ := ih1 l1
    exact ⟨es2, q2.trans q1, l2⟩
theorem paired_kv {κ : Type} {K : PySem.W.Frag} {H : Hp} : ∀ {vs : List (κ × V)} {kvs : List (κ × D)}, vs.map (·.1) = kvs.map (·.1) → IsL K H (vs.map (·.2)) (kvs.map (·.2)) → Paired (fun v k => v.1 = k.1 ∧ Is K H v.2 k.2) vs kvs
  | [], [], _, _ => .nil
  | [], _ :: _, e, _ => by simp at e
  | _ :: _, [], e, _ => by simp at e
  | v :: vs, k :: kvs, e, l => by
    rw [List.map_cons, List.map_cons] at e l
    cases l with
    | cons a l =>
      injection e with e1 e2
      exact .cons ⟨e1, a⟩ (paired_kv e2 l)
theorem paired_mono {κ : Type} {K : PySem.W.Frag} {H H' : Hp} (s : Sub H H') : ∀ {vs : List (κ × V)} {kvs : List (κ × D)}, Paired (fun v k => v.1 = k.1 ∧ Is K H v.2 k.2) vs kvs → Paired (fun v k => v.1 = k.1 ∧ Is K H' v.2 k.2) vs kvs
  | _, _, .nil => .nil
  | _, _, .cons a t => .cons ⟨a.1, a.2.mono s⟩ (paired_mono s t)
section
variable {K : PySem.W.Frag} {W : Wd} {P I : List Nat} {ρ : Env} {σ : St} {Hb H : Hp}
theorem EnvOk.knowL (E : EnvOk K W P I ρ σ Hb H) : ∀ (zs : List (Addr × List V)), (∀ z ∈ zs, H z.1 = some (.tup z.2)) → ∃ Hb', EnvOk K W P I ρ σ Hb' H ∧ Sub Hb Hb' ∧ ∀ z ∈ zs, Hb' z.1 = some (.tup z.2)
  | [], _ => ⟨Hb, E, Sub.refl _, fun _ h => nomatch h⟩
  | z :: r, h => by
    obtain ⟨Hb1, E1, s1, h1⟩ := E.knowL r fun y hy => h y (List.mem_cons_of_mem _ hy)
    have hz := h z List.mem_cons_self
    obtain ⟨E2, s2⟩ := E1.know hz
    refine ⟨_, E2, s1.trans s2, fun y hy => ?_⟩
    rcases List.mem_cons.mp hy with rfl | hy
    · exact upd_same
    · exact s2.at (h1 y hy)
theorem EnvOk.layL : ∀ {L : List (Addr × Addr × V)} {Hb H : Hp}, EnvOk K W P I ρ σ Hb H → (L.map (·.1)).Nodup → (∀ z ∈ L, H z.1 = none) → EnvOk K W P I ρ σ (layT Hb L) (layT H L) ∧ Sub Hb (layT Hb L)
  | [], _, _, E, _, _ => ⟨E, Sub.refl _⟩
  | z :: r, Hb, H, E, nd, h => by
    rw [List.map_cons, List.nodup_cons] at nd
    have hz := h z List.mem_cons_self
    have E1 := E.alloc (o := .tup [.ref z.2.1, z.2.2]) hz
    obtain ⟨E2, s2⟩ := EnvOk.layL (L := r) E1 nd.2 fun y hy => by
      rw [upd_ne (fun e => nd.1 (by rw [← e]; exact List.mem_map.mpr ⟨y, hy, rfl⟩))]
      exact h y (List.mem_cons_of_mem _ hy)
    exact ⟨E2, (Sub.new (E.sub.none hz)).trans s2⟩
end
def itemD (kv : List Key × D) : D := .tup [.tup (kv.1.map kD), kv.2]
def pairK : List Key → Int × Int
  | [.inl x, .inl y] => (x, y)
  | _ => (0, 0)
/-- the keys are pairs of ints -/
def pairKs (kvs : List (List Key × D)) : Prop := ∀ e ∈ kvs, e.1 = [.inl (pairK e.1).1, .inl (pairK e.1).2]
def fSortIt (F : FE) : FE := fun ρ post xp => F ρ (fun d ρ1 => isDict d ∧ match d with
  | .dt kvs => pairKs kvs ∧ ∀ es : List D, es.Perm (kvs.map itemD) → es.Pairwise ltK → post (.lst es) ρ1
  | _ => False) xp
@[simp ↓] theorem fSortIt_ap (F : FE) (ρ : Env) (post : Post) (xp : XP) : fSortIt F ρ post xp = (F ρ (fun d ρ1 => isDict d ∧ match d with
  | .dt kvs => pairKs kvs ∧ ∀ es : List D, es.Perm (kvs.map itemD) → es.Pairwise ltK → post (.lst es) ρ1
  | _ => False) xp) := (rfl)
theorem items_is {K : PySem.W.Frag} {H : Hp} : ∀ {zs : List (Addr × Addr × List Key × V)} {kvs : List (List Key × D)}, Paired (fun v k => v.1 = k.1 ∧ Is K H v.2 k.2) (zs.map (·.2.2)) kvs →
    (∀ z ∈ zs, H z.1 = some (.tup [.ref z.2.1, z.2.2.2]) ∧ H z.2.1 = some (.tup (z.2.2.1.map kV))) → IsL K H (zs.map fun z => V.ref z.1) (kvs.map itemD)
  | [], [], _, _ => .nil
  | [], _ :: _, h, _ => by cases h
  | _ :: _, [], h, _ => by cases h
  | z :: zs, k :: kvs, h, hz => by
    rw [List.map_cons] at h
    cases h with
    | cons a r =>
      obtain ⟨h1, h2⟩ := hz z List.mem_cons_self
      refine .cons (.tup h1 (.cons (.tup h2 ?_) (.cons a.2 .nil))) (items_is r fun y hy => hz y (List.mem_cons_of_mem _ hy))
      rw [a.1]
      exact kDs_is _
theorem items_lt {K : PySem.W.Frag} {H : Hp} {ms : List (List Key × V)} {kvs : List (List Key × D)} (h : Paired (fun v k => v.1 = k.1 ∧ Is K H v.2 k.2) ms kvs) (hk : pairKs kvs) (p : ms.Pairwise fun e f => SrtO.lexB (pairK e.1) (pairK f.1) = true) : (kvs.map itemD).Pairwise ltK := by
  rw [List.pairwise_map, List.pairwise_iff_getElem]
  intro i j hi hj hij
  have hl : ms.length = kvs.length := Paired.length h
  have at1 : ∀ (m : Nat) (hm : m < kvs.length) (hm' : m < ms.length), ms[m].1 = kvs[m].1 := fun m hm hm' => by
    obtain ⟨b, hb, e, _⟩ := paired_get h (List.getElem?_eq_getElem hm')
    rw [List.getElem?_eq_getElem hm] at hb
    cases hb
    exact e
  have hlt := (List.pairwise_iff_getElem.1 p) i j (by omega) (by omega) hij
  rw [at1 i hi (by omega), at1 j hj (by omega)] at hlt
  have ke : ∀ e ∈ kvs, keyD (itemD e) = some (pairK e.1) := fun e he => by
    have h1 := hk e he
    unfold itemD
    rw [h1]
    rfl
  exact ⟨_, _, ke _ (List.getElem_mem hi), ke _ (List.getElem_mem hj), hlt⟩
section
variable {X : Cx} {Wx : WX} {P L I J : List Nat} {e : Expr} {F : FE} {te : TE} {apos cpos pos p : Pos}
theorem de_sortIt (hc : X.calm = true) (hu : X.A.units + 2 < cLine) (hm : X.mg "sorted" = none) (h : DE X Wx P I e te F J) (hg : Gl X "sorted" := by rfl) (hb : attributeBase e "items" X.env (eval e X.env) = eval e X.env := by rfl) (hl : (apos.endLine == cpos.line) = true := by rfl)
    (he : starEach [.Call (.Attribute e "items" apos) [] [] cpos] X.env = (false, eval (.Call (.Attribute e "items" apos) [] [] cpos) X.env) :: starEach [] X.env := by rfl) (hpl : (backTo pos (starEach [] X.env)).any (·.1) = false := by rfl) :
    DE X Wx P I (.Call (.Name "sorted" p) [.Call (.Attribute e "items" apos) [] [] cpos] [] pos) (tCB rSortItP (tCons (tItemsV te) tNil)) (fSortIt F) J := by
  refine de_of (pe_callB (cr_sortItP hc hu) hg hm (by rfl) (pa_cons (pe_itemsV h.pe hb hl) pa_nil he) (by decide) (by decide) he hpl) fun W ρ σ Hb H Q post xp E f x q =>
    h.ev W ρ σ Hb H _ _ xp E f x fun d ρ1 v Hb1 H1 f1 E1 s1 i1 => ?_
  obtain ⟨dd, f1⟩ := f1
  cases d <;> first | exact f1.elim | skip
  rename_i kvs
  obtain ⟨hk, f1⟩ := f1
  cases i1 with
  | @dt a vs _ hr ek l =>
    refine ⟨a, vs, rfl, E1.sub.rd hr, fun p hp => ?_⟩
    have E2 := E1.more (o := DX.itemsO p a) hp
    have pr := paired_kv ek l
    refine ⟨p, a, vs, pairK, rfl, upd_same, ?_, fun e he => ?_, fun l zs pm sr hl nd hz => ?_⟩
    · exact (Sub.new hp).rd (E1.sub.rd hr)
    · obtain ⟨j, hj⟩ := List.getElem?_of_mem he
      obtain ⟨k, hk', ee, _⟩ := paired_get pr hj
      rw [ee]
      exact hk k (List.mem_of_getElem? hk')
    · obtain ⟨kvs', pk, pr'⟩ := paired_perm pm pr
      have hk2 : pairKs kvs' := fun e he => hk e (pk.mem_iff.1 he)
      obtain ⟨Hb3, E3, s3, h3⟩ := E2.knowL (zs.map fun z => (z.2.1, z.2.2.1.map kV)) fun y hy => by
        obtain ⟨z, hz', rfl⟩ := List.mem_map.mp hy
        exact (hz z hz').2.2
      have E4 := E3.alloc (o := .lst (zs.map fun z => .ref z.1)) hl
      have s4 : Sub Hb3 (upd Hb3 l (.lst (zs.map fun z => .ref z.1))) := Sub.new (E3.sub.none hl)
      have ndL : ((zs.map fun z => (z.1, z.2.1, z.2.2.2)).map (·.1)).Nodup := by rw [List.map_map]; exact nd
      obtain ⟨E5, s5⟩ := E4.layL (L := zs.map fun z => (z.1, z.2.1, z.2.2.2)) ndL fun y hy => by
        obtain ⟨z, hz', rfl⟩ := List.mem_map.mp hy
        rw [upd_ne (hz z hz').2.1]
        exact (hz z hz').1
      have s15 := (s3.trans s4).trans s5
      refine q (.lst (kvs'.map itemD)) ρ1 _ _ _ (f1 _ (pk.map _) (items_lt pr' hk2 sr)) E5 (s1.trans s15) (.lst (vs := zs.map fun z => .ref z.1) ?_ (items_is (zs := zs) (paired_mono s15 pr') fun z hz' => ⟨?_, ?_⟩))
      · rw [lay_keep fun z => ?_, upd_same]
        rw [List.map_map] at z
        obtain ⟨y, hy, e⟩ := List.mem_map.mp z
        exact (hz y hy).2.1 e
      · exact lay_at (z := (z.1, z.2.1, z.2.2.2)) ndL (List.mem_map.mpr ⟨z, hz', rfl⟩)
      · exact s5.at (s4.at (h3 (z.2.1, z.2.2.1.map kV) (List.mem_map.mpr ⟨z, hz', rfl⟩)))
end
end DL

/-! DG20: {k: v for .. in ..}, the keys tuples of ints and texts. -/
namespace L2
open PySem PySem.Spec PyProof.Rows
/-- an entry of a new dict, its key a tuple that is known -/
theorem put_tupkey {X : Cx} {pins : List (Addr × Obj)} {σ : St} {H : Hp} {s : Shared} {E : Value → Shared → Prop} {D b : Addr} {es : List (List Key × V)} {k : List Key} {v : V} {r : Value} {Q : Unit → Shared → Prop} (hu : X.A.units < cLine)
    (I : Inv X pins σ H s) (hD : H D = some (.dT es)) (hb : H b = some (.tup (k.map kV))) (hz : es.length < sizeLine) (rv : RelV v r) (h : ∀ t, Inv X pins σ (upd H D (.dT (putK es k v))) t → Q () t) :
    wpAny (model X.prog X.w) X.A (dictSet D (.ref b) r) Q E s := by
  obtain ⟨_, nsys, xs, rel, dd⟩ := dt_of I.hok hD
  have len1 : xs.length ≤ sizeLine := by have := Paired.length rel; omega
  have len2 : (putK es k v).length ≤ sizeLine := by have := length_putK es k v; omega
  refine wpAny_dictSet_heap (hsz := len1) (knd := tupleKind (mixKind X.prog X.w)) hu (key_of I.hok hb) dd fun h2 dd2 same => h _ ?_
  have kt : KT (upd H D (.dT (putK es k v))) (putK es k v) (storedH xs k b r) := (rel.put k hb rv).keeps fun c ys ec => by
    have cD : c ≠ D := fun z => by rw [z, hD] at ec; cases ec
    rw [upd_ne cD]; exact ec
  have dd3 := dd2
  obtain ⟨q, en, ep, hq, w1, w2, w3, _, w4⟩ := dd3
  exact d_write I (by rw [hD]; trivial) same ⟨q, hq⟩ ⟨len2, nsys, storedH xs k b r, kt, q, en, ep, hq, w1, w2, w3, w4⟩
section
variable {X : Cx}
/-- a turn's end: the entry's key a tuple that is known -/
def tPutT (D : Addr) (tk tv : TE) (Nx : Hp → Prop) : St → Hp → Prop := fun σ H => tk σ H fun y H4 => tv σ H4 fun z H5 => ∃ es k b, y = .ref b ∧ H5 b = some (.tup (k.map kV)) ∧ H5 D = some (.dT es) ∧ es.length < sizeLine ∧ Nx (upd H5 D (.dT (putK es k z)))
def tDcT (wi : TI) (g : TG) (tt : TT) (tk tv : TE) (vs : List Nat) : TE := fun σ H Q => wi σ H fun J H1 => ∀ D, H1 D = none → ∃ W : Nat → Nat → Hp → Prop, (∃ m, W 0 m (upd H1 D (.dT []))) ∧ ∀ i m H2, W i m H2 →
  (J.stop i H2 ∧ Q (.ref D) H2) ∨ (J.go i H2 ∧ ∃ Nx : Hp → Prop, (∀ H3, Nx H3 → ∃ m', m' < m ∧ W (i + 1) m' H3) ∧ ∀ x H3, J.yld i H2 x H3 → g x (wipe σ vs) H3 fun σ4 H4 => wipe σ4 vs = wipe σ vs ∧ tt σ4 H4 fun c H5 =>
    if c = true then tPutT D tk tv Nx σ4 H5 else Nx H5)
theorem pe_dcT {kx vx tg iter : Expr} {ifs : List Expr} {scope : Scope} {own : List (Str × Nat)} {pos : Pos} {wi : TI} {g : TG} {tt : TT} {tk tv : TE} (hu : X.A.units < cLine) (hc : X.calm = true) (hN : X.N.Nodup) (pi : PI X tg iter wi) (ok : BlkOk X.N X.env.scope scope own)
    (pg : ∀ (s : Shared) (H : Hp) (C : Addr) (cl : List (Str × Addr)) (fp : List Addr), PG (X.blk s H scope (compEnvC scope cl C X.env) fp) tg g)
    (pt : ∀ (s : Shared) (H : Hp) (C : Addr) (cl : List (Str × Addr)) (fp : List Addr), PTs (X.blk s H scope (compEnvC scope cl C X.env) fp) ifs tt)
    (pk : ∀ (s : Shared) (H : Hp) (C : Addr) (cl : List (Str × Addr)) (fp : List Addr), PE (X.blk s H scope (compEnvC scope cl C X.env) fp) kx tk)
    (pv : ∀ (s : Shared) (H : Hp) (C : Addr) (cl : List (Str × Addr)) (fp : List Addr), PE (X.blk s H scope (compEnvC scope cl C X.env) fp) vx tv) (fs : ∀ x, foldedSetIterable iter X.env x = pure x := by intro _; rfl) :
    PE X (.DictComp kx vx [⟨tg, iter, ifs, 0⟩] scope pos) (tDcT wi g tt tk tv (own.map (·.2))) := by
  refine ⟨fun pins s σ H Q I0 wh => ?_⟩
  rw [arm_eval_DictComp]
  have cells : ∀ y ∈ scope.names, y.2 = .free → ∃ c, X.env.cells.lookup y.1 = some c := fun y hy e => I0.ok.has _ ((ok.free y hy e).elim .inl .inr)
  refine wpAny_comprehension_free rfl fs (closure_ok cells) ok.kind (fun y hy e => by rw [ok.uniq y hy, e]) (thn (pi.run pins s σ H _ I0 wh) fun xv s1 w1 => thn w1 fun itv s2 w2 => ?_)
  obtain ⟨it, fp, tn, J, H2, e, I2, T, st2, f2, wh⟩ := w2
  subst e
  refine wpAny_newObj_type (newEnv_comp ?_)
  obtain ⟨D, hD⟩ : ∃ D, s2.heap.objs.size = D := ⟨_, rfl⟩
  have atD : H2 D = none := I2.hok.fresh (Nat.le_of_eq hD)
  obtain ⟨W, ⟨m0, W0⟩, turn⟩ := wh D atD
  -- the dict is made
  obtain ⟨s3, hs3⟩ : ∃ s3 : Shared, s3 = { s2 with heap := s2.heap.push { cls := .type "dict", data := .dict #[] } } := ⟨_, rfl⟩
  have hp3 : s3.heap = s2.heap.push { cls := .type "dict", data := .dict #[] } := by rw [hs3]
  have keep3 : ∀ (b : Addr) (o : Obj), s2.heap.get? b = some o → s3.heap.get? b = some o := fun b o e => by rw [hp3]; exact Heap.get?_push_of_some _ e
  have I3 : Inv X pins σ (upd H2 D (.dT [])) s3 := by
    rw [hs3]
    refine I2.laid (t' := s2.toks) (fun b o e => Heap.get?_push_of_some _ e) (Nat.le_of_eq hD) ?_
    rw [← hD]
    exact dt_empty s2.heap I2.big
  have low : ∀ b ∈ fp, b < s2.heap.objs.size := fun b hb => let ⟨o, e, _⟩ := T.obj _ _ st2 b hb; Heap.lt_size e
  have f3 : ∀ b ∈ fp, FpOk X pins (upd H2 D (.dT [])) b ∧ b < s3.heap.objs.size := fun b hb => by
    have l := low b hb
    have nb : (upd H2 D (.dT [])) b = none := by rw [upd_ne (by rw [← hD]; exact Nat.ne_of_lt l)]; exact (f2 b hb).1
    exact ⟨⟨nb, (f2 b hb).2⟩, by rw [hp3, Heap.size_push]; exact Nat.lt_succ_of_lt l⟩
  have st3 : tn 0 s3.heap := T.keep _ _ _ st2 fun b _ o e => keep3 b o e
  have I4 := block_start I3 ok hN f3
  -- the block: its names' own cells, all it stands on as one environment
  have at0 : ∀ b ∈ fp, (upd H2 D (.dT [])) b = none := fun b hb => (f3 b hb).1.1
  rw [show s2.heap.objs.size = D from hD]
  show codeAny _ _ (.compStart (.DictComp kx vx [⟨tg, iter, ifs, 0⟩] scope pos) 0 (.ref it) (.ref D) (compEnvC scope (cellsFrom ((s2.heap.push { cls := .type "dict", data := .dict #[] }).objs.size + 1) scope.names (cloFrom X.env.cells scope.names [])) (s2.heap.push { cls := .type "dict", data := .dict #[] }).objs.size X.env))
    (compPost (model X.prog X.w) X.A X.xe none (EP X pins σ Q) (.ref D) (s2.heap.push { cls := .type "dict", data := .dict #[] }).objs.size) { s2 with heap := pushCells ((s2.heap.push { cls := .type "dict", data := .dict #[] }).push { cls := .type "dict", data := .dict #[] }) scope.names }
  rw [← hp3]
  have es4 : ({ s2 with heap := pushCells (s3.heap.push { cls := .type "dict", data := .dict #[] }) scope.names } : Shared) = { s3 with heap := pushCells (s3.heap.push { cls := .type "dict", data := .dict #[] }) scope.names } := by rw [hs3]
  rw [es4]
  obtain ⟨C, hC⟩ : ∃ C, s3.heap.objs.size = C := ⟨_, rfl⟩
  rw [hC] at I4 ⊢
  obtain ⟨ce, hce⟩ : ∃ ce, compEnvC scope (cellsFrom (C + 1) scope.names (cloFrom X.env.cells scope.names [])) C X.env = ce := ⟨_, rfl⟩
  have qg := pg s3 (upd H2 D (.dT [])) C (cellsFrom (C + 1) scope.names (cloFrom X.env.cells scope.names [])) fp
  have qt := pt s3 (upd H2 D (.dT [])) C (cellsFrom (C + 1) scope.names (cloFrom X.env.cells scope.names [])) fp
  have qk := pk s3 (upd H2 D (.dT [])) C (cellsFrom (C + 1) scope.names (cloFrom X.env.cells scope.names [])) fp
  have qv := pv s3 (upd H2 D (.dT [])) C (cellsFrom (C + 1) scope.names (cloFrom X.env.cells scope.names [])) fp
  rw [hce] at I4 qg qt qk qv ⊢
  have lC : ce.locals = C := by rw [← hce]; rfl
  obtain ⟨B, hB⟩ : ∃ B, X.blk s3 (upd H2 D (.dT [])) scope ce fp = B := ⟨_, rfl⟩
  rw [hB] at I4 qg qt qk qv
  obtain ⟨s4, hs4⟩ : ∃ s4 : Shared, s4 = { s3 with heap := pushCells (s3.heap.push { cls := .type "dict", data := .dict #[] }) scope.names } := ⟨_, rfl⟩
  rw [← hs4] at I4 ⊢
  have st4 : tn 0 s4.heap := T.keep _ _ _ st3 fun b _ o e => by rw [hs4]; exact pushCells_keeps _ _ _ _ (Heap.get?_push_of_some _ e)
  -- what the walk's own objects are, at any time in the block
  have own1 : ∀ {σ1 : St} {H1 : Hp} {t : Shared}, Inv B [] σ1 H1 t → (∀ b ∈ fp, H1 b = none) → ∀ b ∈ fp, FpOk B [] H1 b := by
    subst hB
    intro σ1 H1 t It nb b hb
    have ex := It.ok.exf b hb
    exact ⟨nb b hb, ex.1, It.ok.exfs b hb, .inl hb, fun x c e => ex.2 x c e, fun p hp => by simp at hp⟩
  have loop : codeAny (model X.prog X.w) X.A (.compLoop (.DictComp kx vx [⟨tg, iter, ifs, 0⟩] scope pos) 0 (.ref it) (.ref D) ce) (compPost (model X.prog X.w) X.A X.xe none (EP X pins σ Q) (.ref D) C) s4 := by
    refine compLoop_anyD (fun m t => ∃ i Ht, Inv B [] (wipe σ (own.map (·.2))) Ht t ∧ tn i t.heap ∧ (∀ b ∈ fp, Ht b = none) ∧ W i m Ht) ?_ m0 ⟨0, _, I4, st4, at0, W0⟩
    rintro m s5 ⟨i, H5, I5, st5, n5, w5⟩
    rcases turn i m H5 w5 with ⟨stop, wq⟩ | ⟨go, Nx, lower, one⟩
    · have fin := T.done B (by subst hB; rfl) (by subst hB; rfl) (by subst hB; rfl) (by subst hB; exact hc) i [] s5 _ H5 (fun _ _ => False) I5 (own1 I5 n5) st5 stop
      subst hB
      refine thnF fin fun r s6 ⟨hr, I6⟩ => ?_
      subst hr
      have I7 : Inv X pins σ H5 s6 := I3.call' (ch := fp) I6.os I6.base I6.hok I6.bare fun b hb => let f := (f3 b hb).1; ⟨f.2.2.2.1, f.2.1, f.2.2.2.2.1, f.2.2.2.2.2⟩
      have noC : H5 C = none := by have z : H5 ce.locals = none := I6.free; rwa [lC] at z
      obtain ⟨nm, hn, _⟩ := I6.loc
      have hn : s6.heap.Ns ce.locals nm := hn
      rw [lC] at hn
      obtain ⟨g0, g1, g2, g3, g4, g5⟩ := I3.fpOk (Nat.le_of_eq hC) noC
      exact ⟨nm, hn, fun h2 sb => ⟨.ref D, H5, I7.turned (t' := s6.toks) (fun b o hb e => (sb.2 b hb).trans e) g0 g1 g3 g4 g5, rfl, wq⟩⟩
    · have it1 := T.item B (by subst hB; rfl) (by subst hB; rfl) (by subst hB; rfl) (by subst hB; exact hc) i [] s5 _ H5 (fun _ _ => False) I5 (own1 I5 n5) st5 go
      have ePW : B.prog = X.prog ∧ B.w = X.w ∧ B.A = X.A := by subst hB; exact ⟨rfl, rfl, rfl⟩
      subst hB
      refine thnF it1 fun r s6 ⟨u, hr, w6⟩ => ?_
      subst hr
      refine thnF w6 fun _ s7 ⟨x, H7, I7, r7, y7, st7, n7⟩ => ?_
      have P7 := I7.pinned (own1 I7 n7) (T.obj _ _ st7)
      refine thnF (qg.run _ s7 _ H7 x u _ P7 r7 (one x H7 y7)) fun _ s8 ⟨σ8, H8, I8, hw8, w8⟩ => ?_
      refine thnF (qt.run _ s8 σ8 H8 _ I8 w8) fun c s9 ⟨H9, I9, w9⟩ => ?_
      have next : ∀ {t : Shared} {Ht : Hp}, Inv (X.blk s3 (upd H2 D (.dT [])) scope ce fp) ([] ++ pinsAt fp s7.heap) σ8 Ht t → Nx Ht →
          ∃ m', m' < m ∧ ∃ i Ht, Inv (X.blk s3 (upd H2 D (.dT [])) scope ce fp) [] (wipe σ (own.map (·.2))) Ht t ∧ tn i t.heap ∧ (∀ b ∈ fp, Ht b = none) ∧ W i m' Ht := by
        intro t Ht It nx
        obtain ⟨m', lt, wi'⟩ := lower Ht nx
        have stay : ∀ b ∈ fp, ∀ o, s7.heap.get? b = some o → t.heap.get? b = some o ∧ Ht b = none := fun b hb o e => by
          have z := It.pin (b, o) (List.mem_append_right _ (List.mem_append_right _ (mem_pinsAt hb e)))
          exact ⟨z.1, z.2.1⟩
        have len8 : (wipe σ (own.map (·.2))).length = σ8.length := by rw [← hw8, wipe_length]
        refine ⟨m', lt, i + 1, Ht, (It.unpinned (pins := [])).weak len8 (fun j v e => (wipe_some (hw8.symm ▸ e)).1), T.keep _ _ _ st7 fun b hb o e => (stay b hb o e).1, fun b hb => ?_, wi'⟩
        obtain ⟨o, e, _⟩ := T.obj _ _ st7 b hb
        exact (stay b hb o e).2
      cases c with
      | false => rw [if_neg Bool.false_ne_true] at w9 ⊢; exact next I9 w9
      | true =>
        rw [if_pos rfl] at w9 ⊢
        refine thnF (qk.run _ s9 σ8 H9 _ I9 w9) fun kv s10 ⟨yk, H10, I10, r10, w10⟩ => ?_
        refine thnF (qv.run _ s10 σ8 H10 _ I10 w10) fun vv s11 ⟨yv, H11, I11, r11, es, k, b, ek, hb, hD11, hz, nx⟩ => ?_
        subst ek
        obtain rfl : kv = Value.ref b := r10
        exact put_tupkey (X := X.blk s3 (upd H2 D (.dT [])) scope ce fp) hu I11 hD11 hb hz r11 fun s12 I12 => next I12 nx
  exact codeAny_compStart_dict loop (T.self X.A 0 _ _ _ st4 loop)
end
end L2

/-! DG21: dict comprehensions over data, the keys tuples. -/
namespace DL
open PySem L2
open PyProof.Rows hiding St
@[simp] def keyTD : D → Option (List Key)
  | .tup ds => keysOf ds
  | _ => none
/-- the turns -/
def dcL (vs : List Nat) (g : FG) (T : FT) (Ek Ev : FE) (post : Post) : List D → List (List Key × D) → Env → Prop
  | [], acc, ρ => post (.dt acc) ρ
  | d :: ds, acc, ρ => g d (wipeE ρ vs) fun ρ1 => T ρ1 (fun b ρ2 => if b = true then Ek ρ2 (fun kd ρ3 => Ev ρ3 (fun y ρ4 => ∃ k, keyTD kd = some k ∧ acc.length < 1000000 ∧ dcL vs g T Ek Ev post ds (putD acc k y) (unwipe ρ ρ4 vs)) noX) noX else dcL vs g T Ek Ev post ds acc (unwipe ρ ρ2 vs)) noX
def dcK (vs : List Nat) (g : FG) (T : FT) (Ek Ev : FE) (post : Post) (_ : Lock post noX) (ds : List D) (acc : List (List Key × D)) (ρ : Env) : Prop := dcL vs g T Ek Ev post ds acc ρ
def fDc (A : FA) (vs : List Nat) (g : FG) (T : FT) (Ek Ev : FE) : FE := fun ρ post xp => A ρ (fun ds ρ1 => dcK vs g T Ek Ev post .mk ds [] ρ1) xp
@[simp ↓] theorem fDc_ap (A : FA) (vs : List Nat) (g : FG) (T : FT) (Ek Ev : FE) (ρ : Env) (post : Post) (xp : XP) : fDc A vs g T Ek Ev ρ post xp = (A ρ (fun ds ρ1 => dcK vs g T Ek Ev post .mk ds [] ρ1) xp) := (rfl)
section
variable {X : Cx} {Wx : WX} {P L I J : List Nat} {kx vx tg iter : Expr} {ifs : List Expr} {scope : Scope} {own : List (Str × Nat)} {pos spos py : Pos} {wi : TI} {g : TG} {tt : TT} {tk tv : TE} {A : FA} {gd : FG} {T : FT} {Ek Ev : FE} {ts : List Nat}
theorem dc_ev (hi : DI X Wx P I tg iter wi A J) (hg : ∀ (s : Shared) (H : Hp) (C : Addr) (cl : List (Str × Addr)) (fp : List Addr), DG (X.blk s H scope (compEnvC scope cl C X.env) fp) (P ++ J) [] tg ts g gd)
    (ht : ∀ (s : Shared) (H : Hp) (C : Addr) (cl : List (Str × Addr)) (fp : List Addr), DTs (X.blk s H scope (compEnvC scope cl C X.env) fp) WN (P ++ J) [] ifs tt T [])
    (hk : ∀ (s : Shared) (H : Hp) (C : Addr) (cl : List (Str × Addr)) (fp : List Addr), DE (X.blk s H scope (compEnvC scope cl C X.env) fp) WN (P ++ J) [] kx tk Ek [])
    (he : ∀ (s : Shared) (H : Hp) (C : Addr) (cl : List (Str × Addr)) (fp : List Addr), DE (X.blk s H scope (compEnvC scope cl C X.env) fp) WN (P ++ J) [] vx tv Ev [])
    (hts : ∀ v ∈ ts, v ∈ own.map (·.2)) (hvs : ∀ v ∈ own.map (·.2), v ∉ P ∧ v ∉ J) :
    ∀ (W : Wd) (ρ : Env) (σ : St) (Hb H : Hp) (Q : VK) (post : Post) (xp : XP), EnvOk X.K W P I ρ σ Hb H → fDc A (own.map (·.2)) gd T Ek Ev ρ post xp → XOk X Wx W P σ xp →
    (∀ d ρ' p Hb' H', post d ρ' → EnvOk X.K W P J ρ' σ Hb' H' → Sub Hb Hb' → NewAt X.K W P J ρ' σ Hb' H' p d → Q (.ref p) H') → tDcT wi g tt tk tv (own.map (·.2)) σ H Q := by
  intro W ρ σ Hb H Q post xp E0 f x q
  refine hi.ev W ρ σ Hb H _ _ xp E0 f x fun ds ρ1 Jt Hb1 H1 f1 E1 s1 it => ?_
  have f1 : dcL (own.map (·.2)) gd T Ek Ev post ds [] ρ1 := f1
  intro D hD
  let s0 : Shared := {}
  refine ⟨fun i m H' => m = ds.length - i ∧ i ≤ ds.length ∧ ∃ ρ' Hb' acc, EnvOk X.K W P J ρ' σ Hb' H' ∧ Sub Hb1 Hb' ∧ NewAt X.K W P J ρ' σ Hb' H' D (.dt acc) ∧ dcL (own.map (·.2)) gd T Ek Ev post (ds.drop i) acc ρ',
    ⟨_, rfl, Nat.zero_le _, ρ1, Hb1, [], E1.more hD, Sub.refl _, NewAt.mk' E1 hD ⟨[], upd_same, rfl, .nil⟩, f1⟩, ?_⟩
  rintro i m H2 ⟨rfl, hi, ρ2, Hb2, acc, E2, s2, n2, f2⟩
  obtain ⟨i1, i2⟩ := it i H2 Hb2 s2 E2.sub
  by_cases hlt : i < ds.length
  · rw [List.drop_eq_getElem_cons hlt] at f2
    unfold dcL at f2
    obtain ⟨go, yl⟩ := i1 ds[i] (List.getElem?_eq_getElem hlt)
    refine .inr ⟨go, fun H' => ∃ ρ' Hb' acc, EnvOk X.K W P J ρ' σ Hb' H' ∧ Sub Hb1 Hb' ∧ NewAt X.K W P J ρ' σ Hb' H' D (.dt acc) ∧ dcL (own.map (·.2)) gd T Ek Ev post (ds.drop (i + 1)) acc ρ', fun H' h => ⟨ds.length - (i + 1), by omega, rfl, hlt, h⟩, fun y H3 yy => ?_⟩
    obtain ⟨Hb3, gr, is⟩ := yl y H3 yy
    obtain ⟨E3, s3⟩ := gr.env E2
    have n3 := n2.grow E2 gr
    have hP' : ∀ v ∈ own.map (·.2), v ∉ P ++ J ∧ v ∉ ([] : List Nat) := fun v hv => ⟨fun z => (List.mem_append.mp z).elim (hvs v hv).1 (hvs v hv).2, by simp⟩
    have EL := E3.lent
    have EW := EL.wiped hP'
    have xn : ∀ (Y : Cx) (σ' : St), XOk Y WN (here P J ρ2 σ Hb3 H3) (P ++ J) σ' noX := fun Y σ' c ρ' cls dx Hb' H' z => z.elim
    refine (hg s0 H3 0 [] []).ev (here P J ρ2 σ Hb3 H3) (wipeE ρ2 (own.map (·.2))) (wipe σ (own.map (·.2))) Hb3 H3 y _ _ _ EW is f2 fun ρ4 σ4 f4 E4 o4 => ?_
    have off : σ4.length = σ.length ∧ ∀ i, i ∉ own.map (·.2) → σ4[i]? = σ[i]? := ⟨by rw [o4.1, wipe_length], fun i hi => by rw [o4.2 i fun z => hi (hts i z), wipe_get hi]⟩
    refine ⟨wipe_ext off.1 off.2, (ht s0 H3 0 [] []).ev _ ρ4 σ4 Hb3 H3 _ _ noX E4 f4 (xn _ _) fun b ρ5 Hb5 H5 f5 E5 s5 => ?_⟩
    cases b with
    | true =>
      rw [if_pos rfl] at f5 ⊢
      refine (hk s0 H3 0 [] []).ev _ ρ5 σ4 Hb5 H5 _ _ noX E5 f5 (xn _ _) fun kd ρ6 y Hb6 H6 f6 E6 s6 i6 => ?_
      refine (he s0 H3 0 [] []).ev _ ρ6 σ4 Hb6 H6 _ _ noX E6 f6 (xn _ _) fun z ρ7 v Hb7 H7 f7 E7 s7 i7 => ?_
      obtain ⟨k, ek, hlen, f7⟩ := f7
      have s57 := (s5.trans s6).trans s7
      have E8 := EL.unwiped E7 s57 off hP'
      have E9 := E3.back E8
      have n9 := n3.over E8
      obtain ⟨vs, hv, ev, lv⟩ := n9.cell
      obtain ⟨c1, c2⟩ := putD_rel k ev lv i7
      cases kd <;> simp only [keyTD] at ek <;> first | cases ek | skip
      have i6 := i6.mono s7
      cases i6 with
      | tup hb lb =>
        obtain rfl := is_keys lb ek
        have hl : vs.length < sizeLine := by
          have := congrArg List.length ev
          simp only [List.length_map] at this
          rw [this]; exact Nat.lt_of_lt_of_le hlen (by decide)
        obtain ⟨Ea, na⟩ := n9.write (o := .dT (putK vs k v)) (d' := .dt (putD acc k z)) E9 ⟨_, upd_same, c1, c2⟩
        exact ⟨vs, k, _, rfl, E7.sub.at hb, hv, hl, _, Hb7, _, Ea, (s2.trans s3).trans s57, na, f7⟩
    | false =>
      rw [if_neg Bool.false_ne_true] at f5 ⊢
      have E8 := EL.unwiped E5 s5 off hP'
      exact ⟨_, Hb5, acc, E3.back E8, (s2.trans s3).trans s5, n3.over E8, f5⟩
  · have e : i = ds.length := by omega
    subst e
    rw [List.drop_length] at f2
    exact .inl ⟨i2 rfl, q _ _ _ _ _ f2 E2 (s1.trans s2) n2⟩
theorem dx_dc (own : List (Str × Nat)) (vs : List Nat) (hu : X.A.units < cLine) (hc : X.calm = true) (hN : X.N.Nodup) (hi : DI X Wx P I tg iter wi A J)
    (hg : ∀ (s : Shared) (H : Hp) (C : Addr) (cl : List (Str × Addr)) (fp : List Addr), ∃ g, DG (Bk X scope s H C cl fp) (P ++ J) [] tg ts g gd)
    (ht : ∀ (s : Shared) (H : Hp) (C : Addr) (cl : List (Str × Addr)) (fp : List Addr), ∃ tt, DTs (Bk X scope s H C cl fp) WN (P ++ J) [] ifs tt T [])
    (hk : ∀ (s : Shared) (H : Hp) (C : Addr) (cl : List (Str × Addr)) (fp : List Addr), ∃ te, DE (Bk X scope s H C cl fp) WN (P ++ J) [] kx te Ek [])
    (he : ∀ (s : Shared) (H : Hp) (C : Addr) (cl : List (Str × Addr)) (fp : List Addr), ∃ te, DE (Bk X scope s H C cl fp) WN (P ++ J) [] vx te Ev [])
    (hb : blkC X.N X.env.scope scope own = true := by rfl) (e3 : own.map (·.2) = vs := by rfl)
    (hts : ∀ v ∈ ts, v ∈ own.map (·.2) := by decide) (hvs : ∀ v ∈ own.map (·.2), v ∉ P ∧ v ∉ J := by decide) (hs : ∀ x, foldedSetIterable iter X.env x = pure x := by intro _; rfl) :
    DNx X Wx P I (.DictComp kx vx [⟨tg, iter, ifs, 0⟩] scope pos) (fDc A vs gd T Ek Ev) J := by
  obtain ⟨g, hg⟩ := all_dg hg
  obtain ⟨tt, ht⟩ := all_dts ht
  obtain ⟨tk, hk⟩ := all_de hk
  obtain ⟨te, he⟩ := all_de he
  subst e3
  exact ⟨_, ⟨pe_dcT hu hc hN hi.pe (blkOk_by hb) (fun s H C cl fp => (hg s H C cl fp).pe) (fun s H C cl fp => (ht s H C cl fp).pe) (fun s H C cl fp => (hk s H C cl fp).pe) (fun s H C cl fp => (he s H C cl fp).pe) hs, dc_ev hi hg ht hk he hts hvs⟩⟩
/-- a list comprehension whose enclosing scope is told by the context (a comprehension within one, too) -/
theorem dx_lcB {elt : Expr} {E : FE} (own : List (Str × Nat)) (vs : List Nat) (hc : X.calm = true) (hN : X.N.Nodup) (hi : DI X Wx P I tg iter wi A J)
    (hg : ∀ (s : Shared) (H : Hp) (C : Addr) (cl : List (Str × Addr)) (fp : List Addr), ∃ g, DG (Bk X scope s H C cl fp) (P ++ J) [] tg ts g gd)
    (ht : ∀ (s : Shared) (H : Hp) (C : Addr) (cl : List (Str × Addr)) (fp : List Addr), ∃ tt, DTs (Bk X scope s H C cl fp) WN (P ++ J) [] ifs tt T [])
    (he : ∀ (s : Shared) (H : Hp) (C : Addr) (cl : List (Str × Addr)) (fp : List Addr), ∃ te, DE (Bk X scope s H C cl fp) WN (P ++ J) [] elt te E [])
    (hb : blkC X.N X.env.scope scope own = true := by rfl) (e3 : own.map (·.2) = vs := by rfl)
    (hts : ∀ v ∈ ts, v ∈ own.map (·.2) := by decide) (hvs : ∀ v ∈ own.map (·.2), v ∉ P ∧ v ∉ J := by decide) (hs : ∀ x, foldedSetIterable iter X.env x = pure x := by intro _; rfl) :
    DNx X Wx P I (.ListComp elt [⟨tg, iter, ifs, 0⟩] scope pos) (fLc A vs gd T E) J := by
  obtain ⟨g, hg⟩ := all_dg hg
  obtain ⟨tt, ht⟩ := all_dts ht
  obtain ⟨te, he⟩ := all_de he
  subst e3
  exact ⟨_, dn_lc own hc hN hi (blkOk_by hb) hg ht he hts hvs hs⟩
theorem da_starC {J1 : List Nat} {e : Expr} {es : List Expr} {te : TE} {tA : TA} {F : FE} {B : FA} {p : Pos} (ha : DE X Wx P I e te F J1) (hb : DA X Wx P J1 es tA B J) (hs : starEach (.Starred e p :: es) X.env = (true, eval e X.env) :: starEach es X.env := by rfl) :
    DA X Wx P I (.Starred e p :: es) (StX.tStar X.K te tA) (fStarC F B) J :=
  ⟨StX.pa_star ha.pe hb.pe hs, fun W ρ σ Hb H Q post xp E f x q => ha.ev W ρ σ Hb H _ _ xp E f x fun d ρ1 v Hb1 H1 f1 E1 s1 i1 => by
    obtain ⟨xs, hxs, f1⟩ := f1
    obtain ⟨a, vs, e1, h1, l1⟩ := o_seqD E1.sub (.inl i1) hxs
    refine ⟨a, vs, e1, h1.symm, hb.ev W ρ1 σ Hb1 H1 _ _ xp E1 f1 x fun ys ρ2 ws Hb2 H2 f2 E2 s2 l2 => ?_⟩
    exact q _ _ _ _ _ f2 E2 (s1.trans s2) ((l1.mono s2).append l2)⟩
end
end DL

/-! DG22: try: .. except x as n: v = n, where the exception is kept behind the try. -/
namespace L2
open PySem PySem.Spec PyProof.Rows
open DL (XcO)
theorem xcO_ok {P : Program} {w : World} {H : Hp} {h : Heap} {a : Addr} {cls : Value} {d : Option Addr} {oe : Obj} {vs : Array Value} (e : h.get? a = some oe) (z : Zc cls d oe) (q : oe.data = .fields vs) : ObjOk P w H h a (XcO cls d a) :=
  ⟨⟨oe, vs, e, z, q⟩, ⟨oe, e⟩, fun _ _ ⟨o, v, q, r⟩ k => ⟨o, v, k o q, r⟩⟩
section
variable {X : Cx} {pins : List (Addr × Obj)} {σ : St} {H : Hp} {s : Shared}
/-- an object that is pinned and was not there at the entry is known from here on -/
theorem Inv.adopt {a : Addr} {oe : Obj} {o : HO} (I : Inv X ((a, oe) :: pins) σ H s) (n0 : X.s_0.heap.get? a = none) (np : ∀ p ∈ X.pn ++ pins, p.1 ≠ a) (new : ObjOk X.prog X.w (upd H a o) s.heap a o) : Inv X pins σ (upd H a o) s := by
  obtain ⟨ha, na, nL, nF, nc⟩ := I.pin (a, oe) (by simp)
  have sub : ∀ p ∈ X.pn ++ pins, p ∈ X.pn ++ ((a, oe) :: pins) := fun p hp => by
    rcases List.mem_append.mp hp with h | h
    · exact List.mem_append_left _ h
    · exact List.mem_append_right _ (List.mem_cons_of_mem _ h)
  refine ⟨I.ok, I.os, I.bare, ⟨I.base.keep, I.base.slot, fun b ob e n hb => ?_, I.base.there, fun b xs e => ?_, fun b o' u e => ?_, fun b ps e => ?_⟩, I.loc, I.cell, ?_, fun x c e => ?_, fun p hp => ?_, ?_, I.len⟩
  · rw [upd_ne (fun z => by rw [z, n0] at e; cases e)]
    exact I.base.free b ob e n hb
  · have q := I.base.tups b xs e
    rw [upd_ne (ne_of_none q na)]; exact q
  · have q := I.base.frzs b o' u e
    rw [upd_ne (ne_of_none q na)]; exact q
  · obtain ⟨m, q⟩ := I.base.tbls b ps e
    exact ⟨m, by rw [upd_ne (ne_of_none q na)]; exact q⟩
  · rw [upd_ne (Ne.symm nL)]; exact I.free
  · have ne : c ≠ a := fun z => by
      obtain ⟨v, oc, hoc, hd⟩ := I.cell x c e
      rw [z, ha] at hoc
      cases hoc
      exact nc v hd
    rw [upd_ne ne]; exact I.freeC x c e
  · obtain ⟨e1, e2, e3⟩ := I.pin p (sub p hp)
    exact ⟨e1, by rw [upd_ne (np p hp)]; exact e2, e3⟩
  · exact I.hok.laidN (fun _ _ q => q) na new
end
/-- what 'except x as n: v = n' wishes of an exception of the body: slot i is n's, slot j is v's -/
def wKeep (K : PySem.W.Frag) (c : Value) (i j : Nat) (Wout : WX) (D : Ends) : WX := fun cls d σ H =>
  ∃ b, PySem.W.exmOne K cls c = some b ∧ (b = true → ∀ a, H a = none → D.nx (((σ.set i (some (.ref a))).set j (some (.ref a))).set i none) (upd H a (XcO cls d a))) ∧ (b = false → Wout cls d σ H)
section
variable {X : Cx} {x n v : Str} {c : Value} {i j : Nat} {body : List Stmt} {np pos pos' p1 p2 p3 : Pos} {tb : WX → TS} {Wout : WX}
theorem ps_try_keep (hs : X.stack = X.env :: X.outer) (hf : X.env.frame = some X.env.locals) (hex : X.ex = []) (hN : X.N.Nodup) (hi : X.N[i]? = some n) (hj : X.N[j]? = some v) (hln : X.env.kindOf n = some .local) (hvn : Vis X.env.scope n) (hlv : Loc X.env.scope v) (hfv : X.fn v = true ∨ X.env.scope.names.lookup v = some .local) (hc : Names X x c) (tk : Takes X Wout)
    (hd1 : (n == ("__debug__" : Str)) = false) (hd2 : (n == ("__classdict__" : Str)) = false) (hsw : ∀ (A : Addr) (pn : List (Addr × Obj)), swapsWith (.Name n p2) (some (.Name v p1)) p3.line X.env = pure false)
    (hb : ∀ (W : WX) (pn : List (Addr × Obj)) (xe : Value → Shared → Prop), Takes (X.tr pn xe) W → PassesOwn (model X.prog X.w) X.A X.env xe → PSs (X.tr pn xe) body (tb W)) :
    PS X (.Try body [.ExceptHandler (some (.Name x np)) (some n) [.Assign [.Name v p1] (.Name n p2) p3] pos'] [] [] pos) (fun D σ H => tb (wKeep X.K c i j Wout D) D σ H) := by
  refine ⟨fun pins s σ H D I0 h0 => ?_⟩
  have ok := I0.ok
  have frames : X.A.frames = some (X.env :: X.outer) := by rw [ok.frames, hs]
  refine wpAny_Try_except (wpAny_mono ((hb (wKeep X.K c i j Wout D) (X.pn ++ pins) _ (fun u s1 air => ?_) PassesOwn.looking).run [] s σ H D (I0.toTry _) h0) (fun f s1 out => ?_) (fun e s1 q => q))
  · -- caught
    obtain ⟨a, B, sI, pins1, σ1, H1, cls, d, rfl, J0, nb, up, sky, na, os, ag, b, eb, yes, no⟩ := air
    have J : Inv X pins σ1 H1 sI := J0.ofTry ok
    have sky : Sky B (X.env :: X.outer) a (Zc cls d) X.env.locals s1.heap := by rw [← hs]; exact sky
    have stk : ∀ b, b ∉ frs X.stack → ∀ o, sI.heap.get? b = some o → B.get? b = some o := fun b hb o e => nb b o e hb
    show wpAny (model X.prog X.w) X.A (noteFrame (.ref a) X.env) _ _ _
    refine Sky.land Zc.steady frames hf sky fun h3 fl3 up3 => ?_
    have J3 : Inv X pins σ1 H1 { s1 with heap := h3 } := J.landed nb fl3.1 (up.trans up3) os ag
    obtain ⟨o3, f3, e3, z3, d3⟩ := fl3.there
    have nfr : a ∉ frs (X.env :: X.outer) := fun hm => by
      obtain ⟨_, o', e', hnf⟩ := fl3.2.2.1.mem hm
      rw [e3] at e'; cases e'
      exact hnf _ d3
    have nL : a ≠ X.env.locals := fun z => nfr (List.mem_filterMap.mpr ⟨X.env, List.mem_cons_self, by rw [hf, z]⟩)
    have nF : a ∉ X.fs := fun hm => by
      obtain ⟨e, he, q⟩ := List.mem_filterMap.mp hm
      exact nfr (List.mem_filterMap.mpr ⟨e, List.mem_cons_of_mem _ he, q⟩)
    have nB : B.get? a = none := fl3.2.1
    have stA : a ∉ frs X.stack := by rw [hs]; exact nfr
    have n0 : X.s_0.heap.get? a = none := by
      cases z : X.s_0.heap.get? a with
      | none => rfl
      | some o =>
        obtain ⟨o', q⟩ := J.base.there a o z (by rw [hex]; simp)
        have := stk a stA o' q
        rw [nB] at this; cases this
    have npin : ∀ p ∈ X.pn ++ pins, p.1 ≠ a := fun p hp z => by
      obtain ⟨q, _, _, _, _⟩ := J.pin p hp
      rw [z] at q
      have := stk a stA _ q
      rw [nB] at this; cases this
    have S3 := J3.suite e3 d3 na nL nF
    refine wpAny_handleBy_cons (codeAny_handlers_test ?_) (by intro q; cases q)
    have LT : PySem.W.Looks (model X.prog X.w) h3 (typeOf (.ref a)) cls := fun A Q E t k q => wpAny_typeOf_ref (k _ _ e3) (by rw [z3.1]; exact q)
    have LM := PySem.W.exm_one (M := model X.prog X.w) J3.kIn LT eb
    have named : ∀ {Q : Value → Shared → Prop} {E : Value → Shared → Prop}, Q c { s1 with heap := h3 } → wpAny (model X.prog X.w) (X.A.mark (some (.ref a))) (eval (.Name x np) X.env) Q E { s1 with heap := h3 } := fun {Q E} q => by
      obtain ⟨hg, hdbg, hm | ⟨hm, hv, hnn⟩⟩ := hc
      · exact ld_glob (X := X.suite a ((a, o3) :: (X.pn ++ pins))) S3 hg hm q hdbg
      · exact ld_blt (X := X.suite a ((a, o3) :: (X.pn ++ pins))) S3 hg hm hv q hnn hdbg
    refine named (LM.here ?_)
    cases b with
    | true =>
      refine codeAny_handlers_suite_as (HandSPX.lands_againZ fl3 fun h4 fl4 up4 => ?_)
      have J4 : Inv X pins σ1 H1 { s1 with heap := h4 } := J.landed nb fl4.1 ((up.trans up3).trans up4) os ag
      obtain ⟨o4, f4, e4, z4, d4⟩ := fl4.there
      have S4 := J4.suite e4 d4 na nL nF
      refine store_ok (X := X.suite a ((a, o4) :: (X.pn ++ pins))) (v := .ref a) S4 hN hi (.inl hln) rfl (fun s5 S5 => ?_) (.inr hln)
      have lt : i < σ1.length := by rw [J.len]; exact (List.getElem?_eq_some_iff.mp hi).1
      have suite : PSs (X.suite a ((a, o4) :: (X.pn ++ pins))) [.Assign [.Name v p1] (.Name n p2) p3] (tAsg (tVar i) (gName j)) :=
        pss_one (ps_set (X := X.suite a ((a, o4) :: (X.pn ++ pins))) hN hj hlv (pe_var hi hvn hd1 hd2) (hsw a []) hfv)
      refine wpAny_mono (suite.run [] s5 _ H1 ⟨fun σ2 H2 => σ2 = (σ1.set i (some (.ref a))).set j (some (.ref a)) ∧ H2 = H1, fun _ _ => False, fun _ _ => False, fun _ _ => False⟩ S5 ⟨.ref a, List.getElem?_set_self lt, rfl, rfl⟩) (fun f s6 out => ?_) (fun _ _ z => False.elim z)
      cases f with
      | next =>
        obtain ⟨σ6, H6, S6, rfl, rfl⟩ := out
        have S7 : Inv X ((a, o4) :: pins) ((σ1.set i (some (.ref a))).set j (some (.ref a))) H6 s6 :=
          ⟨ok, S6.os, S6.bare, S6.base, S6.loc, S6.cell, S6.free, S6.freeC, fun p hp => S6.pin p (List.mem_append_left _ (by
            rcases List.mem_append.mp hp with h | h
            · exact List.mem_cons_of_mem _ (List.mem_append_left _ h)
            · rcases List.mem_cons.mp h with h | h
              · rw [h]; exact List.mem_cons_self
              · exact List.mem_cons_of_mem _ (List.mem_append_right _ h))), S6.hok, S6.len⟩
        refine gone_ok S7 hN hi hln fun s8 J8 => ?_
        obtain ⟨e8, _, _, _, _⟩ := J8.pin (a, o4) (by simp)
        exact ⟨_, _, J8.adopt n0 npin (xcO_ok e8 z4 d4), yes rfl a na⟩
      | brk => obtain ⟨_, _, _, z⟩ := out; exact z.elim
      | cont => obtain ⟨_, _, _, z⟩ := out; exact z.elim
      | ret u => obtain ⟨_, _, _, _, _, z⟩ := out; exact z.elim
    | false =>
      show wpAny _ X.A (handleBy (.ref a) X.env []) _ _ _
      refine wpAny_handleBy_nil ?_
      obtain ⟨k1, k2, k3, oe, vs, T, oT, ts', he, hz, hd, h1, hr⟩ := id fl3
      unfold PySem.passOn
      refine wpAny_bind (wpAny_field he hd h1 ?_)
      rw [if_neg (show ¬ ((Value.ref T == Value.none) = true) from by simp)]
      have go : wpAny (model X.prog X.w) X.A (setFlight (.ref a) X.env.frame) (fun _ s4 => wpAny (model X.prog X.w) X.A (throw (.ref a) : Sem Flow) (SP X pins D) X.xe s4) X.xe { s1 with heap := h3 } := by
        rw [hf]
        refine HandSPX.setFlight_upZ fl3 fun h4 hh4 up4 => wpAny_throw (tk _ _ ?_)
        exact ⟨a, B, sI, pins, σ1, H1, cls, d, rfl, J, nb, (up.trans up3).trans up4, .inr (.inr (by rw [hs]; exact hh4)), na, os, ag, no rfl⟩
      first
        | exact wpAny_bind (wpAny_pure (wpAny_bind go))
        | exact wpAny_bind go
  · cases f with
    | next => obtain ⟨σ1, H1, J, q⟩ := out; exact wpAny_execs_nil ⟨σ1, H1, J.ofTry ok, q⟩
    | brk => obtain ⟨σ1, H1, J, q⟩ := out; exact ⟨σ1, H1, J.ofTry ok, q⟩
    | cont => obtain ⟨σ1, H1, J, q⟩ := out; exact ⟨σ1, H1, J.ofTry ok, q⟩
    | ret u => obtain ⟨z, σ1, H1, J, r, q⟩ := out; exact ⟨z, σ1, H1, J.ofTry ok, r, q⟩
end
end L2

/-! DG23: comprehensions that change nothing beside their own names, as map and filter. -/
namespace DL
open PySem L2
theorem hu2_of {A : Around} {k : Nat} (hr : Room k A) : A.units + 2 < cLine := by have := hr.un; omega
theorem compL_filter {vs : List Nat} {g : FG} {T : FT} {E : FE} {post : Post} {ρ : Env} (p : D → Bool) (f : D → D) : ∀ (ds acc : List D), acc.length + ds.length ≤ 1000000 →
    (∀ d ∈ ds, ∀ (Pst : D → Env → Prop) (N : Env → Prop), (p d = true → ∀ ρ3, unwipe ρ ρ3 vs = ρ → Pst (f d) ρ3) → (p d = false → ∀ ρ2, unwipe ρ ρ2 vs = ρ → N ρ2) →
      g d (wipeE ρ vs) fun ρ1 => T ρ1 (fun b ρ2 => if b = true then E ρ2 Pst noX else N ρ2) noX) →
    post (.lst (acc ++ (ds.filter p).map f)) ρ → compL vs g T E post ds acc ρ
  | [], acc, _, _, q => by simpa [compL] using q
  | d :: ds, acc, hl, h, q => by
    unfold compL
    simp only [List.length_cons] at hl
    refine h d List.mem_cons_self _ _ (fun hp ρ3 e => ⟨by omega, ?_⟩) (fun hp ρ2 e => ?_)
    · rw [e]
      refine compL_filter p f ds (acc ++ [f d]) (by simp; omega) (fun x hx => h x (List.mem_cons_of_mem _ hx)) ?_
      rw [List.filter_cons, if_pos hp, List.map_cons] at q
      simpa using q
    · rw [e]
      refine compL_filter p f ds acc (by omega) (fun x hx => h x (List.mem_cons_of_mem _ hx)) ?_
      rw [List.filter_cons, if_neg (by rw [hp]; simp)] at q
      exact q
theorem compL_map {vs : List Nat} {g : FG} {E : FE} {post : Post} {ρ : Env} (f : D → D) (ds : List D) (hl : ds.length ≤ 1000000)
    (h : ∀ d ∈ ds, ∀ (Pst : D → Env → Prop), (∀ ρ3, unwipe ρ ρ3 vs = ρ → Pst (f d) ρ3) → g d (wipeE ρ vs) fun ρ1 => E ρ1 Pst noX)
    (q : post (.lst (ds.map f)) ρ) : compL vs g tYesD E post ds [] ρ := by
  refine compL_filter (fun _ => true) f ds [] (by simpa using hl) (fun d hd Pst N h1 h2 => ?_) (by rw [List.nil_append, List.filter_eq_self.2 (fun _ _ => rfl)]; exact q)
  have := h d hd Pst (h1 rfl)
  simpa [tYesD] using this
theorem dcL_filter {vs : List Nat} {g : FG} {T : FT} {Ek Ev : FE} {post : Post} {ρ : Env} (p : D → Bool) (fk : D → List Key) (fv : D → D) : ∀ (ds : List D) (acc : List (List Key × D)), acc.length + ds.length ≤ 1000000 →
    (∀ d ∈ ds, ∀ (R : List Key → D → Env → Prop) (N : Env → Prop), (p d = true → ∀ ρ3, unwipe ρ ρ3 vs = ρ → R (fk d) (fv d) ρ3) → (p d = false → ∀ ρ2, unwipe ρ ρ2 vs = ρ → N ρ2) →
      g d (wipeE ρ vs) fun ρ1 => T ρ1 (fun b ρ2 => if b = true then Ek ρ2 (fun kd ρ3 => Ev ρ3 (fun y ρ4 => ∃ k, keyTD kd = some k ∧ R k y ρ4) noX) noX else N ρ2) noX) →
    post (.dt ((ds.filter p).foldl (fun a d => putD a (fk d) (fv d)) acc)) ρ → dcL vs g T Ek Ev post ds acc ρ
  | [], acc, _, _, q => by simpa [dcL] using q
  | d :: ds, acc, hl, h, q => by
    unfold dcL
    simp only [List.length_cons] at hl
    refine h d List.mem_cons_self (fun k y ρ4 => acc.length < 1000000 ∧ dcL vs g T Ek Ev post ds (putD acc k y) (unwipe ρ ρ4 vs)) _ (fun hp ρ3 e => ⟨by omega, ?_⟩) (fun hp ρ2 e => ?_)
    · rw [e]
      have lp : (putD acc (fk d) (fv d)).length ≤ acc.length + 1 := by unfold putD; split <;> simp
      refine dcL_filter p fk fv ds _ (by omega) (fun x hx => h x (List.mem_cons_of_mem _ hx)) ?_
      rw [List.filter_cons, if_pos hp, List.foldl_cons] at q
      exact q
    · rw [e]
      refine dcL_filter p fk fv ds acc (by omega) (fun x hx => h x (List.mem_cons_of_mem _ hx)) ?_
      rw [List.filter_cons, if_neg (by rw [hp]; simp)] at q
      exact q
end DL

namespace DL
open PySem L2 StrLaws
/-! repr of plain data that is not too large -/
def shw (d : D) : Str := match pd d with
  | some x => x.shown
  | none => Str.empty
def RO (d : D) (dp n : Nat) : Prop := ∃ x, pd d = some x ∧ x.showable = true ∧ x.hasDict = false ∧ x.depth ≤ dp ∧ x.shown.length ≤ n
theorem RO.mono {d : D} {a b m n : Nat} (h : RO d a m) (h1 : a ≤ b) (h2 : m ≤ n) : RO d b n := by
  obtain ⟨x, e, s, hd, k, l⟩ := h
  exact ⟨x, e, s, hd, by omega, by omega⟩
theorem RO.non : RO .non 0 4 := ⟨.none, rfl, rfl, rfl, by decide, by decide +kernel⟩
theorem RO.bl (b : Bool) : RO (.bl b) 0 5 := ⟨.bool b, rfl, rfl, rfl, by simp [PyData.depth], by cases b <;> decide +kernel⟩
theorem RO.int {i : Int} {k : Nat} (hk : 0 < k) (hk2 : k ≤ 500) (h : i.natAbs < 10 ^ k) : RO (.int i) 0 (k + 1) := by
  refine ⟨.int i, rfl, ?_, rfl, by simp [PyData.depth], ?_⟩
  · simp only [PyData.showable, decide_eq_true_eq]
    have : i.natAbs < 2 ^ 1920 := by
      have h1 : (10 : Nat) ^ k ≤ 10 ^ 500 := Nat.pow_le_pow_right (by decide) hk2
      have h2 : (10 : Nat) ^ 500 < 2 ^ 1920 := by decide +kernel
      omega
    by_cases z : i.natAbs = 0
    · rw [z]; decide
    · exact (Nat.log2_lt z).mpr this
  · have e := int_text_length_le10 (k := k) hk h
    show (Str.ofString (toString i)).length ≤ k + 1
    rw [ofString_length]; exact e
theorem RO.str {s : Str} {n : Nat} (h : (PyData.shown (.str s)).length ≤ n) : RO (.str s) 0 n := ⟨.str s, rfl, rfl, rfl, by simp [PyData.depth], h⟩
theorem ROL {dp n : Nat} : ∀ {ds : List D}, (∀ d ∈ ds, RO d dp n) → ∃ xs, pdL ds = some xs ∧ PyData.showableAll xs = true ∧ PyData.hasDictAll xs = false ∧ PyData.depthAll xs ≤ dp ∧ xs.length = ds.length ∧ ((PyData.shownAll xs).map (·.length)).sum ≤ ds.length * n
  | [], _ => ⟨[], rfl, rfl, rfl, by simp [PyData.depthAll], rfl, by simp [PyData.shownAll]⟩
  | d :: ds, h => by
    obtain ⟨x, e, s, hd, k, l⟩ := h d List.mem_cons_self
    obtain ⟨xs, e', s', hd', k', l', t'⟩ := ROL (ds := ds) fun d hd => h d (List.mem_cons_of_mem _ hd)
    refine ⟨x :: xs, by simp [pdL, e, e'], by simp [PyData.showableAll, s, s'], by simp [PyData.hasDictAll, hd, hd'], by simp only [PyData.depthAll]; omega, by simp [l'], ?_⟩
    simp only [PyData.shownAll, List.map_cons, List.sum_cons, List.length_cons, Nat.succ_mul]
    omega
theorem shownAll_len : ∀ xs : List PyData, (PyData.shownAll xs).length = xs.length
  | [] => rfl
  | x :: xs => by simp [PyData.shownAll, shownAll_len xs]
theorem RO.tup {ds : List D} {dp n : Nat} (h : ∀ d ∈ ds, RO d dp n) : RO (.tup ds) (dp + 1) (ds.length * (n + 2) + 3) := by
  obtain ⟨xs, e, s, hd, k, l, t⟩ := ROL h
  refine ⟨.tuple xs, by simp [pd, e], by simp [PyData.showable, s], by simp [PyData.hasDict, hd], by simp only [PyData.depth]; omega, ?_⟩
  have := tupleText_len_le (PyData.shownAll xs)
  rw [shownAll_len] at this
  show (tupleText (PyData.shownAll xs)).length ≤ _
  rw [Nat.mul_add]; omega
theorem RO.lst {ds : List D} {dp n : Nat} (h : ∀ d ∈ ds, RO d dp n) : RO (.lst ds) (dp + 1) (ds.length * (n + 2) + 3) := by
  obtain ⟨xs, e, s, hd, k, l, t⟩ := ROL h
  refine ⟨.list xs, by simp [pd, e], by simp [PyData.showable, s], by simp [PyData.hasDict, hd], by simp only [PyData.depth]; omega, ?_⟩
  have := listText_len_le (PyData.shownAll xs)
  rw [shownAll_len] at this
  show (listText (PyData.shownAll xs)).length ≤ _
  rw [Nat.mul_add]; omega
theorem gRepr_ro {d : D} {dp n : Nat} (h : RO d dp n) (h1 : dp ≤ 60) (h2 : n ≤ 1000000) (k : D → Prop) : gRepr [d] k = k (.str (shw d)) := by
  obtain ⟨x, e, s, hd, kk, l⟩ := h
  have es : shw d = x.shown := by unfold shw; rw [e]
  refine propext ⟨fun z => ?_, fun q => ⟨x, e, s, hd, by omega, by omega, by rw [← es]; exact q⟩⟩
  obtain ⟨y, e', _, _, _, _, q⟩ := z
  rw [e] at e'; cases e'
  rw [es]; exact q
/-! == of plain data (no bools in it) is equality -/
mutual
def plD : Nat → D → Bool
  | _, .non => true
  | _, .int _ => true
  | _, .str s => PyData.strOk s
  | n + 1, .tup ds => plDs n ds
  | n + 1, .lst ds => plDs n ds
  | _, _ => false
def plDs : Nat → List D → Bool
  | _, [] => true
  | n, d :: ds => plD n d && plDs n ds
end
theorem plDs_all (n : Nat) : ∀ ds : List D, plDs n ds = ds.all (plD n)
  | [] => by simp [plDs]
  | d :: ds => by simp [plDs, plDs_all n ds]
@[simp] theorem plD_non (n : Nat) : plD n .non = true := by cases n <;> simp [plD]
@[simp] theorem plD_int (n : Nat) (i : Int) : plD n (.int i) = true := by cases n <;> simp [plD]
@[simp] theorem plD_str (n : Nat) (s : Str) : plD n (.str s) = PyData.strOk s := by cases n <;> simp [plD]
@[simp] theorem plD_tup (n : Nat) (ds : List D) : plD n (.tup ds) = (decide (1 ≤ n) && ds.all (plD (n - 1))) := by cases n <;> simp [plD, plDs_all]
@[simp] theorem plD_lst (n : Nat) (ds : List D) : plD n (.lst ds) = (decide (1 ≤ n) && ds.all (plD (n - 1))) := by cases n <;> simp [plD, plDs_all]
mutual
theorem plD_pd : ∀ {n : Nat} {d : D}, plD n d = true → ∃ x, pd d = some x ∧ x.canLay0 = true ∧ x.depth ≤ n ∧ ∀ {m : Nat} {d' : D} {y : PyData}, plD m d' = true → pd d' = some y → PyData.eqv x y = true → d = d'
  | n, .non, _ => ⟨.none, rfl, rfl, by simp [PyData.depth], fun {m d' y} h e q => by
    cases d' <;> simp [plD, pd] at h e <;> first | rfl | (subst e; simp [PyData.eqv] at q) | (obtain ⟨_, _, rfl⟩ := e; simp [PyData.eqv] at q)⟩
  | n, .int i, _ => ⟨.int i, rfl, rfl, by simp [PyData.depth], fun {m d' y} h e q => by
    cases d' <;> simp [plD, pd] at h e <;> first | (subst e; simp [PyData.eqv] at q; done) | (subst e; simp [PyData.eqv] at q; rw [q]) | (obtain ⟨_, _, rfl⟩ := e; simp [PyData.eqv] at q)⟩
  | n, .str s, h => ⟨.str s, rfl, by simpa [PyData.canLay0] using h, by simp [PyData.depth], fun {m d' y} h e q => by
    cases d' <;> simp [plD, pd] at h e <;> first | (subst e; simp [PyData.eqv] at q; done) | (subst e; simp [PyData.eqv] at q; rw [q]) | (obtain ⟨_, _, rfl⟩ := e; simp [PyData.eqv] at q)⟩
  | n + 1, .tup ds, h => by
    obtain ⟨xs, e, c, k, u⟩ := plDs_pd (n := n) (ds := ds) (by simpa [plD] using h)
    refine ⟨.tuple xs, by simp [pd, e], by simpa [PyData.canLay0] using c, by simp only [PyData.depth]; omega, fun {m d' y} h e q => ?_⟩
    cases d' with
    | tup es =>
      match m, h with
      | m + 1, h =>
        simp [plD, pd] at h e
        obtain ⟨ys, e, rfl⟩ := e
        rw [u h e (by simpa [PyData.eqv] using q)]
    | lst es => simp [pd] at e; obtain ⟨_, _, rfl⟩ := e; simp [PyData.eqv] at q
    | _ => simp [pd] at e <;> first | (subst e; simp [PyData.eqv] at q; done) | simp [plD] at h
  | n + 1, .lst ds, h => by
    obtain ⟨xs, e, c, k, u⟩ := plDs_pd (n := n) (ds := ds) (by simpa [plD] using h)
    refine ⟨.list xs, by simp [pd, e], by simpa [PyData.canLay0] using c, by simp only [PyData.depth]; omega, fun {m d' y} h e q => ?_⟩
    cases d' with
    | lst es =>
      match m, h with
      | m + 1, h =>
        simp [plD, pd] at h e
        obtain ⟨ys, e, rfl⟩ := e
        rw [u h e (by simpa [PyData.eqv] using q)]
    | tup es => simp [pd] at e; obtain ⟨_, _, rfl⟩ := e; simp [PyData.eqv] at q
    | _ => simp [pd] at e <;> first | (subst e; simp [PyData.eqv] at q; done) | simp [plD] at h
theorem plDs_pd : ∀ {n : Nat} {ds : List D}, plDs n ds = true → ∃ xs, pdL ds = some xs ∧ PyData.canLayAll0 xs = true ∧ PyData.depthAll xs ≤ n ∧ ∀ {m : Nat} {ds' : List D} {ys : List PyData}, plDs m ds' = true → pdL ds' = some ys → PyData.eqvAll xs ys = true → ds = ds'
  | n, [], _ => ⟨[], rfl, rfl, by simp [PyData.depthAll], fun {m ds' ys} h e q => by
    cases ds' with
    | nil => rfl
    | cons d ds =>
      simp only [pdL] at e
      cases z : pd d with
      | none => rw [z] at e; cases e
      | some x =>
        rw [z] at e
        obtain ⟨_, _, rfl⟩ := Option.map_eq_some_iff.mp e
        simp [PyData.eqvAll] at q⟩
  | n, d :: ds, h => by
    simp only [plDs, Bool.and_eq_true] at h
    obtain ⟨x, e, c, k, u⟩ := plD_pd h.1
    obtain ⟨xs, e', c', k', u'⟩ := plDs_pd h.2
    refine ⟨x :: xs, by simp [pdL, e, e'], by simp [PyData.canLayAll0, c, c'], by simp only [PyData.depthAll]; omega, fun {m ds' ys} h e q => ?_⟩
    cases ds' with
    | nil => simp only [pdL, Option.some.injEq] at e; subst e; simp [PyData.eqvAll] at q
    | cons d' ds' =>
      simp only [plDs, Bool.and_eq_true] at h
      simp only [pdL] at e
      cases z : pd d' with
      | none => rw [z] at e; cases e
      | some y =>
        rw [z] at e
        obtain ⟨ys', z', rfl⟩ := Option.map_eq_some_iff.mp e
        simp only [PyData.eqvAll, Bool.and_eq_true] at q
        rw [u h.1 z q.1, u' h.2 z' q.2]
end
mutual
theorem eqv_refl : ∀ x : PyData, x.canLay0 = true → PyData.eqv x x = true
  | .none, _ => by simp [PyData.eqv]
  | .bool b, _ => by simp [PyData.eqv]
  | .int i, _ => by simp [PyData.eqv]
  | .str s, _ => by simp [PyData.eqv]
  | .tuple xs, h => by simp only [PyData.eqv]; exact eqvAll_refl xs (by simpa [PyData.canLay0] using h)
  | .list xs, h => by simp only [PyData.eqv]; exact eqvAll_refl xs (by simpa [PyData.canLay0] using h)
  | .dict _, h => by simp [PyData.canLay0] at h
theorem eqvAll_refl : ∀ xs : List PyData, PyData.canLayAll0 xs = true → PyData.eqvAll xs xs = true
  | [], _ => by simp [PyData.eqvAll]
  | x :: xs, h => by
    simp only [PyData.canLayAll0, Bool.and_eq_true] at h
    simp only [PyData.eqvAll, Bool.and_eq_true]
    exact ⟨eqv_refl x h.1, eqvAll_refl xs h.2⟩
end
open Classical in
theorem gEq_pl {n : Nat} (hn : n ≤ 64) {x y : D} (hx : plD n x = true) (hy : plD n y = true) : ∃ a b, pd x = some a ∧ pd y = some b ∧ SeqAt.shaped a = true ∧ SeqAt.shaped b = true ∧ PyData.eqv a b = decide (x = y) := by
  obtain ⟨a, e, c, k, u⟩ := plD_pd hx
  obtain ⟨b, e', c', k', u'⟩ := plD_pd hy
  refine ⟨a, b, e, e', by simp only [SeqAt.shaped, c, Bool.true_and, decide_eq_true_eq]; omega, by simp only [SeqAt.shaped, c', Bool.true_and, decide_eq_true_eq]; omega, ?_⟩
  by_cases h : x = y
  · subst h
    rw [e] at e'; cases e'
    rw [eqv_refl a c]; simp
  · rw [decide_eq_false h]
    cases q : PyData.eqv a b with
    | false => rfl
    | true => exact absurd (u hy e' q) h
open Classical in
theorem empty2_pl {x y : D} {b : Bool} (hx : plD 40 x = true) (hy : plD 40 y = true) (h : empty2 x y = some b) : b = decide (x = y) := by
  unfold empty2 at h
  split at h
  · split at h
    · rename_i z
      cases h
      rw [decide_eq_decide]
      rcases z with rfl | rfl <;> simp [List.length_eq_zero_iff, eq_comm]
    · cases h
  · simp [plD] at hx
  · split at h
    · rename_i z
      cases h
      rw [decide_eq_decide]
      rcases z with rfl | rfl <;> simp [List.length_eq_zero_iff, eq_comm]
    · cases h
  · cases h
    rw [decide_eq_decide]; simp
  · cases h
open Classical in
theorem gEqU_pl {x y : D} (hx : plD 40 x = true) (hy : plD 40 y = true) (k) : gEqU x y k = k (.bl (decide (x = y))) := by
  unfold gEqU
  split
  · rename_i b h; rw [empty2_pl hx hy h]
  · obtain ⟨a, b, e, e', s, s', q⟩ := gEq_pl (by decide) hx hy
    rw [gEq_of e e' s s', q]
open Classical in
theorem gNeU_pl {x y : D} (hx : plD 40 x = true) (hy : plD 40 y = true) (k) : gNeU x y k = k (.bl (!decide (x = y))) := by
  unfold gNeU
  split
  · rename_i b h; rw [empty2_pl hx hy h]
  · obtain ⟨a, b, e, e', s, s', q⟩ := gEq_pl (by decide) hx hy
    rw [gNe_of e e' s s', q]
end DL

/-! DG25: raise C(), raise C(e); try: .. except C as e: v = e; e.f, isinstance of a caught exception -/
namespace L2
open PySem PySem.Spec PyProof.Rows
theorem pmk_own0 {X : Cx} {C : Addr} {bmB : List Value} {B newId initId : String} {x : Str} {p pos : Pos} (F : ExcBaseFacts B newId initId bmB) (q : PySem.W.excIn X.K C bmB newId = true) (gC : X.mg x = some (.ref C)) (kC : PySem.W.keepIn X.K (.ref C) = true) (r : Raises X (.ref C)) (hg : Gl X x)
    (hdb : (x == ("__debug__" : Str)) = false := by decide) :
    PMk X (.Call (.Name x p) [] [] pos) (fun σ H Q => Q (.ref C) none H) := by
  intro pins s σ H Q I h
  refine wpAny_Call_Name_kw (ld_glob I hg gC ?_ hdb)
  refine PySem.W.callWith_K0 I.kIn kC ?_
  obtain ⟨bm, N, nm, qn, bs, hdct, sn, sub, ab, col, dd, k0, k1, k2, k3, k5, mN, hC, hN, hni, T⟩ := exc_obj I.kIn q
  refine wpAny_call_exc_subT F T hC hN hni (fun h' e hm => ?_) (by show 0 ≤ sizeLine; exact Nat.zero_le _)
  exact mk_of I hm r h (I.hok.gone hm.new)
end L2
namespace DL
open PySem L2
/-- an own exception class over ValueError -/
structure XcC (K : PySem.W.Frag) (mg : Str → Option Value) (n : Str) (C : Addr) : Prop where
  ic : IsCl K n C
  mc : mg n = some (.ref C)
  kp : PySem.W.keepIn K (.ref C) = true
  sb : PySem.W.subIn K (.ref C) (.type "BaseException") = some true
  ty : PySem.W.typeIn K (.ref C) = some (.type "type")
/-- .. without an __init__ of its own -/
structure XcN (K : PySem.W.Frag) (mg : Str → Option Value) (n : Str) (C : Addr) : Prop where
  c : XcC K mg n C
  ex : PySem.W.excIn K C PySem.HandSPX.veTail "ValueError.__new__" = true
/-- .. with one field, that its __init__ sets -/
structure XcI (K : PySem.W.Frag) (mg : Str → Option Value) (n f : Str) (C : Addr) : Prop where
  c : XcC K mg n C
  ex : ∃ (fI : Addr) (fd : FuncData) (qual : Str) (st : Stmt) (p1 p2 p3 p4 : Pos), FunG K "__init__" qual st fI fd ∧ Binds K fd ["self", f] [] ∧ FnScope ["self", f] ["self", f] (defScope st) ∧
    defBody st = [.Assign [.Attribute (.Name "self" p1) f p2] (.Name f p3) p4] ∧ L2.OexC K C ∧ PySem.W.findIn K (.ref C) "__init__" = some (some (.ref fI)) ∧ PySem.W.typeIn K (.ref fI) = some (.type "function") ∧
    PySem.W.findIn K (.ref C) f = some none ∧ (f == ("__debug__" : Str)) = false ∧ (f == ("__classdict__" : Str)) = false
/-- what such an __init__ promises -/
def spXI (K : PySem.W.Frag) (f : Str) : Sp := fun vs H Q E => ∃ (a C : Addr) (y : V), vs = [.ref a, y] ∧ L2.OexC K C ∧ PySem.W.findIn K (.ref C) f = some none ∧ H a = some (L2.exo a C none) ∧
  ∀ dx, H dx = none → dx ≠ a → Q .non (upd (upd H dx (L2.exd dx [(f, y)])) a (L2.exo a C (some dx)))
theorem xinit_ok {P : Program} {w : World} {K : PySem.W.Frag} {mg : Str → Option Value} {base : Heap} {CX : CXT} {qual f : Str} {st : Stmt} {fI : Addr} {fd : FuncData} {p1 p2 p3 p4 : Pos} {k : Nat} (F : FunG K "__init__" qual st fI fd) (S : FnScope ["self", f] ["self", f] (defScope st))
    (hbody : defBody st = [.Assign [.Attribute (.Name "self" p1) f p2] (.Name f p3) p4]) (h1 : (f == ("__debug__" : Str)) = false) (h2 : (f == ("__classdict__" : Str)) = false) : FnOk P w K mg base CX (k + 1) fI fd ["self", f] (spXI K f) := by
  obtain ⟨oc, od, dV, kV, doc, pm, an, cdv, ct, osl, rfl, lk, hcd⟩ := F.ex
  refine fn_of lk hcd S (fun vs H Q E ⟨_, _, _, e, _⟩ => by rw [e]; rfl) fun A outer s H vs Q E hr hsp => ?_
  obtain ⟨a, C, y, rfl, T, hno, ha, q⟩ := hsp
  rw [hbody]
  have v0 : Vis (defScope st) "self" := by
    rcases S.par "self" (by simp) with h | h
    · exact .inl h
    · exact .inr (.inl h)
  have v1 : Vis (defScope st) f := by
    rcases S.par f (by simp) with h | h
    · exact .inl h
    · exact .inr (.inl h)
  refine ⟨_, pss_one (L2.ps_ost (pe_var (i := 0) (x := "self") rfl v0 (by decide) (by decide)) (pe_var (i := 1) (x := f) rfl v1 h1 h2) rfl), ?_⟩
  exact ⟨y, rfl, .ref a, rfl, a, C, rfl, T, hno, .inl ⟨ha, fun dx n ne => q dx n ne⟩⟩
def fRaise0 (n : Str) : FS := fun ρ S => S.ex ⟨n, []⟩ ρ
@[simp ↓] theorem fRaise0_ap (n : Str) (ρ : Env) (S : SPo) : fRaise0 n ρ S = S.ex ⟨n, []⟩ ρ := (rfl)
def fRaise1 (n f : Str) (F : FE) : FS := fun ρ S => F ρ (fun d ρ1 => S.ex ⟨n, [(f, d)]⟩ ρ1) S.ex
@[simp ↓] theorem fRaise1_ap (n f : Str) (F : FE) (ρ : Env) (S : SPo) : fRaise1 n f F ρ S = F ρ (fun d ρ1 => S.ex ⟨n, [(f, d)]⟩ ρ1) S.ex := (rfl)
section
variable {X : Cx} {Wx : WX} {P L I J J1 : List Nat} {e : Expr} {te : TE} {F : FE} {pos p pos' : Pos} {n f : Str} {C : Addr}
theorem ds_raise0 (hc : X.calm = true) (tk : Takes X Wx) (E : XcN X.K X.mg n C) (hg : Gl X n := by rfl) (hdb : (n == ("__debug__" : Str)) = false := by decide) (hP : ∀ j ∈ I, j ∉ P := by decide) :
    DS X Wx P L I (.Raise (some (.Call (.Name n p) [] [] pos)) none pos') (fRaise0 n) J := by
  refine ⟨_, ps_raise hc tk (pmk_own0 PySem.F.excBase_ValueError E.ex E.c.mc E.c.kp (raises_own E.c.sb E.c.ty) hg hdb), fun W ρ σ Hb H D S EE f q => ?_⟩
  obtain ⟨Hb2, E2, s2⟩ := EE.drop (J := []) (fun j q => by cases q) hP
  exact q.ex _ _ _ _ _ _ _ f E2 ⟨⟨C, E.c.ic, rfl⟩, .inl ⟨rfl, rfl⟩⟩
theorem ds_raise1 {k : Nat} (hc : X.calm = true) (tk : Takes X Wx) (E : XcI X.K X.mg n f C) (hr : Room (k + 2) X.A) (ha : DE X Wx P I e te F J1) (hg : Gl X n := by rfl) (hdb : (n == ("__debug__" : Str)) = false := by decide) (hP : ∀ j ∈ J1, j ∉ P := by decide)
    (he : starEach [e] X.env = (false, eval e X.env) :: starEach [] X.env := by rfl) :
    DS X Wx P L I (.Raise (some (.Call (.Name n p) [e] [] pos)) none pos') (fRaise1 n f F) J := by
  obtain ⟨fI, fd, qual, st, p1, p2, p3, p4, Fn, B, Sc, hb, T, iC, tI, hno, h1, h2⟩ := E.ex
  have F1 : FnOk X.prog X.w X.K X.mg X.base CX0 (k + 1) fI fd ["self", f] (spXI X.K f) := xinit_ok Fn Sc hb h1 h2
  refine ⟨_, ps_raise hc tk (L2.pmk_oex T iC tI F1 hr B .nil (fun _ _ _ _ _ _ _ h => h.elim) hg E.c.mc (pa_cons ha.pe pa_nil (hs := he)) hdb he (by rfl)), fun W ρ σ Hb H D S EE f0 q => ?_⟩
  refine ha.ev W ρ σ Hb H _ _ S.ex EE f0 (q.xok σ) fun d ρ1 v Hb1 H1 f1 E1 s1 i1 => ?_
  refine ⟨by simp, fun a na => ?_⟩
  refine ⟨a, C, v, rfl, T, hno, upd_same, fun dx nd ne => ?_⟩
  have nd1 : H1 dx = none := by rw [upd_ne ne] at nd; exact nd
  refine ⟨rfl, dx, [(f, v)], upd_same, by rw [upd_ne ne, upd_same], nd1, ?_⟩
  have eH : upd (L2.del (upd (upd (upd H1 a (L2.exo a C none)) dx (L2.exd dx [(f, v)])) a (L2.exo a C (some dx))) a) dx (.xd [(f, v)]) = upd H1 dx (.xd [(f, v)]) := by
    funext b
    by_cases h : b = dx
    · rw [h, upd_same, upd_same]
    · rw [upd_ne h, upd_ne h]
      by_cases h' : b = a
      · rw [h', L2.del_same, na]
      · rw [L2.del_ne h', upd_ne h', upd_ne h, upd_ne h']
  rw [eH]
  have nb : Hb1 dx = none := E1.sub.none nd1
  have E2 := E1.alloc (o := .xd [(f, v)]) nd1
  obtain ⟨Hb3, E3, s3⟩ := E2.drop (J := []) (fun j q => by cases q) hP
  refine q.ex _ _ _ _ _ _ _ f1 E3 ⟨⟨C, E.c.ic, rfl⟩, .inr ⟨dx, [(f, v)], rfl, s3.at upd_same, rfl, .cons (i1.mono ((Sub.new nb).trans s3)) .nil⟩⟩
end
end DL

/-! DG26: try: .. except C as e: v = e over data; what is asked of a caught exception -/
namespace DL
open PySem L2
/-- what is known of the classes that a clause may meet -/
def fTryKeep (ts : List (Str × Bool)) (i j : Nat) (B : FS) : FS := fun ρ S => B ρ { S with ex := fun e ρ1 => match ts.lookup e.C with
  | some true => S.nx (put (put ρ1 j (some (.xc e.C e.fs))) i none)
  | some false => S.ex e ρ1
  | none => False }
/-- how an exception ends in the clause -/
def kept (ts : List (Str × Bool)) (n : Str) (yes no : Prop) : Prop := match ts.lookup n with
  | some true => yes
  | some false => no
  | none => False
def SPo.kp (S : SPo) (ts : List (Str × Bool)) (i j : Nat) : SPo := { S with ex := fun e ρ1 => kept ts e.C (S.nx (put (put ρ1 j (some (.xc e.C e.fs))) i none)) (S.ex e ρ1) }
@[simp ↓] theorem kp_nx (S : SPo) (ts i j) : (S.kp ts i j).nx = S.nx := (rfl)
@[simp ↓] theorem kp_rt (S : SPo) (ts i j) : (S.kp ts i j).rt = S.rt := (rfl)
@[simp ↓] theorem kp_bk (S : SPo) (ts i j) : (S.kp ts i j).bk = S.bk := (rfl)
@[simp ↓] theorem kp_ct (S : SPo) (ts i j) : (S.kp ts i j).ct = S.ct := (rfl)
@[simp ↓] theorem kp_ex (S : SPo) (ts i j n fs ρ) : (S.kp ts i j).ex ⟨n, fs⟩ ρ = kept ts n (S.nx (put (put ρ j (some (.xc n fs))) i none)) (S.ex ⟨n, fs⟩ ρ) := (rfl)
@[simp ↓] theorem fTryKeep_ap (ts i j) (B : FS) (ρ : Env) (S : SPo) : fTryKeep ts i j B ρ S = B ρ (S.kp ts i j) := (rfl)
theorem kept_yes {ts : List (Str × Bool)} {n : Str} {a b : Prop} (h : ts.lookup n = some true) : kept ts n a b = a := by unfold kept; rw [h]
theorem kept_no {ts : List (Str × Bool)} {n : Str} {a b : Prop} (h : ts.lookup n = some false) : kept ts n a b = b := by unfold kept; rw [h]
theorem EnvOk.clear {K : PySem.W.Frag} {W : Wd} {P I : List Nat} {ρ : Env} {σ : St} {Hb H : Hp} {i : Nat} (E : EnvOk K W P I ρ σ Hb H) (hP : i ∉ P) (hI : i ∉ I) : EnvOk K W P I (put ρ i none) (σ.set i none) Hb H := by
  have := E.wiped (vs := [i]) (fun v hv => by rw [List.mem_singleton] at hv; subst hv; exact ⟨hP, hI⟩)
  simpa [wipe] using this
section
variable {K : PySem.W.Frag} {W : Wd} {P I I' : List Nat} {ρ ρ' : Env} {σ σ' : St} {Hb H Hb' H' : Hp}
/-- what is known now may be asked of all that comes -/
theorem EnvOk.reb (E : EnvOk K W P I ρ σ Hb H) : EnvOk K ⟨Hb, W.H, W.ps, W.rt⟩ P I ρ σ Hb H :=
  ⟨E.sub, ⟨Sub.refl _, fun a o h n => (E.stp.fr a o h n).imp id fun ⟨h1, h2, h3⟩ => ⟨fun z => by
    have z : Hb a = none := z
    cases q : W.Hb a with
    | none => exact h1 q
    | some u =>
      obtain ⟨u', e, _⟩ := E.stp.hb a u q
      rw [z] at e; (cases e), h2, h3⟩, fun a o h => .inl (fun z => by have z : Hb a = none := z; rw [h] at z; cases z), E.stp.al, E.stp.tp⟩, E.len, E.val, E.celF, E.sepF⟩
theorem EnvOk.unreb (E : EnvOk K W P I ρ σ Hb H) (E' : EnvOk K ⟨Hb, W.H, W.ps, W.rt⟩ P I' ρ' σ' Hb' H') : EnvOk K W P I' ρ' σ' Hb' H' :=
  ⟨E'.sub, ⟨E.stp.hb.trans E'.stp.hb, fun a o h n => (E'.stp.fr a o h n).imp id fun ⟨h1, h2, h3⟩ => ⟨fun z => by
    have h1 : Hb a ≠ none := h1
    cases q : Hb a with
    | none => exact h1 q
    | some u =>
      rcases E.stp.fs a u q with r | r | ⟨vs, r⟩
      · exact r z
      · rw [h] at r; cases r
      · rw [h] at r; cases r; (cases h2), h2, h3⟩, fun a o h => by
    rcases E'.stp.fs a o h with r | r | r
    · have r : Hb a ≠ none := r
      cases q : Hb a with
      | none => exact absurd q r
      | some u => exact E.stp.fs a u q
    · exact .inr (.inl r)
    · exact .inr (.inr r), E'.stp.al, E'.stp.tp⟩, E'.len, E'.val, E'.celF, E'.sepF⟩
end
section
variable {X : Cx} {Wx : WX} {P L I J J1 : List Nat} {e : Expr} {te : TE} {F : FE} {pos p pos' : Pos} {n f : Str} {C : Addr}
theorem ds_tryKeep {ts : List (Str × Bool)} {x v : Str} {c : Value} {body : List Stmt} {np p1 p2 p3 : Pos} {Fb : FS} (i j : Nat) (hs : X.stack = X.env :: X.outer) (hf : X.env.frame = some X.env.locals) (hex : X.ex = []) (hN : X.N.Nodup) (tk : Takes X Wx) (hc : Names X x c)
    (hts : ∀ m b, ts.lookup m = some b → ∀ C, IsCl X.K m C → PySem.W.exmOne X.K (.ref C) c = some b)
    (hb : ∀ (W : WX) (pn : List (Addr × Obj)) (xe : Value → Shared → Prop), Takes (X.tr pn xe) W → PassesOwn (model X.prog X.w) X.A X.env xe → DSs (X.tr pn xe) W P L I body Fb [])
    (hi : X.N[i]? = some n := by rfl) (hj : X.N[j]? = some v := by rfl) (hln : X.env.kindOf n = some .local := by rfl) (hvn : Vis X.env.scope n := by first | exact Or.inl rfl | exact Or.inr (Or.inl rfl) | exact Or.inr (Or.inr rfl)) (hlv : Loc X.env.scope v := by first | exact Or.inl rfl | exact Or.inr rfl)
    (hfv : X.fn v = true ∨ X.env.scope.names.lookup v = some .local := by first | exact Or.inr rfl | exact Or.inl rfl) (hij : i ≠ j := by decide)
    (hd1 : (n == ("__debug__" : Str)) = false := by decide) (hd2 : (n == ("__classdict__" : Str)) = false := by decide) (hsw : ∀ (A : Addr) (pn : List (Addr × Obj)), swapsWith (.Name n p2) (some (.Name v p1)) p3.line X.env = pure false := by intro _ _; rfl)
    (hiP : i ∉ P := by decide) (hjP : j ∉ P := by decide) :
    DS X Wx P L I (.Try body [.ExceptHandler (some (.Name x np)) (some n) [.Assign [.Name v p1] (.Name n p2) p3] pos'] [] [] pos) (fTryKeep ts i j Fb) [] := by
  classical
  let tb : WX → TS := fun W D σ H => ∀ pn xe (h1 : Takes (X.tr pn xe) W) (h2 : PassesOwn (model X.prog X.w) X.A X.env xe), Classical.choose (hb W pn xe h1 h2).run D σ H
  have ht : ∀ (W : WX) (pn : List (Addr × Obj)) (xe : Value → Shared → Prop), Takes (X.tr pn xe) W → PassesOwn (model X.prog X.w) X.A X.env xe → PSs (X.tr pn xe) body (tb W) := fun W pn xe h1 h2 =>
    ⟨fun pins s σ H D I q => (Classical.choose_spec (hb W pn xe h1 h2).run).1.run pins s σ H D I (q pn xe h1 h2)⟩
  refine ⟨_, ps_try_keep hs hf hex hN hi hj hln hvn hlv hfv hc tk hd1 hd2 hsw ht, fun W ρ σ Hb H D S E f q => ?_⟩
  intro pn xe h1 h2
  refine (Classical.choose_spec (hb _ pn xe h1 h2).run).2 _ ρ σ Hb H D (S.kp ts i j) E.reb f ⟨fun ρ' σ' Hb' H' a E' s' => q.nx _ _ _ _ a (E.unreb E') s', fun d ρ' σ' v Hb' H' a E' is => q.rt _ _ _ _ _ _ a (E.unreb E') is,
    fun ρ' σ' Hb' H' a E' s' => q.bk _ _ _ _ a (E.unreb E') s', fun ρ' σ' Hb' H' a E' s' => q.ct _ _ _ _ a (E.unreb E') s', fun c ρ' cls dx σ' Hb' H' a E' xi => ?_⟩
  have sub : Sub Hb Hb' := E'.stp.hb
  have E' : EnvOk X.K W P [] ρ' σ' Hb' H' := E.unreb E'
  obtain ⟨⟨C, ic, rfl⟩, xf⟩ := xi
  have a : kept ts c.C (S.nx (put (put ρ' j (some (.xc c.C c.fs))) i none)) (S.ex c ρ') := a
  unfold kept at a
  split at a
  · rename_i hl
    refine ⟨true, hts _ _ hl C ic, fun _ z nz => ?_, fun h => by cases h⟩
    have nb : Hb' z = none := E'.sub.none nz
    have E2 := E'.alloc (o := XcO (.ref C) dx z) nz
    have is : Is X.K (upd Hb' z (XcO (.ref C) dx z)) (.ref z) (.xc c.C c.fs) := by
      rcases xf with ⟨e1, rfl⟩ | ⟨d, vs, rfl, h2, h3, h4⟩
      · rw [e1]; exact .xc0 ic upd_same
      · have ne : d ≠ z := fun e => by rw [e, nb] at h2; cases h2
        exact .xcd ic upd_same (by rw [upd_ne ne]; exact h2) h3 (h4.mono (Sub.new nb))
    have E3 := (E2.set (i := j) is hjP (by simp)).clear (i := i) hiP (by simp)
    have es : ((σ'.set i (some (.ref z))).set j (some (.ref z))).set i none = (σ'.set j (some (.ref z))).set i none := by
      rw [List.set_comm _ _ hij, List.set_set]
    rw [es]
    exact q.nx _ _ _ _ a E3 (sub.trans (Sub.new nb))
  · rename_i hl
    exact ⟨false, hts _ _ hl C ic, (fun h => by cases h), fun _ => q.ex _ _ _ _ _ _ _ a E' ⟨⟨C, ic, rfl⟩, xf⟩⟩
  · exact a.elim
end
end DL

/-! DG27: e.f, isinstance of a caught exception; own exception classes as the top leaves them -/
namespace DL
open PySem L2
theorem xcO_inst {P : Program} {w : World} {H : Hp} {h : Heap} {a C : Addr} {dx : Option Addr} (hok : HOk P w H h) (ea : H a = some (XcO (.ref C) dx a)) (ed : ∀ d, dx = some d → ∃ fs, H d = some (.xd fs)) :
    ∃ oe od, PySem.W.InstAt h a oe C od ∧ ∀ d fs, dx = some d → H d = some (.xd fs) → ∃ mA, h.Ns1 d mA ∧ (∀ f, RelO (fs.lookup f) (mA f)) ∧ (∀ f, PySem.W.lookIn f (od.getD default) = some (mA f)) ∧ od.isSome := by
  obtain ⟨⟨oe, vs, ha, hz, hd⟩, _, _⟩ := (show ObjOk P w H h a (XcO (.ref C) dx a) from hok a _ ea)
  cases dx with
  | none =>
    exact ⟨oe, none, ⟨ha, hz.1, by unfold PySem.W.notCls; rw [hd] <;> rfl, by rw [hz.2]; trivial⟩, fun d fs e => by cases e⟩
  | some d =>
    obtain ⟨fs, e⟩ := ed d rfl
    have hx : ObjOk P w H h d (.xd fs) := hok d _ e
    obtain ⟨mA, hns, hr⟩ := hx
    obtain ⟨od, ho, hl⟩ := lookIn_ns hns
    refine ⟨oe, some od, ⟨ha, hz.1, by unfold PySem.W.notCls; rw [hd] <;> rfl, by rw [hz.2]; exact ho⟩, fun d' fs' e1 e2 => ?_⟩
    cases e1
    rw [e] at e2; cases e2
    exact ⟨mA, hns, hr, hl, rfl⟩
/-- the class D of a caught exception, as isinstance asks -/
structure XcQ (K : PySem.W.Frag) (D : Addr) : Prop where
  x : ExcC K D
def rIsX (K : PySem.W.Frag) : List V → Hp → VK → Prop := fun xs H Q => ∃ (a D cA : Addr) (dx : Option Addr) (b : Bool), xs = [.ref a, .ref cA] ∧ H a = some (XcO (.ref D) dx a) ∧ (∀ d, dx = some d → ∃ fs, H d = some (.xd fs)) ∧ ExcC K D ∧ PySem.W.kitOne K (.ref D) (.ref cA) = some b ∧ Q (.bl b) H
theorem call_isX {X : Cx} : CallR X (.builtin "isinstance") (rIsX X.K) := by
  intro pins s σ H xs us Q I r h
  obtain ⟨a, D, cA, dx, b, rfl, ea, ed, C, e, q⟩ := h
  obtain ⟨u1, u2, rfl, r1, r2⟩ := vals2 r
  cases (show u1 = Value.ref a from r1)
  cases (show u2 = Value.ref cA from r2)
  obtain ⟨oe, od, J, _⟩ := xcO_inst I.hok ea ed
  have hcl : (PySem.W.clsIn X.K D).isSome = true := by
    obtain ⟨cd, hc, _⟩ := PySem.W.any_some C.hd
    rw [hc]; rfl
  exact PySem.W.kia_one (PySem.W.kitx_exc hcl C.hg C.hk C.hs C.ha C.hn C.ht C.hm) I.kIn J e (fun z => nomatch z) fun tk => ⟨.bl b, H, I.tok tk, rfl, q⟩
/-- e.f -/
def tXcF (K : PySem.W.Frag) (f : Str) (te : TE) : TE := fun σ H Q => te σ H fun x H1 => ∃ (a C d : Addr) (fs : List (Str × V)) (v : V), x = .ref a ∧ H1 a = some (XcO (.ref C) (some d) a) ∧ XfC K C ∧ PySem.W.findIn K (.ref C) f = some none ∧ H1 d = some (.xd fs) ∧ fs.lookup f = some v ∧ Q v H1
theorem pe_xcf {X : Cx} {e : Expr} {te : TE} {f : Str} {pos : Pos} (he : PE X e te) (hb : attributeBase e f X.env (eval e X.env) = eval e X.env) : PE X (.Attribute e f pos) (tXcF X.K f te) := by
  refine ⟨fun pins s σ H Q I h => ?_⟩
  refine attr_of hb (thn (he.run pins s σ H _ I h) fun u s1 hh => ?_)
  obtain ⟨x, H1, I1, rx, a, C, d, fs, v, ex, ea, T, hno, ed, l, q⟩ := hh
  subst ex
  obtain rfl : u = Value.ref a := rx
  obtain ⟨oe, od, J, k⟩ := xcO_inst I1.hok ea (fun d' e' => by cases e'; exact ⟨fs, ed⟩)
  obtain ⟨mA, hns, hr, hl, hs⟩ := k d fs rfl ed
  obtain ⟨od', rfl⟩ := Option.isSome_iff_exists.mp hs
  obtain ⟨u, hu, ru⟩ := RelO.some_of (v := v) (o := mA f) (by rw [← l]; exact hr f)
  exact HandSPX.exc_get I1.kIn J T.ga T.gg T.exC (PySem.W.findObj_own T.hdC hno rfl (by have := hl f; simp only [Option.getD_some] at this; rw [this, hu])) (handed_of ru) ⟨v, H1, I1.tok _, ru, q⟩
def gXf (n f : Str) : G1
  | .xc m fs, k => m = n ∧ ∃ x, fs.lookup f = some x ∧ k x
  | _, _ => False
@[simp ↓] theorem gXf_xc (n f m : Str) (fs : List (Str × D)) (k) : gXf n f (.xc m fs) k = (m = n ∧ ∃ x, fs.lookup f = some x ∧ k x) := (rfl)
theorem gXf_one (n f : Str) (d : D) (k : D → Prop) : gXf n f (.xc n [(f, d)]) k = k d := propext ⟨fun ⟨_, x, e, h⟩ => by
  simp [List.lookup] at e; subst e; exact h, fun h => ⟨rfl, d, by simp [List.lookup], h⟩⟩
def fIsiX (ts : List (Str × Bool)) (F : FE) : FE := fun ρ post xp => F ρ (fun d ρ1 => ∃ m fs b, d = .xc m fs ∧ ts.lookup m = some b ∧ post (.bl b) ρ1) xp
@[simp ↓] theorem fIsiX_ap (ts) (F : FE) (ρ : Env) (post : Post) (xp : XP) : fIsiX ts F ρ post xp = F ρ (fun d ρ1 => ∃ m fs b, d = .xc m fs ∧ ts.lookup m = some b ∧ post (.bl b) ρ1) xp := (rfl)
section
variable {X : Cx} {Wx : WX} {P I J : List Nat} {e : Expr} {ta : TE} {F : FE} {pos p1 p2 : Pos} {n m y : Str} {C : Addr}
theorem is_xc {K : PySem.W.Frag} {Hb H : Hp} (s : Sub Hb H) {v : V} {n : Str} {fs : List (Str × D)} (i : Is K Hb v (.xc n fs)) : ∃ a C dx, v = .ref a ∧ IsCl K n C ∧ H a = some (XcO (.ref C) dx a) ∧ ((fs = [] ∧ dx = none) ∨ ∃ d vs, dx = some d ∧ H d = some (.xd vs) ∧ vs.map (·.1) = fs.map (·.1) ∧ IsL K Hb (vs.map (·.2)) (fs.map (·.2))) := by
  cases i with
  | xc0 ic h => exact ⟨_, _, none, rfl, ic, s.at h, .inl ⟨rfl, rfl⟩⟩
  | xcd ic h g e l => exact ⟨_, _, some _, rfl, ic, s.at h, .inr ⟨_, _, rfl, s.at g, e, l⟩⟩
theorem de_xcf (n : Str) (hc : IsCl X.K n C) (T : XfC X.K C) (na : PySem.W.findIn X.K (.ref C) m = some none) (ha : DE X Wx P I e ta F J) (hb : attributeBase e m X.env (eval e X.env) = eval e X.env := by rfl) : DE X Wx P I (.Attribute e m pos) (tXcF X.K m ta) (fUn (gXf n m) F) J := by
  obtain ⟨pa, ka⟩ := ha
  refine de_of (pe_xcf pa hb) fun W ρ σ Hb H Q post xp E f x q => ka W ρ σ Hb H _ _ xp E f x fun d ρ1 v Hb1 H1 f1 E1 s1 i1 => ?_
  cases d <;> first | exact f1.elim | skip
  obtain ⟨e0, d, hd, f1⟩ := f1
  subst e0
  obtain ⟨a, C', dx, rfl, hc', hh, r⟩ := is_xc E1.sub i1
  obtain rfl := hc.eq hc'
  rcases r with ⟨e1, _⟩ | ⟨dd, vs, rfl, h2, h3, h4⟩
  · rw [e1] at hd; simp at hd
  · obtain ⟨w, hw, iw⟩ := look_is h3 h4 hd
    exact ⟨a, C, dd, vs, w, rfl, hh, T, na, h2, hw, q _ _ _ _ _ f1 E1 s1 iw⟩
theorem de_isiX {ts : List (Str × Bool)} (hm : X.mg y = some (.ref C)) (hmi : X.mg "isinstance" = none) (hts : ∀ m b, ts.lookup m = some b → ∀ D, IsCl X.K m D → ExcC X.K D ∧ PySem.W.kitOne X.K (.ref D) (.ref C) = some b) (ha : DE X Wx P I e ta F J) (hg : Gl X "isinstance" := by rfl) (hgc : Gl X y := by rfl) (hdc : (y == ("__debug__" : Str)) = false := by decide)
    (he : starEach [e, .Name y p2] X.env = (false, eval e X.env) :: starEach [.Name y p2] X.env := by rfl) (hpl : (backTo pos (starEach [.Name y p2] X.env)).any (·.1) = false := by rfl) :
    DE X Wx P I (.Call (.Name "isinstance" p1) [e, .Name y p2] [] pos) (tCB (rIsX X.K) (tCons ta (tCons (tC (.ref C)) tNil))) (fIsiX ts F) J := by
  refine de_of (pe_callB (id := "isinstance") call_isX hg hmi rfl (pa_cons ha.pe (hs := he) (pa_cons (pe_glob hgc hm rfl hdc) pa_nil)) (he := he) (hpl := hpl)) fun W ρ σ Hb H Q post xp E f x q => ha.ev W ρ σ Hb H _ _ xp E f x fun d ρ1 v Hb1 H1 f1 E1 s1 i1 => ?_
  obtain ⟨m, fs, b, rfl, hb, f1⟩ := f1
  obtain ⟨a, D, dx, rfl, hc', hh, r⟩ := is_xc E1.sub i1
  obtain ⟨h1, h2⟩ := hts m b hb D hc'
  exact ⟨a, D, C, dx, b, rfl, hh, fun d ed => by
    rcases r with ⟨_, e2⟩ | ⟨dd, vs, e2, h3, _, _⟩
    · rw [e2] at ed; cases ed
    · rw [e2] at ed; cases ed; exact ⟨vs, h3⟩, h1, h2, q _ _ _ _ _ f1 E1 s1 (.bl b)⟩
end
end DL

/-! DG28: xs[::-1] of a list; isinstance of a caught exception: built-in classes, tuples of classes; classes by a table -/
namespace DL
open PySem L2
open PyProof.Rows (tail_any Subscript_)
def tBack (K : PySem.W.Frag) (te : TE) (ts : TO) : TE := fun σ H Q => te σ H fun x H1 => ts σ H1 fun o H2 => o = some (-1) ∧ ∃ a xs, x = .ref a ∧ SqL K H2 a xs ∧ ∀ p, H2 p = none → Q (.ref p) (upd H2 p (.lst xs.reverse))
theorem pe_back {X : Cx} {e : Expr} {st : Option Expr} {te : TE} {ts : TO} {pos p2 : Pos} (he : PE X e te) (hst : PO X st ts) (hsub : ∀ o i : Value, subscripted (.Slice none none st p2) false o i = operate [o, i] (getItem o i)) : PE X (.Subscript e (.Slice none none st p2) pos) (tBack X.K te ts) := by
  refine ⟨fun pins s σ H Q I h => Subscript_ (thn (he.run pins s σ H _ I h) fun v s1 ⟨x, H1, I1, rx, q1⟩ => ?_)⟩
  refine wpAny_Slice ?_
  rw [evalPart_none]
  refine wpAny_pure (wpAny_pure (thn (hst.run pins s1 σ H1 _ I1 q1) fun vs s3 ⟨o, H3, I3, po, eo, q3⟩ => ?_))
  obtain ⟨a, xs, rfl, hq, q⟩ := q3
  subst eo
  obtain rfl : v = Value.ref a := rx
  have J : Inv X pins σ H3 { s3 with heap := s3.heap.push { cls := .type "slice", data := .fields #[.none, .none, vs] } } :=
    I3.kept (t' := s3.toks) fun b ob hb => Heap.get?_push_of_some _ hb
  obtain ⟨its, r, ht, hz⟩ := J.list hq
  refine tail_any (ops := [.ref a, .ref s3.heap.objs.size]) ht.isList.typeIs slot_list_getitem.lookup ?_ (hsub _ _)
  refine wpAny_getItem_list_slice ht.isList (Heap.IsSliceOf.new ..) .none .none po (by decide) ?_ (by have := r.length; rw [List.size_toArray]; omega)
  rw [PySem.W.krv_pick]
  refine ⟨.ref _, _, J.laid (t' := s3.toks) (o := .lst xs.reverse) (fun b ob hb => Heap.get?_push_of_some _ hb) (Nat.le_refl _) ?_, rfl, q _ (J.hok.fresh (Nat.le_refl _))⟩
  exact ⟨by rw [List.length_reverse]; exact hz, _, 0, r.reverse, Heap.get?_push_size _ rfl⟩
/-- xs[::-1] -/
def fBack (F : FE) (A : FO) : FE := fun ρ post xp => F ρ (fun d ρ1 => A ρ1 (fun o ρ2 => o = some (-1) ∧ ∃ ds, lstD d = some ds ∧ post (.lst ds.reverse) ρ2) xp) xp
@[simp ↓] theorem fBack_ap (F : FE) (A : FO) (ρ : Env) (post : Post) (xp : XP) : fBack F A ρ post xp = F ρ (fun d ρ1 => A ρ1 (fun o ρ2 => o = some (-1) ∧ ∃ ds, lstD d = some ds ∧ post (.lst ds.reverse) ρ2) xp) xp := (rfl)
section
variable {X : Cx} {Wx : WX} {P I J J1 : List Nat} {e : Expr} {ta : TE} {F : FE} {A : FO} {pos p1 p2 : Pos} {n m y : Str} {C : Addr}
theorem de_back {st : Option Expr} {ts : TO} (ha : DE X Wx P I e ta F J1) (hb : DOp X Wx P J1 st ts A J) (hsub : ∀ o i : Value, subscripted (.Slice none none st p2) false o i = operate [o, i] (getItem o i) := by intro _ _; with_unfolding_all rfl) : DE X Wx P I (.Subscript e (.Slice none none st p2) pos) (tBack X.K ta ts) (fBack F A) J := by
  refine de_of (pe_back ha.pe hb.pe hsub) fun W ρ σ Hb H Q post xp E f x q => ha.ev W ρ σ Hb H _ _ xp E f x fun d ρ1 v Hb1 H1 f1 E1 s1 i1 => hb.ev W ρ1 σ Hb1 H1 _ _ xp E1 f1 x fun o ρ2 Hb2 H2 f2 E2 s2 => ?_
  obtain ⟨eo, ds, hd, f2⟩ := f2
  obtain ⟨p, us, rfl, h1, l1⟩ := o_lstD E2.sub (.inl (i1.mono s2)) hd
  exact ⟨eo, p, us, rfl, h1, fun r hr => q _ _ _ _ _ f2 (E2.alloc hr) ((s1.trans s2).trans (Sub.new (E2.sub.none hr))) (.lst upd_same ((l1.reverse).mono (Sub.new (E2.sub.none hr))))⟩
/-- isinstance(e, c), c any class -/
def rIsXU (K : PySem.W.Frag) : List V → Hp → VK → Prop := fun xs H Q => ∃ (a D : Addr) (c : V) (u : Value) (dx : Option Addr) (b : Bool), xs = [.ref a, c] ∧ ClsV c u ∧ H a = some (XcO (.ref D) dx a) ∧ (∀ d, dx = some d → ∃ fs, H d = some (.xd fs)) ∧ ExcC K D ∧ PySem.W.kitOne K (.ref D) u = some b ∧ Q (.bl b) H
theorem known_cls {K : PySem.W.Frag} {D : Addr} (C : ExcC K D) : (PySem.W.clsIn K D).isSome = true := by
  obtain ⟨cd, hc, _⟩ := PySem.W.any_some C.hd
  rw [hc]; rfl
theorem call_isXU {X : Cx} : CallR X (.builtin "isinstance") (rIsXU X.K) := by
  intro pins s σ H xs us Q I r ⟨a, D, c, u, dx, b, ex, k, ea, ed, C, e, q⟩
  subst ex
  obtain ⟨u1, u2, rfl, r1, r2⟩ := vals2 r
  cases (show u1 = Value.ref a from r1)
  cases k.eq r2
  obtain ⟨oe, od, J, _⟩ := xcO_inst I.hok ea ed
  exact PySem.W.kia_one (PySem.W.kitx_exc (known_cls C) C.hg C.hk C.hs C.ha C.hn C.ht C.hm) I.kIn J e (fun z => nomatch z) fun tk => ⟨.bl b, H, I.tok tk, rfl, q⟩
/-- isinstance(e, (c, ..)) -/
def rIsXT (K : PySem.W.Frag) : List V → Hp → VK → Prop := fun xs H Q => ∃ (a D tp : Addr) (cs : List V) (us : List Value) (dx : Option Addr) (b : Bool), xs = [.ref a, .ref tp] ∧ H tp = some (.tup cs) ∧ Paired ClsV cs us ∧ H a = some (XcO (.ref D) dx a) ∧ (∀ d, dx = some d → ∃ fs, H d = some (.xd fs)) ∧ ExcC K D ∧ PySem.W.kitAny K (.ref D) us = some b ∧ Q (.bl b) H
theorem call_isXT {X : Cx} : CallR X (.builtin "isinstance") (rIsXT X.K) := by
  intro pins s σ H xs us Q I r ⟨a, D, tp, cs, ws, dx, b, ex, hT, k, ea, ed, C, e, q⟩
  subst ex
  obtain ⟨u1, u2, rfl, r1, r2⟩ := vals2 r
  cases (show u1 = Value.ref a from r1)
  cases (show u2 = Value.ref tp from r2)
  obtain ⟨oe, od, J, _⟩ := xcO_inst I.hok ea ed
  obtain ⟨_, its, rv, o, h1, h2, n, h3⟩ := (show ObjOk X.prog X.w H s.heap tp (.tup cs) from I.hok tp _ hT)
  cases ClsV.all k rv
  obtain ⟨oc, od', dt, sl⟩ := o
  cases (show oc = _ from h2)
  cases (show dt = _ from h3)
  exact PySem.W.kia_tup (PySem.W.kitx_exc (known_cls C) C.hg C.hk C.hs C.ha C.hn C.ht C.hm) I.kIn J h1 e (fun z => nomatch z) fun tk => ⟨.bl b, H, I.tok tk, rfl, q⟩
/-- by a built-in class -/
theorem de_isiXB {ts : List (Str × Bool)} {N : String} (hm : X.mg y = none) (hv : bootBuiltins y = some (.type N)) (hmi : X.mg "isinstance" = none) (hts : ∀ m b, ts.lookup m = some b → ∀ D, IsCl X.K m D → ExcC X.K D ∧ PySem.W.kitOne X.K (.ref D) (.type N) = some b) (ha : DE X Wx P I e ta F J) (hg : Gl X "isinstance" := by rfl) (hgc : Gl X y := by rfl) (hnn : y ≠ "__name__" := by decide) (hdc : (y == ("__debug__" : Str)) = false := by decide)
    (he : starEach [e, .Name y p2] X.env = (false, eval e X.env) :: starEach [.Name y p2] X.env := by rfl) (hpl : (backTo pos (starEach [.Name y p2] X.env)).any (·.1) = false := by rfl) :
    DE X Wx P I (.Call (.Name "isinstance" p1) [e, .Name y p2] [] pos) (tCB (rIsXU X.K) (tCons ta (tCons (tC (.ty N)) tNil))) (fIsiX ts F) J := by
  refine de_of (pe_callB (id := "isinstance") call_isXU hg hmi rfl (pa_cons ha.pe (hs := he) (pa_cons (pe_bltn hgc hm hv (v := .ty N) rfl hnn hdc) pa_nil)) (he := he) (hpl := hpl)) fun W ρ σ Hb H Q post xp E f x q => ha.ev W ρ σ Hb H _ _ xp E f x fun d ρ1 v Hb1 H1 f1 E1 s1 i1 => ?_
  obtain ⟨m, fs, b, rfl, hb, f1⟩ := f1
  obtain ⟨a, D, dx, rfl, hc', hh, r⟩ := is_xc E1.sub i1
  obtain ⟨h1, h2⟩ := hts m b hb D hc'
  exact ⟨a, D, .ty N, .type N, dx, b, rfl, .ty N, hh, fun d ed => by
    rcases r with ⟨_, e2⟩ | ⟨dd, vs, e2, h3, _, _⟩
    · rw [e2] at ed; cases ed
    · rw [e2] at ed; cases ed; exact ⟨vs, h3⟩, h1, h2, q _ _ _ _ _ f1 E1 s1 (.bl b)⟩
/-- names of own classes -/
inductive ClNm (X : Cx) : List Expr → List Addr → Prop
  | nil : ClNm X [] []
  | cons {x : Str} {p : Pos} {C : Addr} {es : List Expr} {cs : List Addr} (hm : X.mg x = some (.ref C)) (hg : Gl X x) (hd : (x == ("__debug__" : Str)) = false) (r : ClNm X es cs) : ClNm X (.Name x p :: es) (C :: cs)
theorem ClNm.len {X : Cx} : ∀ {es : List Expr} {cs : List Addr}, ClNm X es cs → es.length = cs.length
  | _, _, .nil => rfl
  | _, _, .cons _ _ _ r => by simp [r.len]
def tCls2 : List Addr → TA
  | [] => tNil
  | C :: cs => tCons (tC (.ref C)) (tCls2 cs)
theorem pa_cls : ∀ {es : List Expr} {cs : List Addr}, ClNm X es cs → PA X es (tCls2 cs)
  | _, _, .nil => pa_nil
  | _, _, .cons hm hg hd r => pa_cons (pe_glob hg hm rfl hd) (pa_cls r)
theorem tCls2_ok : ∀ (cs : List Addr) (σ : St) (H : Hp) (Q : List V → Hp → Prop), Q (cs.map V.ref) H → tCls2 cs σ H Q
  | [], _, _, _, q => q
  | _ :: cs, σ, H, Q, q => tCls2_ok cs σ H _ q
theorem de_isiXT {ts : List (Str × Bool)} {es : List Expr} {cs : List Addr} {tpos : Pos} {kk : Nat} (hn : ClNm X es cs) (hmi : X.mg "isinstance" = none) (hts : ∀ m b, ts.lookup m = some b → ∀ D, IsCl X.K m D → ExcC X.K D ∧ PySem.W.kitAny X.K (.ref D) (cs.map Value.ref) = some b) (ha : DE X Wx P I e ta F J) (hl : es.length ≤ 1000 := by decide) (hg : Gl X "isinstance" := by rfl)
    (he : starEach [e, .Tuple es kk tpos] X.env = (false, eval e X.env) :: starEach [.Tuple es kk tpos] X.env := by rfl) (hpl : (backTo pos (starEach [.Tuple es kk tpos] X.env)).any (·.1) = false := by rfl)
    (hs : starEach [.Tuple es kk tpos] X.env = (false, eval (.Tuple es kk tpos) X.env) :: starEach [] X.env := by rfl) :
    DE X Wx P I (.Call (.Name "isinstance" p1) [e, .Tuple es kk tpos] [] pos) (tCB (rIsXT X.K) (tCons ta (tCons (tTup (tCls2 cs)) tNil))) (fIsiX ts F) J := by
  have pt : PE X (.Tuple es kk tpos) (tTup (tCls2 cs)) := pe_tup (pa_cls hn)
  refine de_of (pe_callB (id := "isinstance") call_isXT hg hmi rfl (pa_cons ha.pe (hs := he) (pa_cons pt pa_nil (hs := hs))) (he := he) (hpl := hpl)) fun W ρ σ Hb H Q post xp E f x q => ha.ev W ρ σ Hb H _ _ xp E f x fun d ρ1 v Hb1 H1 f1 E1 s1 i1 => ?_
  obtain ⟨m, fs, b, rfl, hb, f1⟩ := f1
  obtain ⟨a, D, dx, rfl, hc', hh, r⟩ := is_xc E1.sub i1
  obtain ⟨h1, h2⟩ := hts m b hb D hc'
  have cl : ∀ cs : List Addr, Paired ClsV (cs.map V.ref) (cs.map Value.ref) := fun cs => by
    induction cs with
    | nil => exact .nil
    | cons c cs ih => exact .cons (.own c) ih
  refine tCls2_ok cs σ H1 _ ⟨?_, fun p hp => ?_⟩
  · rw [List.length_map, ← hn.len]; exact Nat.le_trans hl (by decide)
  · have na : a ≠ p := fun z => by rw [z, hp] at hh; cases hh
    have hnb : Hb1 p = none := E1.sub.none hp
    exact ⟨a, D, p, cs.map V.ref, cs.map Value.ref, dx, b, rfl, upd_same, cl cs, by rw [upd_ne na]; exact hh, fun d ed => by
      rcases r with ⟨_, e2⟩ | ⟨dd, vs, e2, h3, _, _⟩
      · rw [e2] at ed; cases ed
      · rw [e2] at ed; cases ed
        exact ⟨vs, by rw [upd_ne (fun z => by rw [z, hp] at h3; cases h3)]; exact h3⟩, h1, h2, q _ _ _ _ _ f1 (E1.alloc hp) (s1.trans (Sub.new hnb)) (.bl b)⟩
end
/-! facts by a table of classes -/
theorem ts_nil {K : PySem.W.Frag} {Φ : Addr → Bool → Prop} : ∀ m b, ([] : List (Str × Bool)).lookup m = some b → ∀ D, IsCl K m D → Φ D b := fun m b h => by simp at h
theorem ts_cons {K : PySem.W.Frag} {Φ : Addr → Bool → Prop} {n : Str} {C : Addr} {b : Bool} {ts : List (Str × Bool)} (ic : IsCl K n C) (h : Φ C b) (r : ∀ m b, ts.lookup m = some b → ∀ D, IsCl K m D → Φ D b) : ∀ m b', ((n, b) :: ts).lookup m = some b' → ∀ D, IsCl K m D → Φ D b' := fun m b' e D ic' => by
  by_cases q : m = n
  · subst q
    simp [List.lookup] at e
    subst e
    rw [ic.eq ic'] at h; exact h
  · have : (m == n) = false := by simpa using q
    simp only [List.lookup, this] at e
    exact r m b' e D ic'
end DL

/-! DG29: o[y] by an own __getitem__; len(o) by an own __len__ -/
namespace DL
open PySem L2
open PyProof.Rows (Subscript_)
section
variable {X : Cx} {Wx : WX} {P I J J1 : List Nat} {a b e : Expr} {ta tb : TE} {Fa Fb : FE} {pos p1 p2 : Pos} {n y : Str} {C f : Addr} {k : Nat} {sp : Sp} {G : DFn}
def tIxOwn (C : Addr) (sp : Sp) (ta tb : TE) : TE := fun σ H Q => ta σ H fun x H1 => tb σ H1 fun y H2 => ∃ a dx fs, x = .ref a ∧ H2 a = some (.ins C dx fs) ∧ sp [.ref a, y] H2 Q fun _ _ _ => False
theorem pe_ixOwn (hs : PySem.W.findIn X.K (.ref C) "__getitem__" = some (some (.ref f))) (hf : PySem.W.fnIn X.K f = true) (hfn : PySem.W.isFn X.K (.ref f) = true) (F : FnG X.prog X.w X.K X.mg X.base k f sp) (hr : Room (k + 1) X.A) (hgu : X.A.guards = some [])
    (ha : PE X a ta) (hb : PE X b tb) (hsub : ∀ x i : Value, subscripted b true x i = runValue (.builtin "lifetime.subscript" ⟨[x, i], []⟩)) : PE X (.Subscript a b pos) (tIxOwn C sp ta tb) := by
  refine ⟨fun pins s σ H Q I h => Subscript_ (thn (ha.run pins s σ H _ I h) fun v s1 ⟨x, H1, I1, rx, q1⟩ => thn (hb.run pins s1 σ H1 _ I1 q1) fun i s2 ⟨y, H2, I2, ry, q2⟩ => ?_)⟩
  obtain ⟨a, dx, fs, rfl, hh, hsp⟩ := q2
  obtain rfl : v = Value.ref a := rx
  obtain ⟨mA, O, _⟩ := ins_get I2.hok hh
  obtain ⟨od, J, _⟩ := O.look
  obtain ⟨m, fr⟩ := I2.fr
  refine PySem.W.sub_K fr I2.ok.mod.kin J hs hf hfn (wpAny_call (codeAny_mono (F X.A.in1 X.stack s2 H2 [.ref a, i] [.ref a, y] Q (fun _ _ _ => False) hr.in1 hgu I2.env0.in1 (.cons rfl (.cons ry .nil)) hsp) fun res s3 q => ?_)) (hsub _ _)
  cases res with
  | error er => exact (cx_no q).elim
  | ok fl =>
    cases fl with
    | ret u => exact I2.after q
    | next => exact q.elim
    | brk => exact q.elim
    | cont => exact q.elim
def fIxOwn (n : Str) (G : DFn) (Fa Fb : FE) : FE := fun ρ post xp => Fa ρ (fun o ρ1 => Fb ρ1 (fun y ρ2 => isObj n o ∧ callD G [some o, some y] (fun z _ => post z ρ2) noX .mk) xp) xp
@[simp ↓] theorem fIxOwn_ap (n : Str) (G : DFn) (Fa Fb : FE) (ρ : Env) (post : Post) (xp : XP) : fIxOwn n G Fa Fb ρ post xp = Fa ρ (fun o ρ1 => Fb ρ1 (fun y ρ2 => isObj n o ∧ callD G [some o, some y] (fun z _ => post z ρ2) noX .mk) xp) xp := (rfl)
theorem de_ixOwn (hc : IsCl X.K n C) (hs : PySem.W.findIn X.K (.ref C) "__getitem__" = some (some (.ref f))) (hf : PySem.W.fnIn X.K f = true) (hfn : PySem.W.isFn X.K (.ref f) = true) (F : FnG X.prog X.w X.K X.mg X.base k f (spD X.K 2 [] G)) (hr : Room (k + 1) X.A) (hgu : X.A.guards = some [])
    (ha : DE X Wx P I a ta Fa J1) (hb : DE X Wx P J1 b tb Fb J) (hsub : ∀ x i : Value, subscripted b true x i = runValue (.builtin "lifetime.subscript" ⟨[x, i], []⟩) := by intro _ _; with_unfolding_all rfl) :
    DE X Wx P I (.Subscript a b pos) (tIxOwn C (spD X.K 2 [] G) ta tb) (fIxOwn n G Fa Fb) J := by
  refine de_of (pe_ixOwn hs hf hfn F hr hgu ha.pe hb.pe hsub) fun W ρ σ Hb H Q post xp E f x q => ha.ev W ρ σ Hb H _ _ xp E f x fun o ρ1 v Hb1 H1 f1 E1 s1 i1 => hb.ev W ρ1 σ Hb1 H1 _ _ xp E1 f1 x fun d ρ2 v2 Hb2 H2 f2 E2 s2 i2 => ?_
  obtain ⟨⟨fs, e⟩, f2⟩ := f2
  subst e
  have i1' := i1.mono s2
  obtain ⟨a, C', dx, vs, rfl, hc', hh, e1, l1⟩ := o_obj E2.sub (.inl i1')
  obtain rfl := hc.eq hc'
  have ar : Args X.K Hb2 σ [none, none] [V.ref a, v2] [some (.obj n fs), some d] := ⟨⟨_, rfl, i1'⟩, ⟨_, rfl, i2⟩, trivial⟩
  have hsl : ∀ j ∈ slots [none, none], j ∈ P ∨ j ∈ J := fun j h => by simp [slots] at h
  have hl : ∀ j ∈ slots [none, none], get ρ2 j ≠ none := fun j h => by simp [slots] at h
  refine ⟨a, dx, vs, rfl, hh, rfl, [some (.obj n fs), some d], Hb2, _, _, E2.lend ar hsl (by simp [slots]) hl, f2, fun z ρ' v Hb' H' p1 E4 is => ?_, fun c ρ' cls dx Hb' H' p1 => p1.elim⟩
  have E3 := E2.given ar hsl (by simp [slots]) hl E4 rfl
  have eu : unfill [none, none] ρ' ρ2 = ρ2 := by rcases ρ' with _ | ⟨_, _ | _⟩ <;> rfl
  rw [eu] at E3
  exact q _ _ _ _ _ p1 E3 ((s1.trans s2).trans E4.stp.hb) is
/-! len -/
def rLenOwn (C : Addr) (sp : Sp) : List V → Hp → VK → Prop := fun xs H Q => ∃ a dx fs, xs = [V.ref a] ∧ H a = some (.ins C dx fs) ∧ sp [.ref a] H (fun z H2 => ∃ m : Int, z = .int m ∧ (0 ≤ m ∧ m < 2 ^ 63) ∧ Q (.int m) H2) fun _ _ _ => False
theorem call_lenOwn (hs : PySem.W.findIn X.K (.ref C) "__len__" = some (some (.ref f))) (hfn : PySem.W.isFn X.K (.ref f) = true) (F : FnG X.prog X.w X.K X.mg X.base k f sp) (hr : Room (k + 1) X.A) (hgu : X.A.guards = some []) : CallR X (.builtin "len") (rLenOwn C sp) := by
  intro pins s σ H xs us Q I r ⟨a, dx, fs, ex, hh, hsp⟩
  subst ex
  obtain ⟨u, eu, ru⟩ := vals1 r
  subst eu
  cases (show u = Value.ref a from ru)
  obtain ⟨mA, O, _⟩ := ins_get I.hok hh
  obtain ⟨od, J, _⟩ := O.look
  obtain ⟨m, fr⟩ := I.fr
  refine PySem.W.len_K fr I.ok.mod.kin J hs hfn (wpAny_call (codeAny_mono (F X.A.in1 X.stack s H [.ref a] [.ref a] _ (fun _ _ _ => False) hr.in1 hgu I.env0.in1 (.cons rfl .nil) hsp) fun res s3 q => ?_))
  cases res with
  | error er => exact (cx_no q).elim
  | ok fl =>
    cases fl with
    | ret u =>
      obtain ⟨z, H3, I3, rz, m, ez, hm, q3⟩ := I.after q
      subst ez
      obtain ⟨t, rfl⟩ := (show ∃ t, u = Value.int m t from rz)
      exact ⟨hm, .int m, H3, I3.tok _, ⟨_, rfl⟩, q3⟩
    | next => exact q.elim
    | brk => exact q.elim
    | cont => exact q.elim
def fLenOwn (n : Str) (G : DFn) (Fa : FE) : FE := fun ρ post xp => Fa ρ (fun o ρ1 => isObj n o ∧ callD G [some o] (fun z _ => ∃ m : Int, z = .int m ∧ (0 ≤ m ∧ m < 2 ^ 63) ∧ post (.int m) ρ1) noX .mk) xp
@[simp ↓] theorem fLenOwn_ap (n : Str) (G : DFn) (Fa : FE) (ρ : Env) (post : Post) (xp : XP) : fLenOwn n G Fa ρ post xp = Fa ρ (fun o ρ1 => isObj n o ∧ callD G [some o] (fun z _ => ∃ m : Int, z = .int m ∧ (0 ≤ m ∧ m < 2 ^ 63) ∧ post (.int m) ρ1) noX .mk) xp := (rfl)
theorem de_lenOwn (hc : IsCl X.K n C) (hs : PySem.W.findIn X.K (.ref C) "__len__" = some (some (.ref f))) (hfn : PySem.W.isFn X.K (.ref f) = true) (F : FnG X.prog X.w X.K X.mg X.base k f (spD X.K 1 [] G)) (hr : Room (k + 1) X.A) (hgu : X.A.guards = some [])
    (hml : X.mg "len" = none) (ha : DE X Wx P I a ta Fa J) (hg : Gl X "len" := by rfl) (hs1 : starEach [a] X.env = (false, eval a X.env) :: starEach [] X.env := by rfl) :
    DE X Wx P I (.Call (.Name "len" p1) [a] [] pos) (tCB (rLenOwn C (spD X.K 1 [] G)) (tCons ta tNil)) (fLenOwn n G Fa) J := by
  refine de_of (pe_callB (id := "len") (call_lenOwn hs hfn F hr hgu) hg hml rfl (pa_cons ha.pe pa_nil (hs := hs1)) (he := hs1)) fun W ρ σ Hb H Q post xp E f x q => ha.ev W ρ σ Hb H _ _ xp E f x fun o ρ1 v Hb1 H1 f1 E1 s1 i1 => ?_
  obtain ⟨⟨fs, e⟩, f2⟩ := f1
  subst e
  obtain ⟨a, C', dx, vs, rfl, hc', hh, e1, l1⟩ := o_obj E1.sub (.inl i1)
  obtain rfl := hc.eq hc'
  have ar : Args X.K Hb1 σ [none] [V.ref a] [some (.obj n fs)] := ⟨⟨_, rfl, i1⟩, trivial⟩
  have hsl : ∀ j ∈ slots [none], j ∈ P ∨ j ∈ J := fun j h => by simp [slots] at h
  have hl : ∀ j ∈ slots [none], get ρ1 j ≠ none := fun j h => by simp [slots] at h
  refine ⟨a, dx, vs, rfl, hh, rfl, [some (.obj n fs)], Hb1, _, _, E1.lend ar hsl (by simp [slots]) hl, f2, fun z ρ' v Hb' H' p1 E4 is => ?_, fun c ρ' cls dx Hb' H' p1 => p1.elim⟩
  have E3 := E1.given ar hsl (by simp [slots]) hl E4 rfl
  have eu : unfill [none] ρ' ρ1 = ρ1 := by rcases ρ' with _ | ⟨_, _⟩ <;> rfl
  rw [eu] at E3
  obtain ⟨m, rfl, hm, p1⟩ := p1
  exact ⟨m, is_int is, hm, q _ _ _ _ _ p1 E3 (s1.trans E4.stp.hb) (.int m)⟩
end
end DL

/-! DG30: enumerate over a list or a tuple. -/
namespace DL
open PySem L2 RZ
open PyProof.Rows hiding St
/-- enumerate.__new__ with one value whose iterator begins as B tells -/
theorem enumNew1 {v : Value} {it0 : Obj} {Ok : Heap → Prop} (B : Begins v it0 Ok) :
    Meets (Builtin.«enumerate.__new__» ⟨[.type "enumerate", v], []⟩) (fun _ R sh => Ok sh.heap ∧
      R (.ok (.ret (.ref (sh.heap.push it0).objs.size))) { sh with heap := (sh.heap.push it0).push { cls := .type "enumerate", data := .fields #[.none, .bool false, .ref sh.heap.objs.size, rawInt 0, .none, .none] } }) :=
  .of_wp fun pr wd Ar R sh hh => by
    obtain ⟨h0, g0, d0, t0, o0⟩ := sh; obtain ⟨ok, rest⟩ := hh
    have hs := sub_enumerate
    have be : ∀ {A1 : Around} {E1 : Value → Shared → Prop} {Q1 : Value → Shared → Prop}, Q1 (.ref h0.objs.size) ⟨h0.push it0, g0, d0, t0, o0⟩ → wpAny (model pr wd) A1 (pyIter v) Q1 E1 ⟨h0, g0, d0, t0, o0⟩ :=
      fun q => B.iter pr wd _ _ ⟨h0, g0, d0, t0, o0⟩ _ ok q
    wp_walk using be
    refine wpAny_stack_any fun stk => wpAny_pure ?_
    split
    · rename_i cl _ _ _ _ _
      cases (cl == Value.type "enumerate") <;> (wp_walk using be; exact ⟨_, rfl, rest⟩)
    · wp_walk using be
      exact ⟨_, rfl, rest⟩
theorem enumCall1 {prog : Program} {w : World} {A : Around} {E : Value → Shared → Prop} {s : Shared} {v : Value} {it0 : Obj} {Ok : Heap → Prop} {Q : Value → Shared → Prop} (B : Begins v it0 Ok) (ok : Ok s.heap)
    (k : ∀ h', IsEnum h' (s.heap.objs.size + 1) s.heap.objs.size 0 .none → h'.get? s.heap.objs.size = some it0 → (∀ b ob, s.heap.get? b = some ob → h'.get? b = some ob) → Q (.ref (s.heap.objs.size + 1)) { s with heap := h' }) :
    wpAny (model prog w) A (call (.type "enumerate") [v]) Q E s := by
  refine callType_new F.called_enumerate (by decide) (F.typeCall_enumerate_1 _) (F.newCall_enumerate_1 _) (fun ob => F.args_object_init_2 ob _) F.entry_enumerate_new (enumNew1 B) ⟨ok, ?_⟩
  have sz : (s.heap.push it0).objs.size = s.heap.objs.size + 1 := Heap.size_push ..
  show _ ∧ _
  rw [sz]
  have en : IsEnum ((s.heap.push it0).push { cls := .type "enumerate", data := .fields #[.none, .bool false, .ref s.heap.objs.size, rawInt 0, .none, .none] }) (s.heap.objs.size + 1) s.heap.objs.size 0 .none := by
    have z := Heap.get?_push_size (s.heap.push it0) (o := { cls := .type "enumerate", data := .fields #[.none, .bool false, .ref s.heap.objs.size, rawInt 0, .none, .none] }) rfl
    rw [sz] at z; exact z
  exact ⟨⟨_, en, rfl⟩, k _ en (Heap.get?_push_of_some _ (Heap.get?_push_size _ B.free)) fun b ob x => Heap.get?_push_of_some _ (Heap.get?_push_of_some _ x)⟩
/-- the tuple at a, each item in a new pair -/
def IteT (K : PySem.W.Frag) (a : Addr) : It :=
  ⟨fun i H => ∃ (xs : List V) (x : V), SqT K H a xs ∧ xs[i]? = some x, fun i H v H' => ∃ T x, v = .ref T ∧ H T = none ∧ H' = upd H T (.tup [.int (i : Nat), x]) ∧ ∀ xs, SqT K H a xs → xs[i]? = some x, fun i H => ∃ xs : List V, SqT K H a xs ∧ xs.length = i⟩
theorem turn_enumT {P : Program} {w : World} {K : PySem.W.Frag} {elts : List Expr} {kk : Nat} {tpos : Pos} (a e it : Addr) :
    Turn P w K (.Tuple elts kk tpos) (IteT K a) [e, it] e (fun i h => (∃ old, IsEnum h e it ((i : Nat) : Int) old) ∧ h.IsTupleIter it a i ∧ e ≠ it ∧ a ≠ it ∧ a ≠ e) where
  mem := by simp
  obj := fun i h st b hb => by
    obtain ⟨⟨old, he⟩, ⟨o, ho, hc, hd⟩, _⟩ := st
    rcases (by simpa using hb : b = e ∨ b = it) with z | z
    · rw [z]; exact ⟨_, he, fun v q => nomatch q⟩
    · rw [z]; exact ⟨o, ho, fun v q => by rw [hd] at q; cases q⟩
  keep := fun i h h' st k => let ⟨⟨old, he⟩, hi, hne⟩ := st; ⟨⟨old, k e (by simp) _ he⟩, hi.at fun o q => k it (by simp) o q, hne⟩
  item := by
    intro X hP hw hK hc i pins s σ H E I hf st hg
    subst hP hw hK
    obtain ⟨⟨old, he⟩, hit, hne, hai, hae⟩ := st
    obtain ⟨xs, x, hq, hx⟩ := hg
    obtain ⟨its, rv, p, hz⟩ := I.tuple hq
    obtain ⟨u, hu, ru⟩ := rv.get hx
    have hel : e < s.heap.objs.size := Heap.lt_size he
    have hil : it < s.heap.objs.size := by obtain ⟨_, q, _⟩ := hit; exact Heap.lt_size q
    have hsz : i < its.toArray.size := by
      have := (List.getElem?_eq_some_iff.mp hu).1
      simpa using this
    refine wpAny_pyNext_enum_itemD (Draws.tuple (A := X.A.in1) (I.ok.hd hc) it a hai its.toArray) he ⟨hit, p⟩ hsz hne (by simp [hne, Ne.symm hae]) fun u' h' tk hP ho hst' hT hsz' hk => ?_
    have eu : u' = u := by simp at hP; rw [hP] at hu; exact Option.some.inj hu
    subst eu
    obtain ⟨hit', p'⟩ := hst'
    refine ⟨_, rfl, wpAny_letOwnedTupleGo_enum (s := { s with heap := h', toks := tk + 1 }) ho fun h'' he' sb => ?_⟩
    have hT2 : h''.get? s.heap.objs.size = some { cls := .type "tuple", data := .seq #[.int i tk, u'] } := (sb.2 _ (Nat.ne_of_gt hel)).trans hT
    have new : ObjOk X.prog X.w (upd H s.heap.objs.size (.tup [.int (i : Nat), x])) h'' s.heap.objs.size (.tup [.int (i : Nat), x]) :=
      ⟨by show 2 ≤ sizeLine; decide, [.int i tk, u'], .cons ⟨_, rfl⟩ (.cons ru .nil), ⟨_, hT2, rfl, _, rfl⟩⟩
    have I1 : Inv X pins σ (upd H s.heap.objs.size (.tup [.int (i : Nat), x])) { s with heap := h'', toks := tk + 1 } :=
      I.turnedNew (ch := [e, it]) (fun b ob hb q => (sb.2 b (fun z => hb (by simp [z]))).trans (hk b ob (fun z => hb (by simp [z])) (fun z => hb (by simp [z])) q)) hf (Nat.le_refl _) new
    refine ⟨.ref s.heap.objs.size, _, I1, rfl, ⟨_, x, rfl, I.hok.fresh (Nat.le_refl _), rfl, fun ys hy => by rw [I.tuple_inj hy hq]; exact hx⟩, ⟨⟨u', ?_⟩, hit'.at fun o q => (sb.2 it (Ne.symm hne)).trans q, hne, hai, hae⟩, fun b hb => ?_⟩
    · have e1 : ((i + 1 : Nat) : Int) = (i : Int) + 1 := by omega
      rw [e1]; exact he'
    · have hb' : b < s.heap.objs.size := by
        rcases (by simpa using hb : b = e ∨ b = it) with z | z
        · rw [z]; exact hel
        · rw [z]; exact hil
      rw [upd_ne (Nat.ne_of_lt hb')]
      exact (hf b hb).1
  done := by
    intro X hP hw hK hc i pins s σ H E I hf st hg
    subst hP hw hK
    obtain ⟨⟨old, he⟩, hit, hne, hai, hae⟩ := st
    obtain ⟨xs, hq, hx⟩ := hg
    obtain ⟨its, rv, p, hz⟩ := I.tuple hq
    obtain ⟨f0, f1, f2, f3, f4, f5⟩ := hf it (by simp)
    have hl : its.toArray.size = i := by rw [List.size_toArray, ← rv.length]; exact hx
    subst hl
    exact wpAny_pyNext_enum_endD (Draws.tuple (A := X.A.in1) (I.ok.hd hc) it a hai its.toArray) he ⟨hit, p⟩ fun h' eb => ⟨rfl, I.turned (t' := s.toks) (fun b o hb q => eb b o hb q) f0 f1 f3 f4 f5⟩
  self := fun A i s Q E st h => let ⟨⟨_, he⟩, _⟩ := st; wpAny_pyIter_enum he h
def iEnumA (K : PySem.W.Frag) (ta : TA) : TI := fun σ H R => ta σ H fun vs H1 => ∃ a xs, vs = [.ref a] ∧ ((SqL K H1 a xs ∧ R (Ite K a) H1) ∨ (SqT K H1 a xs ∧ R (IteT K a) H1))
theorem pi_enumA {X : Cx} {e : Expr} {ta : TA} {p pos tpos : Pos} {elts : List Expr} {kk : Nat} (hg : Gl X "enumerate") (hm : X.mg "enumerate" = none) (ha : PA X [e] ta) (hs : starEach [e] X.env = [(false, eval e X.env)] := by rfl) :
    PI X (.Tuple elts kk tpos) (.Call (.Name "enumerate" p) [e] [] pos) (iEnumA X.K ta) := by
  refine ⟨fun pins s σ H R I h => ?_⟩
  refine Call_ (ld_blt I hg hm boot_enumerate (PyProof.Rows.callWith_type1 (thn (ha.run pos pins s σ H _ I h) fun us s1 ⟨vs, H1, I1, r1, q1⟩ => ?_) hs rfl))
  obtain ⟨a, xs, ex, q⟩ := q1
  subst ex
  cases r1 with
  | cons r rr =>
    cases rr
    cases r
    have fr : ∀ b, b ∈ [s1.heap.objs.size + 1, s1.heap.objs.size] → FpOk X pins H1 b := fun b hb => by
      have hle : s1.heap.objs.size ≤ b := by
        rcases (by simpa using hb : b = s1.heap.objs.size + 1 ∨ b = s1.heap.objs.size) with z | z <;> omega
      exact I1.fpOk hle (I1.hok.fresh hle)
    rcases q with ⟨hq, q⟩ | ⟨hq, q⟩
    · obtain ⟨its, rv, p', hz⟩ := I1.list hq
      refine enumCall1 (begins_list a its.toArray) p'.isList fun h' en hi hk => wpAny_pyIter_enum en ?_
      have I2 : Inv X pins σ H1 { s1 with heap := h' } := I1.kept (t' := s1.toks) hk
      exact ⟨s1.heap.objs.size + 1, [s1.heap.objs.size + 1, s1.heap.objs.size], _, _, H1, rfl, I2, turn_enum a (s1.heap.objs.size + 1) s1.heap.objs.size, ⟨⟨.none, en⟩, ⟨_, hi, rfl, rfl⟩, Nat.succ_ne_self _⟩, fr, q⟩
    · obtain ⟨its, rv, p', hz⟩ := I1.tuple hq
      obtain ⟨oa, hoa, _⟩ := id p'
      have hla : a < s1.heap.objs.size := Heap.lt_size hoa
      refine enumCall1 (begins_tuple a its.toArray) p' fun h' en hi hk => wpAny_pyIter_enum en ?_
      have I2 : Inv X pins σ H1 { s1 with heap := h' } := I1.kept (t' := s1.toks) hk
      exact ⟨s1.heap.objs.size + 1, [s1.heap.objs.size + 1, s1.heap.objs.size], _, _, H1, rfl, I2, turn_enumT a (s1.heap.objs.size + 1) s1.heap.objs.size, ⟨⟨.none, en⟩, ⟨_, hi, rfl, rfl⟩, Nat.succ_ne_self _, Nat.ne_of_lt hla, Nat.ne_of_lt (Nat.lt_succ_of_lt hla)⟩, fr, q⟩
def enumD (ds : List D) : List D := (List.range ds.length).zipWith (fun (i : Nat) d => D.tup [.int (i : Int), d]) ds
theorem enumD_get {ds : List D} {i : Nat} {d : D} (h : (enumD ds)[i]? = some d) : ∃ x, ds[i]? = some x ∧ d = .tup [.int (i : Int), x] := by
  unfold enumD at h
  rw [List.getElem?_zipWith] at h
  cases e2 : ds[i]? with
  | none => rw [e2] at h; simp at h
  | some x =>
    have hl := (List.getElem?_eq_some_iff.mp e2).1
    rw [e2, List.getElem?_range hl] at h
    simp at h
    exact ⟨x, rfl, h.symm⟩
theorem enumD_len (ds : List D) : (enumD ds).length = ds.length := by unfold enumD; simp
theorem itd_enumL {K : PySem.W.Frag} {Hb : Hp} {a : Addr} {vs : List V} {ds : List D} (h : SqL K Hb a vs) (l : IsL K Hb vs ds) : ItD K (Ite K a) Hb (enumD ds) := fun i H1 Hb1 s1 s2 => by
  have h1 := (s1.trans s2).sqL h
  refine ⟨fun d hd => ?_, fun e => ⟨vs, h1, by rw [l.length]; rw [enumD_len] at e; omega⟩⟩
  obtain ⟨x, e1, rfl⟩ := enumD_get hd
  obtain ⟨v, hv, iv⟩ := l.get e1
  refine ⟨⟨vs, v, h1, hv⟩, fun z H2 ⟨T, u1, ez, hT, eH, q1⟩ => ?_⟩
  subst ez eH
  have ex := q1 vs h1
  rw [hv] at ex; cases ex
  have nb : Hb1 T = none := s2.none hT
  exact ⟨_, .one hT, .tup upd_same (.cons (.int _) (.cons ((iv.mono s1).mono (Sub.new nb)) .nil))⟩
theorem itd_enumT {K : PySem.W.Frag} {Hb : Hp} {a : Addr} {vs : List V} {ds : List D} (h : SqT K Hb a vs) (l : IsL K Hb vs ds) : ItD K (IteT K a) Hb (enumD ds) := fun i H1 Hb1 s1 s2 => by
  have h1 := (s1.trans s2).sqT h
  refine ⟨fun d hd => ?_, fun e => ⟨vs, h1, by rw [l.length]; rw [enumD_len] at e; omega⟩⟩
  obtain ⟨x, e1, rfl⟩ := enumD_get hd
  obtain ⟨v, hv, iv⟩ := l.get e1
  refine ⟨⟨vs, v, h1, hv⟩, fun z H2 ⟨T, u1, ez, hT, eH, q1⟩ => ?_⟩
  subst ez eH
  have ex := q1 vs h1
  rw [hv] at ex; cases ex
  have nb : Hb1 T = none := s2.none hT
  exact ⟨_, .one hT, .tup upd_same (.cons (.int _) (.cons ((iv.mono s1).mono (Sub.new nb)) .nil))⟩
/-- enumerate of a list or a tuple -/
def fEnum (A : FA) : FA := fun ρ post xp => A ρ (fun ds ρ1 => match ds with
  | [.lst a] => post (enumD a) ρ1
  | [.tup a] => post (enumD a) ρ1
  | _ => False) xp
@[simp ↓] theorem fEnum_ap (A : FA) (ρ : Env) (post : List D → Env → Prop) (xp : XP) : fEnum A ρ post xp = (A ρ (fun ds ρ1 => match ds with
  | [.lst a] => post (enumD a) ρ1
  | [.tup a] => post (enumD a) ρ1
  | _ => False) xp) := (rfl)
section
variable {X : Cx} {Wx : WX} {P L I J : List Nat} {e : Expr} {elts : List Expr} {A : FA} {pos p tpos : Pos} {kk : Nat} {tA : TA}
theorem di_enum (hm : X.mg "enumerate" = none) (ha : DA X Wx P I [e] tA A J) (hg : Gl X "enumerate" := by rfl)
    (hs : starEach [e] X.env = [(false, eval e X.env)] := by rfl) :
    DI X Wx P I (.Tuple elts kk tpos) (.Call (.Name "enumerate" p) [e] [] pos) (iEnumA X.K tA) (fEnum A) J := by
  obtain ⟨pa, k⟩ := ha
  refine ⟨pi_enumA hg hm pa hs, fun W ρ σ Hb H R post xp E f x q => k W ρ σ Hb H _ _ xp E f x fun ds ρ1 vs Hb1 H1 f1 E1 s1 i1 => ?_⟩
  match ds, i1, f1 with
  | [.lst a], .cons i .nil, f1 =>
    obtain ⟨a', us, rfl, h, l⟩ := is_lstD i rfl
    exact ⟨a', us, rfl, .inl ⟨E1.sub.sqL h, q _ _ _ _ _ f1 E1 s1 (itd_enumL h l)⟩⟩
  | [.tup a], .cons i .nil, f1 =>
    obtain ⟨a', us, rfl, h, l⟩ := is_tupD i rfl
    exact ⟨a', us, rfl, .inr ⟨E1.sub.sqT h, q _ _ _ _ _ f1 E1 s1 (itd_enumT h l)⟩⟩
end
end DL

/-! DG31: calls by keywords, all parameters named, the last first. -/
namespace DL
open PySem L2
open PyProof.Rows hiding St
/-- a def's promise where m values stand ahead and the keywords ks name the others, the last parameter first -/
def FnKw (P : Program) (w : World) (K : PySem.W.Frag) (mg : Str → Option Value) (base : Heap) (k : Nat) (f : Addr) (m : Nat) (ks : List Str) (sp : Sp) : Prop :=
  ∀ (A : Around) (frs_ : List PySem.Env) (s : Shared) (H : Hp) (us0 us : List Value) (vs0 vs : List V) (Q : VK) (E : XK), Room k A → A.guards = some [] → Env0 P w K mg base A frs_ s H → Vals vs0 us0 → Vals vs us → us0.length = m → us.length = ks.length → sp (vs0 ++ vs.reverse) H Q E →
    codeAny (model P w) A (.call (.ref f) ⟨us0, ks.zip us⟩) (CR (L2.CX P w) frs_ P w H s Q E) s
theorem vals_snoc {v : V} {u : Value} (r : RelV v u) : ∀ {vs : List V} {us : List Value}, Vals vs us → Vals (vs ++ [v]) (us ++ [u])
  | [], _, .nil => .cons r .nil
  | _ :: _, _, .cons a b => .cons a (vals_snoc r b)
theorem vals_rev : ∀ {vs : List V} {us : List Value}, Vals vs us → Vals vs.reverse us.reverse
  | [], _, .nil => .nil
  | _ :: _, _, .cons a b => by
    rw [List.reverse_cons, List.reverse_cons]
    exact vals_snoc a (vals_rev b)
theorem vals_app : ∀ {vs ws : List V} {us zs : List Value}, Vals vs us → Vals ws zs → Vals (vs ++ ws) (us ++ zs)
  | [], _, _, _, .nil, h => h
  | _ :: _, _, _, _, .cons a b, h => .cons a (vals_app b h)
section
variable {P : Program} {w : World} {K : PySem.W.Frag} {mg : Str → Option Value} {base : Heap} {j k : Nat} {f : Addr} {sp sp' : Sp} {m : Nat} {ks : List Str}
theorem FnKw.mono (F : FnKw P w K mg base j f m ks sp) (h : j ≤ k) : FnKw P w K mg base k f m ks sp := fun A o s H us0 us vs0 vs Q E r => F A o s H us0 us vs0 vs Q E (r.mono h)
theorem fnKw_of {x qual : Str} {st : Stmt} {fd : FuncData} {N ps : List Str} (F : FunG K x qual st f fd) (S : FnScope N ps (defScope st))
    (B : ∀ us0 us : List Value, us0.length = m → us.length = ks.length → bindArgs fd ⟨us0, ks.zip us⟩ = pure (ps.zip (us0 ++ us.reverse))) (len : ∀ vs H Q E, sp vs H Q E → vs.length = ps.length)
    (body : ∀ (cdv : Value) (A : Around) (o : List PySem.Env) (s : Shared) (H : Hp) (vs : List V) (Q : VK) (E : XK), Room k (A.deeper (envOfC qual (defScope st) s.heap.objs.size f cdv)) → A.guards = some [] → sp vs H Q E →
      ∃ t, PSs (cxOf (L2.CX P w) P w K mg base N qual (defScope st) f cdv A o s H E) (defBody st) t ∧ t { nx := fun _ H' => Q .non H', rt := Q } (L2.start N vs) H) : FnKw P w K mg base (k + 1) f m ks sp := by
  intro A o s H us0 us vs0 vs Q E room hg ev rel0 rel1 l0 l1 hsp
  have nlen := len _ _ _ _ hsp
  have rel : Vals (vs0 ++ vs.reverse) (us0 ++ us.reverse) := vals_app rel0 (vals_rev rel1)
  have here : K.In s.heap := ev.mod.kin.keeps fun b u e => (ev.bs b u e).1
  have nolim : s.heap.NoLimit := ev.mod.nolimit.keeps fun b u e => (ev.bs b u e).1
  have bnd : BindsTo s fd ⟨us0, ks.zip us⟩ (ps.zip (us0 ++ us.reverse)) := .of_eq (B us0 us l0 l1)
  obtain ⟨oc, od, dV, kV, doc, pm, an, cdv, ct, osl, rfl, lk, hcd⟩ := F.ex
  have kinds : ∀ y ∈ ps.zip (us0 ++ us.reverse), (defScope st).names.lookup y.1 = some .local ∨ ((defScope st).names.lookup y.1 = some .cell ∧ ((cellsFrom (s.heap.objs.size + 1) (defScope st).names []).lookup y.1).isSome = true) := by
    rintro ⟨n, v⟩ hy
    refine (S.par n (List.of_mem_zip hy).1).imp id fun q => ⟨q, PySem.W.cellsFrom_some _ _ _ (.inl q)⟩
  refine codeAny_call_function room.depth (here _ _ lk) rfl S.co S.gen rfl (PySem.W.codeRec_of here hcd) (bnd _ _ _ _ ?_)
  refine wpAny_newFunctionEnv_cells S.kind kinds fun env same s1 laid => ?_
  subst same
  refine ⟨nolim.keeps laid.toInCall.keep, codeAny_func ?_⟩
  obtain ⟨t, pt, ht⟩ := body cdv A o s H _ Q E (room.deeper _) hg hsp
  refine wpAny_mono (pt.run [] s1 (L2.start N (vs0 ++ vs.reverse)) H _ (inv_start S room.hd ev nlen rel laid) ht) (fun fl s2 q => ?_) fun _ _ q => q
  cases fl with
  | next =>
    obtain ⟨σ2, H2, J, q⟩ := q
    exact ⟨.non, H2, J.os, J.bare, J.base, J.hok, rfl, q⟩
  | ret u =>
    obtain ⟨v, σ2, H2, J, rv, q⟩ := q
    exact ⟨v, H2, J.os, J.bare, J.base, J.hok, rv, q⟩
  | brk =>
    obtain ⟨_, _, _, q⟩ := q
    exact (show False from q).elim
  | cont =>
    obtain ⟨_, _, _, q⟩ := q
    exact (show False from q).elim
theorem okKw_of {x qual : Str} {st : Stmt} {fd : FuncData} {N ps : List Str} {n : Nat} {io : List Nat} {J : List Nat} {G : DFn} {Fd : FS} (F : FunG K x qual st f fd)
    (B : ∀ us0 us : List Value, us0.length = m → us.length = ks.length → bindArgs fd ⟨us0, ks.zip us⟩ = pure (ps.zip (us0 ++ us.reverse))) (S : FnScope N ps (defScope st)) (hn : ps.length = n)
    (hb : ∀ (cdv : Value) (A : Around) (outer : List PySem.Env) (s : Shared) (H : Hp) (E : XK), Room k (A.deeper (envOfC qual (defScope st) s.heap.objs.size f cdv)) → A.guards = some [] →
      DSs (cxOf (L2.CX P w) P w K mg base N qual (defScope st) f cdv A outer s H E) (WofE E) io [] [] (defBody st) Fd J)
    (hg : ∀ (ρ : DL.Env) (post : Post) (xp : XP), ρ.length = n → G ρ post xp → Fd (ρ ++ List.replicate (N.length - n) none) (endS io n post xp)) : FnKw P w K mg base (k + 1) f m ks (spD K n io G) := by
  refine fnKw_of F S B (fun vs H Q E h => h.1.trans hn.symm) fun cdv A outer s H vs Q E hr gu h => ?_
  obtain ⟨hl, ρ, Hb, post, xp, E0, g, q1, q2⟩ := h
  obtain ⟨t, pt, kt⟩ := (hb cdv A outer s H E hr gu).run
  refine ⟨t, pt, ?_⟩
  have hρ : ρ.length = n := by rw [← E0.len, List.length_map, hl]
  have e1 : L2.start N vs = vs.map some ++ List.replicate (N.length - n) none := by unfold L2.start; rw [hl]
  rw [e1]
  refine kt ⟨Hb, H, lentAt io vs ρ H, rootAt io vs⟩ _ _ Hb H _ _ E0.entry (hg ρ post xp hρ g) ⟨fun ρ' σ' Hb' H' a E' s' => ?_, fun d ρ' σ' v Hb' H' a E' is => ?_, fun _ _ _ _ a => a.elim, fun _ _ _ _ a => a.elim, fun c ρ' cls dx σ' Hb' H' a E' xi => ?_⟩
  · exact q1 _ _ _ _ _ a (E'.masked hl) .non
  · exact q1 _ _ _ _ _ a (E'.masked hl) is
  · exact q2 _ _ _ _ _ _ a (E'.masked hl) xi
end
/-! ### the call -/
structure DK (X : Cx) (Wx : WX) (P I : List Nat) (kws : List Keyword) (t : TA) (F : Env → (Env → Env → Prop) → XP → Prop) (n : Nat) (J : List Nat) : Prop where
  pe : PK X kws t
  ev : ∀ (W : Wd) (ρ : Env) (σ : St) (Hb H : Hp) (Q : List V → Hp → Prop) (post : Env → Env → Prop) (xp : XP), EnvOk X.K W P I ρ σ Hb H → F ρ post xp → XOk X Wx W P σ xp →
    (∀ ds ρ' vs Hb' H', post ds ρ' → EnvOk X.K W P J ρ' σ Hb' H' → Sub Hb Hb' → Args X.K Hb' σ (List.replicate n none) vs ds → Q vs H') → t σ H Q
/-- the data in the parameters' order -/
def oRev (A : Env → (Env → Env → Prop) → XP → Prop) : Env → (Env → Env → Prop) → XP → Prop := fun ρ post xp => A ρ (fun ds ρ1 => post ds.reverse ρ1) xp
@[simp ↓] theorem oRev_ap (A : Env → (Env → Env → Prop) → XP → Prop) (ρ : Env) (post : Env → Env → Prop) (xp : XP) : oRev A ρ post xp = (A ρ (fun ds ρ1 => post ds.reverse ρ1) xp) := (rfl)
theorem args_snoc {K : PySem.W.Frag} {Hb : Hp} {σ : St} {v : V} {d : D} (i : Is K Hb v d) : ∀ {n : Nat} {vs : List V} {ds : Env}, Args K Hb σ (List.replicate n none) vs ds → Args K Hb σ (List.replicate (n + 1) none) (vs ++ [v]) (ds ++ [some d])
  | 0, [], [], _ => ⟨⟨_, rfl, i⟩, trivial⟩
  | 0, _ :: _, [], h => h.elim
  | 0, [], _ :: _, h => h.elim
  | 0, _ :: _, _ :: _, h => h.elim
  | n + 1, [], _, h => (show False from h).elim
  | n + 1, _ :: _, [], h => (show False from h).elim
  | n + 1, v' :: vs, d' :: ds, h => by
    have h : Args K Hb σ (none :: List.replicate n none) (v' :: vs) (d' :: ds) := h
    exact ⟨h.1, args_snoc i h.2⟩
theorem args_rev {K : PySem.W.Frag} {Hb : Hp} {σ : St} : ∀ {n : Nat} {vs : List V} {ds : Env}, Args K Hb σ (List.replicate n none) vs ds → Args K Hb σ (List.replicate n none) vs.reverse ds.reverse
  | 0, [], [], _ => trivial
  | 0, _ :: _, [], h => h.elim
  | 0, [], _ :: _, h => h.elim
  | 0, _ :: _, _ :: _, h => h.elim
  | n + 1, [], _, h => (show False from h).elim
  | n + 1, _ :: _, [], h => (show False from h).elim
  | n + 1, v' :: vs, d' :: ds, h => by
    have h : Args K Hb σ (none :: List.replicate n none) (v' :: vs) (d' :: ds) := h
    obtain ⟨⟨x, e, i⟩, t⟩ := h
    subst e
    rw [List.reverse_cons, List.reverse_cons]
    exact args_snoc i (args_rev t)
theorem args_len {K : PySem.W.Frag} {Hb : Hp} {σ : St} : ∀ {n : Nat} {vs : List V} {ds : Env}, Args K Hb σ (List.replicate n none) vs ds → vs.length = n
  | 0, [], [], _ => rfl
  | 0, _ :: _, [], h => h.elim
  | 0, [], _ :: _, h => h.elim
  | 0, _ :: _, _ :: _, h => h.elim
  | n + 1, [], _, h => (show False from h).elim
  | n + 1, _ :: _, [], h => (show False from h).elim
  | n + 1, v' :: vs, d' :: ds, h => by
    have h : Args K Hb σ (none :: List.replicate n none) (v' :: vs) (d' :: ds) := h
    simp [args_len h.2]
section
variable {X : Cx} {Wx : WX} {P I J J1 : List Nat} {e : Expr} {F : FE} {A : Env → (Env → Env → Prop) → XP → Prop} {pos p kpos : Pos} {k n : Nat} {f : Addr} {G : DFn} {x : Str} {tA : TA} {ta : TE} {kws : List Keyword} {ks : List Str} {nm : Option Str} {sp : Sp} {E : St → XK}
theorem dk_nil : DK X Wx P I [] tNil oNil 0 I := ⟨pk_nil, fun W ρ σ Hb H Q post xp E f _ q => q _ _ _ _ _ f E (Sub.refl _) trivial⟩
theorem dk_cons (ha : DE X Wx P I e ta F J1) (hb : DK X Wx P J1 kws tA A n J) : DK X Wx P I (⟨nm, e, kpos⟩ :: kws) (tCons ta tA) (oVal F A) (n + 1) J := by
  obtain ⟨pa, ka⟩ := ha
  obtain ⟨pb, kb⟩ := hb
  refine ⟨pk_cons pa pb, fun W ρ σ Hb H Q post xp E f x q => ka W ρ σ Hb H _ _ xp E f x fun d ρ1 v Hb1 H1 f1 E1 s1 i1 => ?_⟩
  exact kb W ρ1 σ Hb1 H1 _ _ xp E1 f1 x fun ds ρ2 vs Hb2 H2 f2 E2 s2 i2 => q _ _ _ _ _ f2 E2 (s1.trans s2) ⟨⟨_, rfl, i1.mono s2⟩, i2⟩
theorem run_Kw {pins : List (Addr × Obj)} {σ : St} {H : Hp} {s : Shared} {Q : VK} {us : List Value} {vs : List V} (F : FnKw X.prog X.w X.K X.mg X.base k f 0 ks sp) (hr : Room k X.A) (hg : X.A.guards = some []) (hx : PassesAt (L2.CX X.prog X.w) X σ (E σ))
    (I : Inv X pins σ H s) (r : Vals vs us) (l : us.length = ks.length) (h : sp vs.reverse H Q (E σ)) : codeAny (model X.prog X.w) X.A (.call (.ref f) ⟨[], ks.zip us⟩) (fun r s' => match r with | .ok (.ret v) => EP X pins σ Q v s' | .ok _ => False | .error e => X.xe e s') s := by
  refine codeAny_mono (F X.A X.stack s H [] us [] vs Q (E σ) hr hg I.env0 .nil r rfl l h) fun res s2 q => ?_
  cases res with
  | error er => exact hx pins H s er s2 I q
  | ok fl =>
    cases fl with
    | ret u => exact I.after q
    | next => exact q.elim
    | brk => exact q.elim
    | cont => exact q.elim
def tCallKw (sp : Sp) (E : St → XK) (n : Nat) (t : TA) : TE := fun σ H Q => t σ H fun vs H1 => vs.length = n ∧ sp vs.reverse H1 Q (E σ)
theorem pe_callKw (F : FnKw X.prog X.w X.K X.mg X.base k f 0 ks sp) (hr : Room k X.A) (hgu : X.A.guards = some []) (hg : Gl X x) (hm : X.mg x = some (.ref f)) (hk : PySem.W.keepIn X.K (.ref f) = true) (hx : ∀ σ, PassesAt (L2.CX X.prog X.w) X σ (E σ))
    (ha : PK X kws tA) (hall : (backToKw pos (keywordEach kws X.env)).all (·.1.isSome) = true := by rfl) (hks : (backToKw pos (keywordEach kws X.env)).filterMap (·.1) = ks := by rfl) (hdb : (x == ("__debug__" : Str)) = false := by decide)
    (hpl : ((backTo pos (starEach [] X.env)).any (·.1) || (backToKw pos (keywordEach kws X.env)).any (·.1.isNone)) = false := by rfl) :
    PE X (.Call (.Name x p) [] kws pos) (tCallKw sp E ks.length tA) := ⟨fun pins s σ H Q I h => by
  refine wpAny_Call_Name_kw (ld_glob I hg hm ?_ hdb)
  refine PySem.W.callWith_KW0 (h₀ := X.base) I.ok.mod.kin hk hall ?_ hpl
  refine thn (ha.run pos pins s σ H _ I h) fun us s1 ⟨vs, H1, I1, r, l, q⟩ => ⟨I1.kIn, ?_⟩
  rw [hks]
  exact wpAny_call (run_Kw F hr hgu (hx σ) I1 r (r.length.symm.trans l) q)⟩
theorem de_callKw (Fn : FnKw X.prog X.w X.K X.mg X.base k f 0 ks (spD X.K n [] G)) (hr : Room k X.A) (hgu : X.A.guards = some []) (hm : X.mg x = some (.ref f)) (hk : PySem.W.keepIn X.K (.ref f) = true) (tk : Takes X Wx)
    (ha : DK X Wx P I kws tA A n J) (hPJ : ∀ j ∈ J, j ∉ P := by decide) (hn : ks.length = n := by decide)
    (hg : Gl X x := by rfl) (hall : (backToKw pos (keywordEach kws X.env)).all (·.1.isSome) = true := by rfl) (hks : (backToKw pos (keywordEach kws X.env)).filterMap (·.1) = ks := by rfl) (hdb : (x == ("__debug__" : Str)) = false := by decide)
    (hpl : ((backTo pos (starEach [] X.env)).any (·.1) || (backToKw pos (keywordEach kws X.env)).any (·.1.isNone)) = false := by rfl)
    (hio : ioOf 0 (List.replicate n (none : Option Nat)) = [] := by decide) (hs0 : slots (List.replicate n (none : Option Nat)) = [] := by decide) :
    DE X Wx P I (.Call (.Name x p) [] kws pos) (tCallKw (spD X.K n [] G) (WE Wx) ks.length tA) (fCall G (List.replicate n none) (oRev A)) J := by
  obtain ⟨pa, ka⟩ := ha
  refine de_of (pe_callKw Fn hr hgu hg hm hk (fun σ => passAt tk σ) pa hall hks hdb hpl) fun W ρ σ Hb H Q post xp E0 f0 x0 q => ?_
  have core := call_core (X := X) (Wx := Wx) (P := P) (I := I) (J := J) (n := n) (io := []) (G := G) (A := oRev A) (sl := List.replicate n none) (t := fun σ H Q => tA σ H fun vs H1 => vs.length = n ∧ Q vs.reverse H1) tk hio (fun j hj => by rw [hs0] at hj; cases hj) (by rw [hs0]; exact List.nodup_nil) hPJ (List.length_replicate ..)
    fun W ρ σ Hb H Q post xp E1 f1 x1 q1 => ka W ρ σ Hb H _ _ xp E1 f1 x1 fun ds ρ' vs Hb' H' f2 E2 s2 ar => ⟨args_len ar, q1 _ _ _ _ _ f2 E2 s2 (args_rev ar)⟩
  have := core W ρ σ Hb H Q post xp E0 f0 x0 q
  rw [← hn] at this
  unfold tCallKw
  rw [hn] at this ⊢
  exact this
end
end DL

/-! DG32: dict(xs), xs a list of pairs whose keys are tuples of ints and texts. -/
namespace DL
open PySem L2
open PyProof.Rows hiding St
/-- the values are pairs with these keys -/
inductive PrsV (H : Hp) : List V → List (List Key × V) → Prop
  | nil : PrsV H [] []
  | cons {t b : Addr} {x : V} {k : List Key} {vs : List V} {ps : List (List Key × V)} (h : H t = some (.tup [.ref b, x])) (hb : H b = some (.tup (k.map kV))) (r : PrsV H vs ps) : PrsV H (.ref t :: vs) ((k, x) :: ps)
theorem PrsV.len {H : Hp} : ∀ {vs : List V} {ps : List (List Key × V)}, PrsV H vs ps → vs.length = ps.length
  | _, _, .nil => rfl
  | _, _, .cons _ _ r => congrArg (· + 1) r.len
def putAll (acc ps : List (List Key × V)) : List (List Key × V) := ps.foldl (fun a p => putK a p.1 p.2) acc
theorem putAll_len : ∀ (ps acc : List (List Key × V)), (putAll acc ps).length ≤ acc.length + ps.length
  | [], acc => by simp [putAll]
  | p :: ps, acc => by
    have a := putAll_len ps (putK acc p.1 p.2)
    have b := length_putK acc p.1 p.2
    have e : putAll acc (p :: ps) = putAll (putK acc p.1 p.2) ps := rfl
    rw [e, List.length_cons]
    omega
section
variable {X : Cx} {pins : List (Addr × Obj)} {σ : L2.St} {H : Hp} {s : Shared}
/-- the same in the heap -/
theorem prs_real (I : Inv X pins σ H s) : ∀ {vs : List V} {ps : List (List Key × V)} {its : List Value}, PrsV H vs ps → Vals vs its →
    ∃ (ts : List Addr) (qs : List (List Key × Addr × Value)), its = ts.map Value.ref ∧ ts.length = qs.length ∧ (∀ (j : Nat) (t : Addr) (q : List Key × Addr × Value), ts[j]? = some t → qs[j]? = some q → PairAt s.heap t (.ref q.2.1) q.2.2) ∧
      (∀ q ∈ qs, (tupleKind (mixKind X.prog X.w)).is s.heap q.1 q.2.1) ∧ ∀ acc xs, KT H acc xs → KT H (putAll acc ps) (storedAllH xs qs)
  | _, _, _, .nil, .nil => ⟨[], [], rfl, rfl, (fun j t q e => by simp at e), (fun q h => by cases h), fun acc xs k => k⟩
  | _, _, _, .cons (t := t) (b := b) (x := x) (k := k) h hb r, .cons rt rr => by
    cases rt
    obtain ⟨ts, qs, e, l, p, kk, ac⟩ := prs_real I r rr
    obtain ⟨two, rv, pt, _⟩ := I.tuple (.inl (.inl h))
    obtain ⟨u, rfl, ru⟩ : ∃ u, two = [.ref b, u] ∧ RelV x u := by
      cases rv with
      | cons r1 r2 =>
        cases r1
        cases r2 with
        | cons r3 r4 => cases r4; exact ⟨_, rfl, r3⟩
    refine ⟨t :: ts, (k, b, u) :: qs, by rw [e]; rfl, congrArg (· + 1) l, fun j t' q e1 e2 => ?_, fun q hq => ?_, fun acc xs kt => ac _ _ (kt.put k hb ru)⟩
    · cases j with
      | zero =>
        simp at e1 e2
        subst e1 e2
        exact .inl pt
      | succ j => exact p j t' q (by simpa using e1) (by simpa using e2)
    · rcases List.mem_cons.mp hq with rfl | hq
      · exact L2.key_of I.hok hb
      · exact kk q hq
end
def rDictP (K : PySem.W.Frag) : List V → Hp → VK → Prop := fun xs H Q => ∃ a vs ps, xs = [.ref a] ∧ SqL K H a vs ∧ PrsV H vs ps ∧ vs.length ≤ 1000000 ∧ ∀ p, H p = none → Q (.ref p) (upd H p (.dT (putAll [] ps)))
theorem call_dictP {X : Cx} (hu : X.A.units + 2 < cLine) (hc : X.calm = true) : CallR X (.type "dict") (rDictP X.K) := by
  intro pins s σ H xs us Q I r q
  obtain ⟨a, vs, ps, rfl, hq, hp, hl, q⟩ := q
  obtain ⟨u, rfl, ra⟩ := vals1 r
  cases ra
  obtain ⟨its, rv, pl, hz⟩ := I.list hq
  obtain ⟨ts, qs, e, l, pr, kk, ac⟩ := prs_real I hp rv
  have lp := hp.len
  have lv := rv.length
  subst e
  rw [List.length_map] at lv
  have lq : qs.length ≤ 1000000 := by omega
  refine call_dict_pairsH (knd := tupleKind (mixKind X.prog X.w)) (ps := qs) (PairArg.list a (ts.map Value.ref).toArray (fun j => ts.getD j 0) (qs.map fun q => (Value.ref q.2.1, q.2.2))) (I.ok.hd hc) ?_ ⟨?_, ?_, fun j k v hj => ?_⟩ ⟨by simp, fun i key v hj => ?_⟩ ?_ ?_ fun h' tk hd hk => ?_
  · show X.A.units + 1 + 1 < cLine
    omega
  · obtain ⟨o, n, h1, h2, h3, h4⟩ := pl
    exact ⟨o, n, h1, h2, h3, h4⟩
  · simp [l]
  · rw [List.getElem?_map] at hj
    cases eq : qs[j]? with
    | none => rw [eq] at hj; simp at hj
    | some q =>
      rw [eq] at hj
      simp at hj
      obtain ⟨rfl, rfl⟩ := hj
      have jl : j < ts.length := by rw [l]; exact (List.getElem?_eq_some_iff.mp eq).1
      have et : ts[j]? = some (ts.getD j 0) := by rw [List.getD_eq_getElem?_getD, List.getElem?_eq_getElem jl]; rfl
      exact ⟨by rw [List.getElem?_toArray, List.getElem?_map, et]; rfl, pr j _ q et eq⟩
  · have hj : (qs.map fun q => (Value.ref q.2.1, q.2.2))[i]? = some (key, v) := hj
    rw [List.getElem?_map] at hj
    cases eq : qs[i]? with
    | none => rw [eq] at hj; simp at hj
    | some q =>
      rw [eq] at hj
      simp at hj
      obtain ⟨rfl, rfl⟩ := hj
      exact ⟨q.1, q.2.1, rfl, rfl⟩
  · intro h' hk x hx
    exact tupleKind_stays.stays (fun b o _ _ e _ => hk b o (Nat.ne_of_lt (Heap.lt_size e)) (fun z => by cases z) e) (kk x hx)
  · rw [List.length_map]; exact Nat.le_trans lq (by decide)
  · have kt0 := ac [] [] .nil
    have hD := I.hok.fresh (Nat.le_refl s.heap.objs.size)
    have kt : KT (upd H s.heap.objs.size (.dT (putAll [] ps))) (putAll [] ps) (storedAllH [] qs) := kt0.keeps fun c ys ec => by
      have cD : c ≠ s.heap.objs.size := fun z => by rw [z, hD] at ec; cases ec
      rw [upd_ne cD]; exact ec
    have hk2 : ∀ b u, s.heap.get? b = some u → h'.get? b = some u := fun b u e => hk b u (fun z => by cases z) e
    have nsys : (s.heap.objs.size == sysModules) = false := beq_eq_false_iff_ne.mpr (Ne.symm (Nat.ne_of_lt I.big))
    obtain ⟨o, es, ep, w0, w1, w2, w3, w4, w5⟩ := hd
    have lz : (putAll [] ps).length ≤ sizeLine := by
      have := putAll_len ps []
      simp only [List.length_nil, Nat.zero_add] at this
      exact Nat.le_trans this (Nat.le_trans (by omega) (by decide : (1000000 : Nat) ≤ sizeLine))
    exact ⟨.ref s.heap.objs.size, _, I.laid (a := s.heap.objs.size) (o := .dT (putAll [] ps)) (t' := tk) hk2 (Nat.le_refl _) ⟨lz, nsys, storedAllH [] qs, kt, o, es, ep, w0, w1, w2, w3, w5⟩, rfl, q _ hD⟩
/-- pairs as data -/
@[simp] def prsD : List D → Option (List (List Key × D))
  | [] => some []
  | .tup [kx, v] :: r => match keyTD kx, prsD r with
    | some k, some ps => some ((k, v) :: ps)
    | _, _ => none
  | _ => none
def putAllD (acc ps : List (List Key × D)) : List (List Key × D) := ps.foldl (fun a p => putD a p.1 p.2) acc
section
variable {K : PySem.W.Frag} {Hb H : Hp}
theorem prs_of (s : Sub Hb H) : ∀ {es : List D} {vs : List V} {pd : List (List Key × D)}, IsL K Hb vs es → prsD es = some pd → ∃ ps : List (List Key × V), PrsV H vs ps ∧ ps.map (·.1) = pd.map (·.1) ∧ IsL K Hb (ps.map (·.2)) (pd.map (·.2))
  | [], _, pd, .nil, e => by simp at e; subst e; exact ⟨[], .nil, rfl, .nil⟩
  | d :: es, _, pd, .cons i l, e => by
    unfold prsD at e
    split at e
    · rename_i e0; cases e0
    · rename_i kx v r e0
      cases e0
      split at e
      · rename_i k ps ek er
        cases e
        obtain ⟨pv, h1, h2, h3⟩ := prs_of s l er
        cases i with
        | tup ht lt =>
          cases lt with
          | cons ik lt =>
            cases lt with
            | cons iv lt =>
              cases lt
              cases kx <;> simp only [keyTD] at ek <;> first | cases ek | skip
              cases ik with
              | tup hb lb =>
                obtain rfl := is_keys lb ek
                exact ⟨(k, _) :: pv, .cons (s.at ht) (s.at hb) h1, by simp [h2], .cons iv h3⟩
      · cases e
    · cases e
theorem putAll_rel : ∀ {ps : List (List Key × V)} {pd : List (List Key × D)} {acc : List (List Key × V)} {ad : List (List Key × D)}, ps.map (·.1) = pd.map (·.1) → IsL K Hb (ps.map (·.2)) (pd.map (·.2)) → acc.map (·.1) = ad.map (·.1) → IsL K Hb (acc.map (·.2)) (ad.map (·.2)) →
    (putAll acc ps).map (·.1) = (putAllD ad pd).map (·.1) ∧ IsL K Hb ((putAll acc ps).map (·.2)) ((putAllD ad pd).map (·.2))
  | [], [], _, _, _, _, h1, h2 => ⟨h1, h2⟩
  | [], _ :: _, _, _, e, _, _, _ => by simp at e
  | _ :: _, [], _, _, e, _, _, _ => by simp at e
  | (k, x) :: ps, (k', d) :: pd, acc, ad, e, l, h1, h2 => by
    simp only [List.map_cons, List.cons.injEq] at e
    obtain ⟨rfl, e⟩ := e
    cases l with
    | cons i l =>
      obtain ⟨c1, c2⟩ := putD_rel k h1 h2 i
      exact putAll_rel (ps := ps) (pd := pd) e l c1 c2
end
/-- dict(xs) -/
def gDictP : GN := fun xs k => ∃ d es pd, xs = [d] ∧ lstD d = some es ∧ prsD es = some pd ∧ es.length ≤ 1000000 ∧ k (.dt (putAllD [] pd))
theorem rv_dictP {K : PySem.W.Frag} : RVN K (rDictP K) gDictP := fun Hb H xs ds k Q s l g q => by
  obtain ⟨d, es, pd, rfl, e, ep, hl, g⟩ := g
  obtain ⟨v, rfl, i⟩ := o_one l
  obtain ⟨a, vs, rfl, h, m⟩ := o_lstD s i e
  obtain ⟨ps, h1, h2, h3⟩ := prs_of s m ep
  obtain ⟨c1, c2⟩ := putAll_rel (acc := []) (ad := []) h2 h3 rfl .nil
  exact ⟨a, vs, ps, rfl, h, h1, by rw [m.length]; exact hl, fun p hp => q _ _ _ _ g (.one hp) (.dt (.inl upd_same) c1 (c2.mono (Sub.new (s.none hp))))⟩
@[simp ↓] theorem gDictP_lst (es : List D) (k : D → Prop) : gDictP [.lst es] k = ∃ pd, prsD es = some pd ∧ es.length ≤ 1000000 ∧ k (.dt (putAllD [] pd)) :=
  propext ⟨fun ⟨_, _, pd, e, h, r⟩ => by cases e; cases h; exact ⟨pd, r⟩, fun ⟨pd, r⟩ => ⟨_, _, pd, rfl, rfl, r⟩⟩
end DL

/-! DG33: list(d.values()), the dict's keys tuples. -/
namespace DL
open PySem L2
open PyProof.Rows hiding St
def tListVals (td : TE) : TE := fun σ H Q => td σ H fun x H1 => ∃ a kvs, x = V.ref a ∧ Rd H1 a (.dT kvs) ∧ kvs.length ≤ 1000000 ∧ ∀ p, H1 p = none → Q (.ref p) (upd H1 p (.lst (kvs.map (·.2))))
section
variable {X : Cx} {o : Expr} {p pos apos mpos : Pos} {td : TE}
theorem kt_vals {H : Hp} : ∀ {kvs : List (List Key × V)} {xs : List (List Key × Addr × Value)}, KT H kvs xs → Vals (kvs.map (·.2)) (xs.map (·.2.2))
  | _, _, .nil => .nil
  | _, _, .cons a r => .cons a.2.2 (kt_vals r)
theorem pe_listVals (hc : X.calm = true) (hg : Gl X "list") (hm : X.mg "list" = none) (hd : PE X o td) (hbase : attributeBase o "values" X.env (eval o X.env) = eval o X.env := by rfl) (hline : (apos.endLine == mpos.line) = true := by rfl)
    (hs : starEach [Expr.Call (.Attribute o "values" apos) [] [] mpos] X.env = (false, eval (Expr.Call (.Attribute o "values" apos) [] [] mpos) X.env) :: starEach [] X.env := by rfl) :
    PE X (.Call (.Name "list" p) [.Call (.Attribute o "values" apos) [] [] mpos] [] pos) (tListVals td) := by
  refine ⟨fun pins s σ H Q I h => ?_⟩
  refine Call_ (ld_blt I hg hm (u := .type "list") (by first | rfl | decide +kernel) ?_)
  refine PyProof.Rows.callWith_type1 (PyProof.Rows.args_cons (wpAny_Call_method0_late hbase hline (thn (hd.run pins s σ H _ I h) fun v s1 ⟨x, H1, I1, r1, q⟩ => ?_)) hs) hs rfl
  obtain ⟨a, kvs, rfl, hr, hl, q⟩ := q
  obtain rfl : v = Value.ref a := r1
  obtain ⟨hl2, hsys, xs, rel, dof⟩ := dt_rd I1.hok hr
  have dk : s1.heap.DictKeyed (tupleKind (mixKind X.prog X.w)) a (pairsH xs) := ⟨xs, dof, rfl⟩
  obtain ⟨es, ep, raw, hsz, hit⟩ := dk.walk
  have raw' := raw
  obtain ⟨ob, ho, hex, hdat⟩ := raw'
  refine ⟨"dict", "dict.values", F.plainAttrs_dict, F.slot_dict_values, F.type_dict_values, ⟨ob, ho, hex.1⟩, fun b e => ?_, Calls.callWith_builtin rfl (PySem.evalArgs_none ?_)⟩
  · cases e
    exact ⟨ob, ho, hex.2.1⟩
  refine call_meetsIn F.slot_dict_values ⟨ob, ho, hex.1⟩ F.entry_dict_values (F.args_dict_values_1 _) (meets_dict_values_raw a hsys) ⟨⟨es, ep, raw⟩, ?_⟩
  have k1 : ∀ b u, s1.heap.get? b = some u → (s1.heap.push { cls := .type "dict_values", data := .fields #[.ref a] }).get? b = some u := fun b u e => Heap.get?_push_of_some _ e
  refine PyProof.Rows.args_nil ?_
  have ex : es.size = xs.length := by rw [hsz, pairsH_length]
  have exk : xs.length = kvs.length := (Paired.length rel).symm
  refine PySem.W.kdl_call (PySem.KdlSrc.rawValues (r := s1.heap.objs.size) (d := a) (es := es) (ep := ep)) (I1.ok.hd hc) ⟨⟨_, Heap.get?_push_size _ rfl, rfl, rfl⟩, raw.at fun o e => k1 _ o e⟩ (by rw [ex, exk]; exact hl2) fun h' tk acc' c' hk hS hacc => ?_
  obtain ⟨az, ai⟩ := hacc
  have ea : acc'.toList = xs.map (·.2.2) := by
    refine List.ext_getElem? fun i => ?_
    by_cases hi : i < es.size
    · have hia : i < acc'.size := by rw [az]; exact hi
      have e1 : acc'[i]? = some acc'[i] := Array.getElem?_eq_getElem hia
      obtain ⟨hi2, e2⟩ := ai i _ e1
      obtain ⟨k, v, b, e3, _, e4, _⟩ := hit i hi
      have e5 : xs[i]?.map (fun x => (x.1, x.2.2)) = some (k, v) := by
        have e3' : (xs.map fun x => (x.1, x.2.2))[i]? = some (k, v) := e3
        rwa [List.getElem?_map] at e3'
      rw [Array.getElem?_toList, e1, List.getElem?_map, e2, e4]
      cases e6 : xs[i]? with
      | none => rw [e6] at e5; cases e5
      | some y =>
        rw [e6] at e5
        simp at e5
        simp [e5.2]
    · rw [Array.getElem?_toList, Array.getElem?_eq_none (by rw [az]; omega), List.getElem?_eq_none (by rw [List.length_map, ← ex]; omega)]
  have rv := kt_vals rel
  rw [← ea] at rv
  have hz2 : (s1.heap.push { cls := .type "dict_values", data := .fields #[.ref a] }).objs.size = s1.heap.objs.size + 1 := Heap.size_push _ _
  have I2 := I1.laid (a := (s1.heap.push { cls := .type "dict_values", data := .fields #[.ref a] }).objs.size) (o := .lst (kvs.map (·.2))) (t' := tk) (fun b u e => hk b u (k1 b u e)) (by rw [hz2]; exact Nat.le_succ _)
    ⟨by rw [List.length_map]; exact hl2, acc'.toList, c', rv, by rw [Array.toArray_toList]; exact hS⟩
  exact ⟨.ref (s1.heap.push { cls := .type "dict_values", data := .fields #[.ref a] }).objs.size, _, I2, rfl, q _ (I1.hok.fresh (by rw [hz2]; exact Nat.le_succ _))⟩
end
/-- list(d.values()) -/
def fListVals (F : FE) : FE := fun ρ post xp => F ρ (fun d ρ1 => match d with
  | .dt kvs => kvs.length ≤ 1000000 ∧ post (.lst (kvs.map (·.2))) ρ1
  | _ => False) xp
@[simp ↓] theorem fListVals_ap (F : FE) (ρ : Env) (post : Post) (xp : XP) : fListVals F ρ post xp = (F ρ (fun d ρ1 => match d with
  | .dt kvs => kvs.length ≤ 1000000 ∧ post (.lst (kvs.map (·.2))) ρ1
  | _ => False) xp) := (rfl)
section
variable {X : Cx} {Wx : WX} {P I J : List Nat} {o : Expr} {p pos apos mpos : Pos} {td : TE} {F : FE}
theorem de_listVals (hm : X.mg "list" = none) (hd : DE X Wx P I o td F J) (hc : X.calm = true := by rfl) (hg : Gl X "list" := by rfl) (hbase : attributeBase o "values" X.env (eval o X.env) = eval o X.env := by rfl) (hline : (apos.endLine == mpos.line) = true := by rfl)
    (hs : starEach [Expr.Call (.Attribute o "values" apos) [] [] mpos] X.env = (false, eval (Expr.Call (.Attribute o "values" apos) [] [] mpos) X.env) :: starEach [] X.env := by rfl) :
    DE X Wx P I (.Call (.Name "list" p) [.Call (.Attribute o "values" apos) [] [] mpos] [] pos) (tListVals td) (fListVals F) J := by
  refine de_of (pe_listVals hc hg hm hd.pe hbase hline hs) fun W ρ σ Hb H Q post xp E f x q => hd.ev W ρ σ Hb H _ _ xp E f x fun d ρ1 v Hb1 H1 f1 E1 s1 i1 => ?_
  match d, i1, f1 with
  | .dt kvs, i1, f1 =>
    cases i1 with
    | dt h e l =>
      rename_i a vs
      have hl : vs.length = kvs.length := by have := congrArg List.length e; simpa using this
      refine ⟨_, vs, rfl, E1.sub.rd h, by rw [hl]; exact f1.1, fun p hp => ?_⟩
      obtain ⟨E2, s2⟩ := Grow.env E1 (.one (o := .lst (vs.map (·.2))) hp)
      exact q _ _ _ _ _ f1.2 E2 (s1.trans s2) (.lst upd_same (l.mono s2))
end
end DL

/-! DG34: max of a list of ints, or of two ints. -/
namespace DL
open PySem L2
open PyProof.Rows hiding St
theorem ints_toks : ∀ {ns : List Int} {us : List Value}, Vals (ns.map V.int) us → ∃ xs : List (Int × Tok), us = xs.map (fun p => Value.int p.1 p.2) ∧ xs.map (·.1) = ns
  | [], _, .nil => ⟨[], rfl, rfl⟩
  | n :: ns, _, .cons r t => by
    obtain ⟨k, rfl⟩ := r
    obtain ⟨xs, e1, e2⟩ := ints_toks t
    exact ⟨(n, k) :: xs, by rw [e1]; rfl, by rw [← e2]; rfl⟩
def rMaxU (K : PySem.W.Frag) : List V → Hp → VK → Prop := fun xs H Q => (∃ i j, xs = [.int i, .int j] ∧ Q (.int (if j > i then j else i)) H) ∨
  ∃ (p : Addr) (ns : List Int), xs = [.ref p] ∧ SqL K H p (ns.map V.int) ∧ ns ≠ [] ∧ ∀ m, m ∈ ns → (∀ j ∈ ns, j ≤ m) → Q (.int m) H
theorem call_maxU {X : Cx} (hc : X.calm = true) : CallR X (.builtin "max") (rMaxU X.K) := by
  intro pins s σ H xs us Q I r q
  rcases q with q | ⟨p, ns, rfl, hq, hne, q⟩
  · exact call_max2 hc pins s σ H xs us Q I r q
  · obtain ⟨u, rfl, ra⟩ := vals1 r
    cases ra
    obtain ⟨its, rv, pl, hz⟩ := I.list hq
    obtain ⟨ys, rfl, e2⟩ := ints_toks rv
    have hl : s.heap.IsList p (intItems ys.toArray) := by
      have := pl.isList
      unfold intItems
      rw [← List.map_toArray] at this
      exact this
    have hpos : 0 < ys.toArray.size := by
      have : ys ≠ [] := fun z => hne (by rw [← e2, z]; rfl)
      simpa [List.length_pos_iff] using this
    have num : ∀ i, numAt ys.toArray i = ns.getD i 0 := fun i => by
      unfold numAt
      rw [List.getD_eq_getElem?_getD, ← e2, List.getElem?_map, List.getElem?_toArray]
    refine max_intList (I.ok.hd hc) hl hpos fun v h' tk hv hk => ?_
    obtain ⟨b1, b2⟩ := argBest_gt (numAt ys.toArray) (ys.toArray.size - 1)
    obtain ⟨t, rfl⟩ := intItems_at hv
    have hlen : ns.length = ys.toArray.size := by rw [← e2]; simp
    have hlt : argBest (fun i j => decide (numAt ys.toArray i > numAt ys.toArray j)) (ys.toArray.size - 1) < ns.length := by omega
    refine ⟨.int _, H, I.kept (t' := tk) hk, ⟨t, rfl⟩, q _ ?_ fun j hj => ?_⟩
    · rw [num, List.getD_eq_getElem?_getD, List.getElem?_eq_getElem hlt]
      exact List.getElem_mem hlt
    · obtain ⟨i, hi⟩ := List.mem_iff_getElem?.mp hj
      have hil := (List.getElem?_eq_some_iff.mp hi).1
      have := b2 i (by omega)
      rw [num i, List.getD_eq_getElem?_getD, hi] at this
      exact this
def gMaxU : GN := fun xs k => (gMax2 xs k) ∨ ∃ d es ns, xs = [d] ∧ lstD d = some es ∧ dInts es = some ns ∧ ns ≠ [] ∧ ∀ m, m ∈ ns → (∀ j ∈ ns, j ≤ m) → k (.int m)
theorem rv_maxU {K : PySem.W.Frag} : RVN K (rMaxU K) gMaxU := fun Hb H xs ds k Q s l g q => by
  rcases g with g | ⟨d, es, ns, rfl, e1, e2, hne, g⟩
  · exact .inl (rv_max2 Hb H xs ds k Q s l g q)
  · obtain ⟨v, rfl, i⟩ := o_one l
    obtain ⟨a, vs, rfl, h, m⟩ := o_lstD s i e1
    obtain rfl := is_ints m e2
    exact .inr ⟨a, ns, rfl, h, hne, fun m hm hj => q _ _ _ _ (g m hm hj) .refl (.int _)⟩
theorem dIntsM : ∀ c : List Int, dInts (c.map .int) = some c
  | [] => rfl
  | i :: c => by
    show dInts (.int i :: c.map .int) = _
    simp only [dInts, dIntsM c]
    rfl
@[simp ↓] theorem gMaxU_int (i j : Int) (k : D → Prop) : gMaxU [.int i, .int j] k = k (.int (if j > i then j else i)) := propext ⟨fun h => by
  rcases h with h | ⟨_, _, _, e, _⟩
  · exact h
  · simp at e, fun h => Or.inl h⟩
theorem gMaxU_lst {c : List Int} {k : D → Prop} (hne : c ≠ []) (h : ∀ m, m ∈ c → (∀ j ∈ c, j ≤ m) → k (.int m)) : gMaxU [.lst (c.map .int)] k :=
  Or.inr ⟨_, _, c, rfl, rfl, dIntsM c, hne, h⟩
end DL

/-! DG35: a list times an int. -/
namespace DL
open PySem L2
open PyProof.Rows hiding St
def gRepL : G2
  | .lst a, .int j, k => (a.length ≤ 1000 ∧ 0 ≤ j ∧ j ≤ 1000) ∧ k (.lst (List.replicate j.toNat a).flatten)
  | _, _, _ => False
@[simp ↓] theorem gRepL_lst (a : List D) (j : Int) (k) : gRepL (.lst a) (.int j) k = ((a.length ≤ 1000 ∧ 0 ≤ j ∧ j ≤ 1000) ∧ k (.lst (List.replicate j.toNat a).flatten)) := (rfl)
theorem rv_repL {K : PySem.W.Frag} : RV2 K rRep gRepL := fun Hb H x y dx dy k Q s ix iy g q => by
  cases dx <;> cases dy <;> first | exact g.elim | skip
  rename_i ds j
  obtain ⟨⟨g1, g2, g3⟩, g5⟩ := g
  obtain rfl := o_int iy
  have fin : ∀ (a : Addr) (vs : List V), H a = some (.lst vs) → IsL K Hb vs ds → rRep (.ref a) (.int j) H Q := fun a vs h l => by
    refine ⟨a, j, vs, rfl, rfl, h, by omega, by omega, ?_, fun p hp => q _ _ _ _ g5 (.one hp) (.lst upd_same ((isL_rep _ l).mono (Sub.new (s.none hp))))⟩
    rw [l.length]
    have : ds.length * j.toNat ≤ 1000 * 1000 := Nat.mul_le_mul g1 (by omega)
    exact Nat.le_trans this (by decide)
  rcases ix with ix | ⟨p, rfl, c⟩
  · cases ix with
    | lst h l => exact fin _ _ (s.at h) l
  · obtain ⟨vs, h, l⟩ := c
    exact fin _ _ h l
end DL

/-! DG36: a, b, c = x, y, z. -/
namespace DL
open PySem L2
def fPar3 (i j l : Nat) (A : FA) : FS := fun ρ S => A ρ (fun ds ρ1 => match ds with
  | [x, y, z] => S.nx (put (put (put ρ1 i (some x)) j (some y)) l (some z))
  | _ => False) S.ex
@[simp ↓] theorem fPar3_ap (i j l : Nat) (A : FA) (ρ : Env) (S : SPo) : fPar3 i j l A ρ S = (A ρ (fun ds ρ1 => match ds with
  | [x, y, z] => S.nx (put (put (put ρ1 i (some x)) j (some y)) l (some z))
  | _ => False) S.ex) := (rfl)
section
variable {X : Cx} {Wx : WX} {P L I J : List Nat} {pos : Pos} {tA : TA}
theorem ds_par3 (i j l : Nat) {x y z : Str} {a b c : Expr} {Fl : FA} {px py pz pt : Pos} {kt k2 pt2} (hc : X.calm = true) (hN : X.N.Nodup) (ha : DA X Wx P I [a, b, c] tA Fl J) (hi : X.N[i]? = some x := by rfl) (hj : X.N[j]? = some y := by rfl) (hl : X.N[l]? = some z := by rfl) (hij : i ≠ j := by decide) (hil : i ≠ l := by decide) (hjl : j ≠ l := by decide)
    (hx : X.env.scope.names.lookup x = some .local := by rfl) (hy : X.env.scope.names.lookup y = some .local := by rfl) (hz : X.env.scope.names.lookup z = some .local := by rfl)
    (hw : swappedStores [.Tuple [.Name x px, .Name y py, .Name z pz] kt pt] (.Tuple [a, b, c] k2 pt2) X.env = pure (some [x, y, z]) := by rfl)
    (hs : swapsWithSole [.Tuple [.Name x px, .Name y py, .Name z pz] kt pt] (.Tuple [a, b, c] k2 pt2) pos.line X.env = pure false := by rfl)
    (hP1 : i ∉ P := by decide) (hI1 : i ∉ J := by decide) (hP2 : j ∉ P := by decide) (hI2 : j ∉ J := by decide) (hP3 : l ∉ P := by decide) (hI3 : l ∉ J := by decide) :
    DS X Wx P L I (.Assign [.Tuple [.Name x px, .Name y py, .Name z pz] kt pt] (.Tuple [a, b, c] k2 pt2) pos) (fPar3 i j l Fl) J := by
  obtain ⟨p, k⟩ := ha
  refine ⟨_, ps_par3 hc hN hi hj hl hij hil hjl hx hy hz p hw hs, fun W ρ σ Hb H D S E f q => k W ρ σ Hb H _ _ _ E f (q.xok σ) fun ds ρ1 vs Hb1 H1 f1 E1 s1 i1 => ?_⟩
  match ds, i1, f1 with
  | [x, y, z], .cons a (.cons b (.cons c .nil)), f1 => exact ⟨_, _, _, rfl, q.nx _ _ _ _ f1 (((E1.set a hP1 hI1).set b hP2 hI2).set c hP3 hI3) s1⟩
end
/-- the call itself, its rest kept closed -/
theorem callI {G : DFn} {vs : DL.Env} {post : Post} {xp : XP} {l : Lock post xp} (h : G vs post xp) : callD G vs post xp l := h
end DL

/-! DP1: places with counts, in plain Lean: merged, sorted, looked up, summed. -/
namespace DL
abbrev Pt := Int × Int
abbrev Cn := List Int
abbrev Pc := Pt × Cn
def ltP (p q : Pt) : Prop := p.1 < q.1 ∨ (p.1 = q.1 ∧ p.2 < q.2)
instance (p q : Pt) : Decidable (ltP p q) := by unfold ltP; infer_instance
theorem ltP.irr {p : Pt} (h : ltP p p) : False := by unfold ltP at h; omega
theorem ltP.tr {p q r : Pt} (h : ltP p q) (k : ltP q r) : ltP p r := by unfold ltP at *; omega
theorem ltP.tri (p q : Pt) : ltP p q ∨ p = q ∨ ltP q p := by
  by_cases e : p = q
  · exact .inr (.inl e)
  · have : p.1 ≠ q.1 ∨ p.2 ≠ q.2 := by
      by_cases a : p.1 = q.1
      · exact .inr fun b => e (Prod.ext a b)
      · exact .inl a
    unfold ltP; omega
/-- counts added -/
def addC (a b : Cn) : Cn := List.zipWith (· + ·) a b
def zero (n : Nat) : Cn := List.replicate n 0
theorem addC_len {a b : Cn} {n : Nat} (h : a.length = n) (k : b.length = n) : (addC a b).length = n := by unfold addC; simp [h, k]
theorem zero_len (n : Nat) : (zero n).length = n := by simp [zero]
theorem addC_get {a b : Cn} {n : Nat} (h : a.length = n) (k : b.length = n) (j : Nat) : (addC a b).getD j 0 = a.getD j 0 + b.getD j 0 := by
  unfold addC
  rw [List.getD_eq_getElem?_getD, List.getD_eq_getElem?_getD, List.getD_eq_getElem?_getD, List.getElem?_zipWith]
  by_cases hj : j < n
  · rw [List.getElem?_eq_getElem (by omega), List.getElem?_eq_getElem (by omega)]; rfl
  · rw [List.getElem?_eq_none (by omega), List.getElem?_eq_none (by omega)]; rfl
theorem zero_get (n j : Nat) : (zero n).getD j 0 = 0 := by
  unfold zero
  rw [List.getD_eq_getElem?_getD]
  by_cases hj : j < n
  · rw [List.getElem?_eq_getElem (by simpa using hj)]; simp
  · rw [List.getElem?_eq_none (by simpa using hj)]; rfl
theorem cn_ext {a b : Cn} {n : Nat} (h : a.length = n) (k : b.length = n) (e : ∀ j, j < n → a.getD j 0 = b.getD j 0) : a = b := by
  refine List.ext_getElem (by omega) fun j h1 h2 => ?_
  have := e j (by omega)
  rw [List.getD_eq_getElem?_getD, List.getD_eq_getElem?_getD, List.getElem?_eq_getElem h1, List.getElem?_eq_getElem h2] at this
  exact this
theorem zero_add {c : Cn} {n : Nat} (h : c.length = n) : addC (zero n) c = c :=
  cn_ext (addC_len (zero_len n) h) h fun j _ => by rw [addC_get (zero_len n) h, zero_get]; omega
theorem add_zero {c : Cn} {n : Nat} (h : c.length = n) : addC c (zero n) = c :=
  cn_ext (addC_len h (zero_len n)) h fun j _ => by rw [addC_get h (zero_len n), zero_get]; omega
theorem addC_comm {a b : Cn} {n : Nat} (h : a.length = n) (k : b.length = n) : addC a b = addC b a :=
  cn_ext (addC_len h k) (addC_len k h) fun j _ => by rw [addC_get h k, addC_get k h]; omega
theorem addC_assoc {a b c : Cn} {n : Nat} (h : a.length = n) (k : b.length = n) (l : c.length = n) : addC (addC a b) c = addC a (addC b c) :=
  cn_ext (addC_len (addC_len h k) l) (addC_len h (addC_len k l)) fun j _ => by rw [addC_get (addC_len h k) l, addC_get h k, addC_get h (addC_len k l), addC_get k l]; omega

/-! ### lists of places with counts -/
def look (L : List Pc) (p : Pt) : Option Cn := (L.find? fun q => decide (q.1 = p)).map (·.2)
def putP (L : List Pc) (p : Pt) (c : Cn) : List Pc := if (L.any fun q => decide (q.1 = p)) = true then L.map fun q => if q.1 = p then (q.1, c) else q else L ++ [(p, c)]
/-- the counts at a place -/
def at_ (n : Nat) (L : List Pc) (p : Pt) : Cn := (look L p).getD (zero n)
/-- the sum of all pieces at a place -/
def sumAt (n : Nat) (ps : List Pc) (p : Pt) : Cn := ps.foldl (fun a q => if q.1 = p then addC a q.2 else a) (zero n)
def WF (n : Nat) (L : List Pc) : Prop := ∀ q ∈ L, q.2.length = n
def nz (c : Cn) : Bool := c.any fun i => i != 0
theorem look_nil (p : Pt) : look [] p = none := rfl
theorem look_cons (q : Pc) (L : List Pc) (p : Pt) : look (q :: L) p = if q.1 = p then some q.2 else look L p := by
  unfold look
  by_cases e : q.1 = p
  · simp [List.find?_cons, e]
  · simp [List.find?_cons, e]
theorem look_append (L M : List Pc) (p : Pt) : look (L ++ M) p = (look L p).or (look M p) := by
  induction L with
  | nil => simp [look_nil]
  | cons q L ih =>
    rw [List.cons_append, look_cons, look_cons, ih]
    split <;> simp
theorem look_isSome (L : List Pc) (p : Pt) : (look L p).isSome = (L.any fun q => decide (q.1 = p)) := by
  induction L with
  | nil => rfl
  | cons q L ih =>
    rw [look_cons, List.any_cons]
    by_cases e : q.1 = p
    · simp [e]
    · simp [e, ih]
theorem look_mem {L : List Pc} {p : Pt} {c : Cn} (h : look L p = some c) : (p, c) ∈ L := by
  induction L with
  | nil => simp [look_nil] at h
  | cons q L ih =>
    rw [look_cons] at h
    split at h
    · rename_i e
      have h := Option.some.inj h
      have : q = (p, c) := Prod.ext e h
      rw [this]; exact List.mem_cons_self
    · exact List.mem_cons_of_mem _ (ih h)
theorem look_put (L : List Pc) (p r : Pt) (c : Cn) : look (putP L p c) r = if p = r then some c else look L r := by
  unfold putP
  split
  · rename_i h
    rw [← look_isSome] at h
    induction L with
    | nil => simp [look_nil] at h
    | cons q L ih =>
      rw [List.map_cons, look_cons, look_cons]
      by_cases e : q.1 = p
      · simp only [if_pos e]
        by_cases e2 : p = r
        · simp [e, e2]
        · have e3 : ¬ q.1 = r := fun z => e2 (e.symm.trans z)
          simp only [if_neg e2, if_neg e3]
          by_cases h2 : (look L p).isSome = true
          · rw [ih h2, if_neg e2]
          · have : (L.map fun q => if q.1 = p then (q.1, c) else q) = L := by
              rw [look_isSome] at h2
              have h3 : ∀ q ∈ L, ¬ q.1 = p := fun q hq e => h2 (List.any_eq_true.mpr ⟨q, hq, by simp [e]⟩)
              clear ih h h2
              induction L with
              | nil => rfl
              | cons a L ih2 => rw [List.map_cons, if_neg (h3 a List.mem_cons_self), ih2 fun q hq => h3 q (List.mem_cons_of_mem _ hq)]
            rw [this]
      · simp only [if_neg e]
        have h2 : (look L p).isSome = true := by rw [look_cons, if_neg e] at h; exact h
        rw [ih h2]
        by_cases e2 : p = r
        · have e3 : ¬ q.1 = r := fun z => e (z.trans e2.symm)
          simp [e2, e3]
        · simp only [if_neg e2]
  · rename_i h
    rw [look_append, look_cons, look_nil]
    by_cases e : p = r
    · subst e
      have : look L p = none := by
        rw [← look_isSome] at h
        cases z : look L p with
        | none => rfl
        | some c => rw [z] at h; simp at h
      simp [this]
    · simp [e]
theorem put_keys (L : List Pc) (p : Pt) (c : Cn) : (putP L p c).map (·.1) = if (L.any fun q => decide (q.1 = p)) = true then L.map (·.1) else L.map (·.1) ++ [p] := by
  unfold putP
  split
  · rw [List.map_map]
    refine List.map_congr_left fun q _ => ?_
    show (if q.1 = p then (q.1, c) else q).1 = q.1
    split <;> rfl
  · simp
theorem put_nodup {L : List Pc} {p : Pt} {c : Cn} (h : (L.map (·.1)).Nodup) : ((putP L p c).map (·.1)).Nodup := by
  rw [put_keys]
  split
  · exact h
  · rename_i g
    rw [List.nodup_append]
    refine ⟨h, by simp, fun a ha b hb => ?_⟩
    simp at hb
    subst hb
    rintro rfl
    obtain ⟨q, hq, e⟩ := List.mem_map.mp ha
    exact g (List.any_eq_true.mpr ⟨q, hq, by simp [e]⟩)
theorem put_wf {n : Nat} {L : List Pc} {p : Pt} {c : Cn} (h : WF n L) (hc : c.length = n) : WF n (putP L p c) := by
  unfold putP
  split
  · intro q hq
    obtain ⟨r, hr, rfl⟩ := List.mem_map.mp hq
    split
    · exact hc
    · exact h r hr
  · intro q hq
    rcases List.mem_append.mp hq with hq | hq
    · exact h q hq
    · rw [List.mem_singleton] at hq; subst hq; exact hc
theorem put_len (L : List Pc) (p : Pt) (c : Cn) : (putP L p c).length ≤ L.length + 1 := by
  unfold putP; split <;> simp
theorem look_len {n : Nat} {L : List Pc} {p : Pt} {c : Cn} (h : WF n L) (e : look L p = some c) : c.length = n := h _ (look_mem e)
theorem at_len {n : Nat} {L : List Pc} (h : WF n L) (p : Pt) : (at_ n L p).length = n := by
  unfold at_
  cases e : look L p with
  | none => exact zero_len n
  | some c => exact look_len h e
/-! ### merging -/
def mstep (n : Nat) (L : List Pc) (q : Pc) : List Pc := putP L q.1 (addC (at_ n L q.1) q.2)
def mrg (n : Nat) (ps : List Pc) : List Pc := ps.foldl (mstep n) []
theorem mrg_inv {n : Nat} : ∀ (ps : List Pc), WF n ps → ∀ (L : List Pc), WF n L → (L.map (·.1)).Nodup →
    WF n (ps.foldl (mstep n) L) ∧ ((ps.foldl (mstep n) L).map (·.1)).Nodup ∧ (ps.foldl (mstep n) L).length ≤ L.length + ps.length ∧
    ∀ p, at_ n (ps.foldl (mstep n) L) p = ps.foldl (fun a q => if q.1 = p then addC a q.2 else a) (at_ n L p)
  | [], _, L, h, d => ⟨h, d, by simp, fun _ => rfl⟩
  | q :: ps, hp, L, h, d => by
    have hq : q.2.length = n := hp q List.mem_cons_self
    have h1 : WF n (mstep n L q) := put_wf h (addC_len (at_len h _) hq)
    obtain ⟨a1, a2, a3, a4⟩ := mrg_inv ps (fun r hr => hp r (List.mem_cons_of_mem _ hr)) (mstep n L q) h1 (put_nodup d)
    refine ⟨a1, a2, ?_, fun p => ?_⟩
    · have := put_len L q.1 (addC (at_ n L q.1) q.2)
      have e : (mstep n L q).length = (putP L q.1 (addC (at_ n L q.1) q.2)).length := rfl
      rw [List.foldl_cons, List.length_cons]
      omega
    · rw [List.foldl_cons, a4, List.foldl_cons]
      congr 1
      unfold mstep at_
      rw [look_put]
      by_cases e : q.1 = p
      · subst e; simp
      · simp [e]
theorem mrg_wf {n : Nat} {ps : List Pc} (h : WF n ps) : WF n (mrg n ps) := (mrg_inv ps h [] (fun _ q => by cases q) .nil).1
theorem mrg_nodup {n : Nat} {ps : List Pc} (h : WF n ps) : ((mrg n ps).map (·.1)).Nodup := (mrg_inv ps h [] (fun _ q => by cases q) .nil).2.1
theorem mrg_at {n : Nat} {ps : List Pc} (h : WF n ps) (p : Pt) : at_ n (mrg n ps) p = sumAt n ps p := (mrg_inv ps h [] (fun _ q => by cases q) .nil).2.2.2 p
theorem mrg_len {n : Nat} {ps : List Pc} (h : WF n ps) : (mrg n ps).length ≤ ps.length := by have := (mrg_inv ps h [] (fun _ q => by cases q) .nil).2.2.1; unfold mrg; simpa using this

/-! ### the canonical list -/
def Asc (L : List Pc) : Prop := L.Pairwise fun a b => ltP a.1 b.1
structure Can (n : Nat) (L : List Pc) : Prop where
  wf : WF n L
  nz : ∀ q ∈ L, nz q.2 = true
  asc : Asc L
theorem nz_ne {n : Nat} {c : Cn} (h : c.length = n) : nz c = true ↔ c ≠ zero n := by
  constructor
  · rintro h2 rfl
    unfold nz zero at h2
    rw [List.any_replicate] at h2
    simp at h2
  · intro h2
    cases z : nz c with
    | true => rfl
    | false =>
      exfalso
      refine h2 (cn_ext h (zero_len n) fun j hj => ?_)
      rw [zero_get]
      unfold nz at z
      rw [List.any_eq_false] at z
      have hj' : j < c.length := by omega
      have := z c[j] (List.getElem_mem hj')
      rw [List.getD_eq_getElem?_getD, List.getElem?_eq_getElem hj']
      simpa using this
theorem nz_zero (n : Nat) : nz (zero n) = false := by
  cases z : nz (zero n) with
  | false => rfl
  | true => exact absurd rfl ((nz_ne (zero_len n)).1 z)
theorem Asc.look {L : List Pc} (a : Asc L) {q : Pc} (h : q ∈ L) : look L q.1 = some q.2 := by
  induction L with
  | nil => cases h
  | cons r L ih =>
    rw [look_cons]
    unfold Asc at a
    rw [List.pairwise_cons] at a
    rcases List.mem_cons.mp h with rfl | h
    · simp
    · have := a.1 q h
      rw [if_neg fun e => by rw [e] at this; exact this.irr, ih a.2 h]
theorem nodup_look {L : List Pc} (a : (L.map (·.1)).Nodup) {q : Pc} (h : q ∈ L) : look L q.1 = some q.2 := by
  induction L with
  | nil => cases h
  | cons r L ih =>
    rw [look_cons]
    rw [List.map_cons, List.nodup_cons] at a
    rcases List.mem_cons.mp h with rfl | h
    · simp
    · rw [if_neg fun e => a.1 (by rw [e]; exact List.mem_map.mpr ⟨q, h, rfl⟩), ih a.2 h]
theorem Asc.nodup {L : List Pc} (a : Asc L) : (L.map (·.1)).Nodup := by
  rw [List.Nodup, List.pairwise_map]
  exact a.imp fun h e => by rw [e] at h; exact h.irr
/-- what stands at places tells the list -/
theorem Can.mem {n : Nat} {L : List Pc} (h : Can n L) (q : Pc) : q ∈ L ↔ (DL.nz q.2 = true ∧ at_ n L q.1 = q.2) := by
  constructor
  · intro hq
    exact ⟨h.nz q hq, by unfold at_; rw [h.asc.look hq]; rfl⟩
  · rintro ⟨hn, e⟩
    unfold at_ at e
    cases z : DL.look L q.1 with
    | none =>
      rw [z] at e
      have e : zero n = q.2 := e
      rw [← e, nz_zero] at hn
      cases hn
    | some c =>
      rw [z] at e
      have e : c = q.2 := e
      have := look_mem z
      rw [e] at this
      exact this
theorem asc_ext : ∀ {L M : List Pc}, Asc L → Asc M → (∀ q, q ∈ L ↔ q ∈ M) → L = M
  | [], [], _, _, _ => rfl
  | [], q :: _, _, _, h => by have := (h q).2 List.mem_cons_self; cases this
  | q :: _, [], _, _, h => by have := (h q).1 List.mem_cons_self; cases this
  | q :: L, r :: M, a, b, h => by
    unfold Asc at a b
    rw [List.pairwise_cons] at a b
    have e : q = r := by
      rcases List.mem_cons.mp ((h q).1 List.mem_cons_self) with e | h1
      · exact e
      · rcases List.mem_cons.mp ((h r).2 List.mem_cons_self) with e | h2
        · exact e.symm
        · exact absurd ((b.1 q h1).tr (a.1 r h2)) fun z => z.irr
    subst e
    refine congrArg (q :: ·) (asc_ext a.2 b.2 fun s => ?_)
    constructor
    · intro hs
      rcases List.mem_cons.mp ((h s).1 (List.mem_cons_of_mem _ hs)) with e | h1
      · rw [e] at hs; exact absurd (a.1 q hs) fun z => z.irr
      · exact h1
    · intro hs
      rcases List.mem_cons.mp ((h s).2 (List.mem_cons_of_mem _ hs)) with e | h1
      · rw [e] at hs; exact absurd (b.1 q hs) fun z => z.irr
      · exact h1
theorem Can.ext {n : Nat} {L M : List Pc} (h : Can n L) (k : Can n M) (e : ∀ p, at_ n L p = at_ n M p) : L = M :=
  asc_ext h.asc k.asc fun q => by rw [h.mem, k.mem, e]
/-- any arrangement of the merged ones that are not all 0, by place -/
theorem can_of {n : Nat} {ps L : List Pc} (h : WF n ps) (p : L.Perm ((mrg n ps).filter fun q => DL.nz q.2)) (a : Asc L) : Can n L ∧ ∀ r, at_ n L r = sumAt n ps r := by
  have m : ∀ q, q ∈ L ↔ (q ∈ mrg n ps ∧ DL.nz q.2 = true) := fun q => by rw [p.mem_iff, List.mem_filter]
  have c : Can n L := ⟨fun q hq => mrg_wf h q ((m q).1 hq).1, fun q hq => ((m q).1 hq).2, a⟩
  refine ⟨c, fun r => ?_⟩
  rw [← mrg_at h r]
  have nd := mrg_nodup h
  unfold at_
  cases z : DL.look (mrg n ps) r with
  | none =>
    cases y : DL.look L r with
    | none => rfl
    | some d =>
      have := nodup_look nd ((m _).1 (look_mem y)).1
      simp only at this
      rw [z] at this; cases this
  | some d =>
    have hm := look_mem z
    cases y : DL.look L r with
    | none =>
      have dn : DL.nz d = false := by
        cases w : DL.nz d with
        | false => rfl
        | true =>
          have := a.look ((m (r, d)).2 ⟨hm, w⟩)
          simp only at this
          rw [y] at this; cases this
      have dl := mrg_wf h _ hm
      have : ¬ d ≠ zero n := fun z => by rw [(nz_ne dl).2 z] at dn; cases dn
      show zero n = d
      exact (Classical.not_not.mp this).symm
    | some e =>
      have := nodup_look nd ((m _).1 (look_mem y)).1
      simp only at this
      rw [z] at this
      show e = d
      exact (Option.some.inj this).symm
/-- a list that is in its form already -/
theorem sumAt_can_aux {n : Nat} (p : Pt) : ∀ {L : List Pc}, Asc L → WF n L → ∀ a : Cn, a.length = n → L.foldl (fun a q => if q.1 = p then addC a q.2 else a) a = addC a (at_ n L p)
  | [], _, _, a, ha => by unfold at_; rw [look_nil]; exact (add_zero ha).symm
  | q :: L, h, w, a, ha => by
    have h0 := h
    unfold Asc at h
    rw [List.pairwise_cons] at h
    have wL : WF n L := fun r hr => w r (List.mem_cons_of_mem _ hr)
    have hq := w q List.mem_cons_self
    rw [List.foldl_cons]
    unfold at_
    rw [look_cons]
    by_cases e : q.1 = p
    · rw [if_pos e, if_pos e, sumAt_can_aux p h.2 wL _ (addC_len ha hq)]
      have : look L p = none := by
        cases z : look L p with
        | none => rfl
        | some c =>
          have := h.1 _ (look_mem z)
          rw [e] at this
          exact absurd this fun z => z.irr
      unfold at_
      rw [this]
      exact add_zero (addC_len ha hq)
    · rw [if_neg e, if_neg e]
      exact sumAt_can_aux p h.2 wL a ha
theorem sumAt_can {n : Nat} {L : List Pc} (h : Can n L) (p : Pt) : sumAt n L p = at_ n L p := by
  unfold sumAt
  rw [sumAt_can_aux p h.asc h.wf _ (zero_len n), zero_add (at_len h.wf p)]

/-! ### sums over all pieces -/
def tot (n : Nat) (L : List Pc) : Cn := L.foldl (fun a q => addC a q.2) (zero n)
def csum (j : Nat) (L : List Pc) : Int := (L.map fun q => q.2.getD j 0).sum
theorem tot_aux {n : Nat} : ∀ {L : List Pc}, WF n L → ∀ a : Cn, a.length = n → (L.foldl (fun a q => addC a q.2) a).length = n ∧ ∀ j, (L.foldl (fun a q => addC a q.2) a).getD j 0 = a.getD j 0 + csum j L
  | [], _, a, h => ⟨h, fun j => by simp [csum]⟩
  | q :: L, w, a, h => by
    have hq := w q List.mem_cons_self
    obtain ⟨h1, h2⟩ := tot_aux (fun r hr => w r (List.mem_cons_of_mem _ hr)) (addC a q.2) (addC_len h hq)
    refine ⟨h1, fun j => ?_⟩
    rw [List.foldl_cons, h2, addC_get h hq]
    unfold csum
    rw [List.map_cons, List.sum_cons]
    omega
theorem tot_len {n : Nat} {L : List Pc} (w : WF n L) : (tot n L).length = n := (tot_aux w _ (zero_len n)).1
theorem tot_get {n : Nat} {L : List Pc} (w : WF n L) (j : Nat) : (tot n L).getD j 0 = csum j L := by
  unfold tot
  rw [(tot_aux w _ (zero_len n)).2, zero_get]; omega
theorem csum_perm {j : Nat} {L M : List Pc} (p : L.Perm M) : csum j L = csum j M := by
  unfold csum
  induction p with
  | nil => rfl
  | cons x _ ih => simp only [List.map_cons, List.sum_cons, ih]
  | swap x y l => simp only [List.map_cons, List.sum_cons]; omega
  | trans _ _ a b => exact a.trans b
theorem csum_append (j : Nat) (L M : List Pc) : csum j (L ++ M) = csum j L + csum j M := by unfold csum; rw [List.map_append, List.sum_append]
theorem csum_put {n : Nat} {j : Nat} {p : Pt} {c : Cn} (hc : c.length = n) : ∀ {L : List Pc}, WF n L → (L.map (·.1)).Nodup → csum j (putP L p (addC (at_ n L p) c)) = csum j L + c.getD j 0
  | L, w, nd => by
    have key : ∀ (M : List Pc), WF n M → (M.map (·.1)).Nodup → ∀ d : Cn, (M.any fun q => decide (q.1 = p)) = true → csum j (M.map fun q => if q.1 = p then (q.1, d) else q) + (at_ n M p).getD j 0 = csum j M + d.getD j 0 := by
      intro M
      induction M with
      | nil => intro _ _ d h; simp at h
      | cons q M ih =>
        intro w nd d h
        rw [List.map_cons, List.nodup_cons] at nd
        unfold at_
        rw [look_cons]
        by_cases e : q.1 = p
        · have no : ∀ r ∈ M, ¬ r.1 = p := fun r hr z => nd.1 (by rw [e, ← z]; exact List.mem_map.mpr ⟨r, hr, rfl⟩)
          have same : (M.map fun q => if q.1 = p then (q.1, d) else q) = M := by
            have : ∀ r ∈ M, (if r.1 = p then (r.1, d) else r) = r := fun r hr => if_neg (no r hr)
            exact (List.map_congr_left this).trans (List.map_id' M)
          rw [if_pos e]
          simp only [List.map_cons, if_pos e]
          rw [same]
          unfold csum
          simp only [List.map_cons, List.sum_cons, Option.getD_some]
          omega
        · rw [if_neg e]
          rw [List.any_cons] at h
          have h2 : (M.any fun q => decide (q.1 = p)) = true := by simpa [e] using h
          have := ih (fun r hr => w r (List.mem_cons_of_mem _ hr)) nd.2 d h2
          unfold at_ at this
          simp only [List.map_cons, if_neg e]
          unfold csum at this ⊢
          simp only [List.map_cons, List.sum_cons]
          omega
    have hl := at_len w p
    have ga := addC_get hl hc j
    unfold putP
    split
    · rename_i h
      have := key L w nd (addC (at_ n L p) c) h
      omega
    · rename_i h
      have hz : at_ n L p = zero n := by
        unfold at_
        rw [← look_isSome] at h
        cases z : look L p with
        | none => rfl
        | some d => rw [z] at h; simp at h
      rw [csum_append, hz, zero_add hc]
      unfold csum
      simp
theorem csum_mrg_aux {n j : Nat} : ∀ {ps : List Pc}, WF n ps → ∀ {L : List Pc}, WF n L → (L.map (·.1)).Nodup → csum j (ps.foldl (mstep n) L) = csum j L + csum j ps
  | [], _, L, _, _ => by simp [csum]
  | q :: ps, w, L, h, nd => by
    have hq := w q List.mem_cons_self
    rw [List.foldl_cons, csum_mrg_aux (fun r hr => w r (List.mem_cons_of_mem _ hr)) (L := mstep n L q) (put_wf h (addC_len (at_len h _) hq)) (put_nodup nd)]
    have : csum j (mstep n L q) = csum j L + q.2.getD j 0 := csum_put hq h nd
    rw [this]
    unfold csum
    rw [List.map_cons, List.sum_cons]
    omega
theorem csum_mrg {n j : Nat} {ps : List Pc} (h : WF n ps) : csum j (mrg n ps) = csum j ps := by
  unfold mrg
  rw [csum_mrg_aux h (L := []) (fun _ q => by cases q) .nil]
  simp [csum]
theorem csum_filter {n j : Nat} : ∀ {L : List Pc}, WF n L → csum j (L.filter fun q => DL.nz q.2) = csum j L
  | [], _ => rfl
  | q :: L, w => by
    have ih := csum_filter (j := j) fun r hr => w r (List.mem_cons_of_mem _ hr)
    have hq := w q List.mem_cons_self
    rw [List.filter_cons]
    split
    · unfold csum at ih ⊢
      rw [List.map_cons, List.map_cons, List.sum_cons, List.sum_cons, ih]
    · rename_i h
      have e : q.2 = zero n := Classical.not_not.mp fun z => h ((nz_ne hq).2 z)
      rw [ih]
      unfold csum
      rw [List.map_cons, List.sum_cons, e, zero_get]
      omega
theorem csum_can {n j : Nat} {ps L : List Pc} (h : WF n ps) (p : L.Perm ((mrg n ps).filter fun q => DL.nz q.2)) : csum j L = csum j ps := by
  rw [csum_perm p, csum_filter (mrg_wf h), csum_mrg h]
theorem tot_can {n : Nat} {ps L : List Pc} (h : WF n ps) (w : WF n L) (p : L.Perm ((mrg n ps).filter fun q => DL.nz q.2)) : tot n L = tot n ps :=
  cn_ext (tot_len w) (tot_len h) fun j _ => by rw [tot_get w, tot_get h, csum_can h p]
/-! ### moved -/
def mvP (d p : Pt) : Pt := (p.1 + d.1, p.2 + d.2)
def mvL (d : Pt) (L : List Pc) : List Pc := L.map fun q => (mvP d q.1, q.2)
theorem mvP_inj {d p q : Pt} (h : mvP d p = mvP d q) : p = q := by
  unfold mvP at h
  rw [Prod.mk.injEq] at h
  exact Prod.ext (by omega) (by omega)
theorem mv_can {n : Nat} {L : List Pc} (d : Pt) (h : Can n L) : Can n (mvL d L) := by
  refine ⟨fun q hq => ?_, fun q hq => ?_, ?_⟩
  · obtain ⟨r, hr, rfl⟩ := List.mem_map.mp hq
    exact h.wf r hr
  · obtain ⟨r, hr, rfl⟩ := List.mem_map.mp hq
    exact h.nz r hr
  · unfold Asc mvL
    rw [List.pairwise_map]
    refine h.asc.imp fun {a b} h => ?_
    show ltP (mvP d a.1) (mvP d b.1)
    unfold ltP mvP at *
    simp only
    omega
theorem mv_csum (j : Nat) (d : Pt) (L : List Pc) : csum j (mvL d L) = csum j L := by
  unfold csum mvL
  rw [List.map_map]; rfl
theorem mv_at (n : Nat) (d : Pt) (L : List Pc) (p : Pt) : at_ n (mvL d L) (mvP d p) = at_ n L p := by
  have : look (mvL d L) (mvP d p) = look L p := by
    induction L with
    | nil => rfl
    | cons q L ih =>
      show look ((mvP d q.1, q.2) :: mvL d L) (mvP d p) = _
      rw [look_cons, look_cons, ih]
      by_cases e : q.1 = p
      · simp [e]
      · rw [if_neg e, if_neg fun z => e (mvP_inj z)]
  unfold at_
  rw [this]
/-- the velocity: counts by pulls -/
def spd (f : Pt → Int) (V : List Pt) (t : Cn) : Int := (List.zipWith (fun c v => c * f v) t V).sum
end DL

/-! DP2: the canonical list as a function; counts by pulls. -/
namespace DL
def leB (a b : Pc) : Bool := decide (ltP a.1 b.1 ∨ a.1 = b.1)
theorem leB_tr (a b c : Pc) (h : leB a b = true) (k : leB b c = true) : leB a c = true := by
  unfold leB at *
  simp only [decide_eq_true_eq] at *
  rcases h with h | h
  · rcases k with k | k
    · exact .inl (h.tr k)
    · exact .inl (k ▸ h)
  · rw [h]; exact k
theorem leB_tot (a b : Pc) : (leB a b || leB b a) = true := by
  unfold leB
  simp only [Bool.or_eq_true, decide_eq_true_eq]
  rcases ltP.tri a.1 b.1 with h | h | h
  · exact .inl (.inl h)
  · exact .inl (.inr h)
  · exact .inr (.inl h)
def canon (n : Nat) (ps : List Pc) : List Pc := ((mrg n ps).filter fun q => nz q.2).mergeSort leB
theorem canon_perm (n : Nat) (ps : List Pc) : (canon n ps).Perm ((mrg n ps).filter fun q => nz q.2) := List.mergeSort_perm _ _
theorem canon_asc {n : Nat} {ps : List Pc} (h : WF n ps) : Asc (canon n ps) := by
  have s : (canon n ps).Pairwise fun a b => leB a b = true := List.pairwise_mergeSort leB_tr leB_tot _
  have nd : ((canon n ps).map (·.1)).Nodup := by
    have p := (canon_perm n ps).map (·.1)
    refine p.nodup_iff.2 ?_
    exact List.Nodup.sublist (List.Sublist.map _ List.filter_sublist) (mrg_nodup h)
  rw [List.Nodup, List.pairwise_map] at nd
  refine (s.and nd).imp fun {a b} h => ?_
  obtain ⟨h1, h2⟩ := h
  unfold leB at h1
  simp only [decide_eq_true_eq] at h1
  exact h1.resolve_right h2
theorem canon_can {n : Nat} {ps : List Pc} (h : WF n ps) : Can n (canon n ps) := (can_of h (canon_perm n ps) (canon_asc h)).1
theorem canon_at {n : Nat} {ps : List Pc} (h : WF n ps) (p : Pt) : at_ n (canon n ps) p = sumAt n ps p := (can_of h (canon_perm n ps) (canon_asc h)).2 p
theorem canon_tot {n : Nat} {ps : List Pc} (h : WF n ps) : tot n (canon n ps) = tot n ps := tot_can h (canon_can h).wf (canon_perm n ps)
theorem canon_csum {n j : Nat} {ps : List Pc} (h : WF n ps) : csum j (canon n ps) = csum j ps := csum_can h (canon_perm n ps)
theorem canon_uniq {n : Nat} {ps L : List Pc} (h : WF n ps) (p : L.Perm ((mrg n ps).filter fun q => nz q.2)) (a : Asc L) : L = canon n ps := by
  obtain ⟨c, e⟩ := can_of h p a
  exact c.ext (canon_can h) fun r => by rw [e, canon_at h]
theorem canon_self {n : Nat} {L : List Pc} (h : Can n L) : canon n L = L :=
  (canon_can h.wf).ext h fun r => by rw [canon_at h.wf, sumAt_can h]
theorem canon_ext {n : Nat} {ps qs : List Pc} (h : WF n ps) (k : WF n qs) (e : ∀ p, sumAt n ps p = sumAt n qs p) : canon n ps = canon n qs :=
  (canon_can h).ext (canon_can k) fun r => by rw [canon_at h, canon_at k, e]
theorem canon_len {n : Nat} {ps : List Pc} (h : WF n ps) : (canon n ps).length ≤ ps.length := by
  rw [(canon_perm n ps).length_eq]
  exact Nat.le_trans (List.length_filter_le _ _) (mrg_len h)
theorem sumAt_len {n : Nat} : ∀ {ps : List Pc}, WF n ps → ∀ p : Pt, (sumAt n ps p).length = n := fun h p => by rw [← canon_at h]; exact at_len (canon_can h).wf p
/-! ### counts by numbers -/
def dot (c A : List Int) : Int := (List.zipWith (· * ·) c A).sum
theorem dot_add : ∀ {a b A : List Int}, a.length = A.length → b.length = A.length → dot (addC a b) A = dot a A + dot b A
  | [], _, [], _, _ => by unfold dot addC; simp
  | [], _, _ :: _, h, _ => by simp at h
  | _ :: _, [], [], h, _ => by simp at h
  | _ :: _, [], _ :: _, _, k => by simp at k
  | _ :: _, _ :: _, [], h, _ => by simp at h
  | x :: a, y :: b, z :: A, h, k => by
    have ih := dot_add (a := a) (b := b) (A := A) (by simpa using h) (by simpa using k)
    unfold dot addC at ih ⊢
    simp only [List.zipWith_cons_cons, List.sum_cons]
    rw [ih, Int.add_mul]
    omega
theorem dot_zero : ∀ A : List Int, dot (zero A.length) A = 0
  | [] => rfl
  | z :: A => by
    have ih := dot_zero A
    unfold dot zero at ih ⊢
    simp only [List.length_cons, List.replicate_succ, List.zipWith_cons_cons, List.sum_cons, ih]
    omega
theorem tot_snoc (n : Nat) (L : List Pc) (q : Pc) : tot n (L ++ [q]) = addC (tot n L) q.2 := by unfold tot; rw [List.foldl_append]; rfl
theorem dot_tot_aux {A : List Int} : ∀ {L : List Pc}, WF A.length L → ∀ a : Cn, a.length = A.length → dot (L.foldl (fun a q => addC a q.2) a) A = dot a A + (L.map fun q => dot q.2 A).sum
  | [], _, a, _ => by simp
  | q :: L, w, a, h => by
    have hq := w q List.mem_cons_self
    rw [List.foldl_cons, dot_tot_aux (fun r hr => w r (List.mem_cons_of_mem _ hr)) _ (addC_len h hq), dot_add h hq, List.map_cons, List.sum_cons]
    omega
theorem dot_tot {A : List Int} {L : List Pc} (w : WF A.length L) : dot (tot A.length L) A = (L.map fun q => dot q.2 A).sum := by
  unfold tot
  rw [dot_tot_aux w _ (zero_len _), dot_zero]
  omega
/-- counts of one piece -/
def one (n k : Nat) : Cn := (List.range n).map fun j => if k = j then 1 else 0
theorem one_len (n k : Nat) : (one n k).length = n := by simp [one]
theorem dot_one_aux : ∀ (A : List Int) (s k : Nat), ((List.zipWith (· * ·) ((List.range' s A.length).map fun j => if k = j then (1 : Int) else 0) A).sum) = if s ≤ k then A.getD (k - s) 0 else 0
  | [], s, k => by simp
  | z :: A, s, k => by
    have ih := dot_one_aux A (s + 1) k
    simp only [List.length_cons, List.range'_succ, List.map_cons, List.zipWith_cons_cons, List.sum_cons]
    rw [ih]
    by_cases e : k = s
    · subst e
      have : ¬ k + 1 ≤ k := by omega
      simp [this]
    · rw [if_neg e]
      by_cases h : s + 1 ≤ k
      · rw [if_pos h, if_pos (by omega)]
        have : k - s = (k - (s + 1)) + 1 := by omega
        rw [this]
        simp
      · rw [if_neg h, if_neg (by omega)]
        omega
theorem dot_one (A : List Int) (k : Nat) : dot (one A.length k) A = A.getD k 0 := by
  unfold dot one
  rw [List.range_eq_range']
  have := dot_one_aux A 0 k
  simpa using this
theorem dot_eq : ∀ (c A : List Int), c.length = A.length → dot c A = ((List.range A.length).map fun k => c.getD k 0 * A.getD k 0).sum
  | [], [], _ => rfl
  | [], _ :: _, h => by simp at h
  | _ :: _, [], h => by simp at h
  | x :: c, z :: A, h => by
    have ih := dot_eq c A (by simpa using h)
    unfold dot at ih ⊢
    rw [List.zipWith_cons_cons, List.sum_cons, ih, List.length_cons, List.range_succ_eq_map, List.map_cons, List.map_map, List.sum_cons]
    rfl
end DL

/-! DP3: sums at a place, rearranged, with more pieces. -/
namespace DL
def cat (j : Nat) (p : Pt) (L : List Pc) : Int := (L.map fun q => if q.1 = p then q.2.getD j 0 else 0).sum
theorem sumAt_get_aux {n : Nat} (p : Pt) (j : Nat) : ∀ {ps : List Pc}, WF n ps → ∀ a : Cn, a.length = n → (ps.foldl (fun a q => if q.1 = p then addC a q.2 else a) a).getD j 0 = a.getD j 0 + cat j p ps
  | [], _, a, _ => by simp [cat]
  | q :: ps, w, a, h => by
    have hq := w q List.mem_cons_self
    have wp : WF n ps := fun r hr => w r (List.mem_cons_of_mem _ hr)
    rw [List.foldl_cons]
    unfold cat
    rw [List.map_cons, List.sum_cons]
    by_cases e : q.1 = p
    · rw [if_pos e, if_pos e, sumAt_get_aux p j wp _ (addC_len h hq), addC_get h hq]
      unfold cat
      omega
    · rw [if_neg e, if_neg e, sumAt_get_aux p j wp a h]
      unfold cat
      omega
theorem sumAt_get {n : Nat} {ps : List Pc} (w : WF n ps) (p : Pt) (j : Nat) : (sumAt n ps p).getD j 0 = cat j p ps := by
  unfold sumAt
  rw [sumAt_get_aux p j w _ (zero_len n), zero_get]
  omega
theorem cat_perm {j : Nat} {p : Pt} {L M : List Pc} (h : L.Perm M) : cat j p L = cat j p M := by
  unfold cat
  induction h with
  | nil => rfl
  | cons x _ ih => simp only [List.map_cons, List.sum_cons, ih]
  | swap x y l => simp only [List.map_cons, List.sum_cons]; omega
  | trans _ _ a b => exact a.trans b
theorem cat_append (j : Nat) (p : Pt) (L M : List Pc) : cat j p (L ++ M) = cat j p L + cat j p M := by unfold cat; rw [List.map_append, List.sum_append]
theorem wf_perm {n : Nat} {L M : List Pc} (h : L.Perm M) (w : WF n L) : WF n M := fun q hq => w q (h.mem_iff.2 hq)
theorem wf_append {n : Nat} {L M : List Pc} (w : WF n L) (v : WF n M) : WF n (L ++ M) := fun q hq => (List.mem_append.mp hq).elim (w q) (v q)
theorem canon_perm_eq {n : Nat} {L M : List Pc} (h : L.Perm M) (w : WF n L) : canon n L = canon n M := by
  have v := wf_perm h w
  exact canon_ext w v fun p => cn_ext (sumAt_len w p) (sumAt_len v p) fun j _ => by rw [sumAt_get w, sumAt_get v, cat_perm h]
/-- one piece more at a place, its counts not all 0: another state -/
theorem canon_more_ne {n : Nat} {L : List Pc} {p : Pt} {c : Cn} (w : WF n L) (hc : c.length = n) (hz : c ≠ zero n) : canon n (L ++ [(p, c)]) ≠ canon n L := by
  intro e
  have v : WF n (L ++ [(p, c)]) := wf_append w fun q hq => by rw [List.mem_singleton] at hq; rw [hq]; exact hc
  have h := congrArg (fun M => at_ n M p) e
  simp only [canon_at w, canon_at v] at h
  apply hz
  refine cn_ext hc (zero_len n) fun j _ => ?_
  have hj := congrArg (fun c : Cn => c.getD j 0) h
  simp only [sumAt_get w, sumAt_get v, cat_append] at hj
  rw [zero_get]
  have e1 : cat j p [(p, c)] = c.getD j 0 := by unfold cat; simp
  rw [e1] at hj
  omega
theorem canon_mv {n : Nat} {L : List Pc} (d : Pt) (h : Can n L) : canon n (mvL d L) = mvL d L := canon_self (mv_can d h)
theorem mv_wf {n : Nat} {L : List Pc} (d : Pt) (h : WF n L) : WF n (mvL d L) := fun q hq => by
  obtain ⟨r, hr, rfl⟩ := List.mem_map.mp hq
  exact h r hr
theorem tot_get' {n : Nat} {L : List Pc} (w : WF n L) {j : Nat} (h : j < n) : (tot n L)[j]? = some (csum j L) := by
  have h2 : j < (tot n L).length := by rw [tot_len w]; exact h
  rw [List.getElem?_eq_getElem h2, ← tot_get w j, List.getD_eq_getElem?_getD, List.getElem?_eq_getElem h2]
  rfl
theorem tot_eq {n : Nat} {L : List Pc} (w : WF n L) : tot n L = (List.range n).map fun k => csum k L := by
  refine List.ext_getElem? fun j => ?_
  by_cases h : j < n
  · rw [tot_get' w h, List.getElem?_map, List.getElem?_range h]; rfl
  · rw [List.getElem?_eq_none (by rw [tot_len w]; omega), List.getElem?_eq_none (by simp; omega)]
theorem tot_mv {n : Nat} {L : List Pc} (d : Pt) (w : WF n L) : tot n (mvL d L) = tot n L :=
  cn_ext (tot_len (mv_wf d w)) (tot_len w) fun j _ => by rw [tot_get (mv_wf d w), tot_get w, mv_csum]
end DL

/-! DP4: places with counts as data. -/
namespace DL
open PySem L2
def vt (p : Pt) : D := .tup [.int p.1, .int p.2]
def ct (c : Cn) : D := .tup (c.map .int)
def pt (q : Pc) : D := .tup [vt q.1, ct q.2]
def keyP (p : Pt) : List Key := [.inl p.1, .inl p.2]
def kd (q : Pc) : List Key × D := (keyP q.1, ct q.2)
theorem keyP_inj {p q : Pt} : keyP p = keyP q ↔ p = q := by
  obtain ⟨a, b⟩ := p
  obtain ⟨c, d⟩ := q
  simp [keyP]
theorem keysOf_vt (p : Pt) : keysOf [.int p.1, .int p.2] = some (keyP p) := rfl
theorem keyTD_vt (p : Pt) : keyTD (vt p) = some (keyP p) := rfl
theorem valD_kd (p : Pt) : ∀ L : List Pc, valD (L.map kd) (keyP p) = (look L p).map ct
  | [] => rfl
  | q :: L => by
    rw [List.map_cons, valD_cons, look_cons, valD_kd p L]
    show (if keyP q.1 = keyP p then some (ct q.2) else _) = _
    by_cases e : q.1 = p
    · rw [if_pos (keyP_inj.2 e), if_pos e]; rfl
    · rw [if_neg (fun z => e (keyP_inj.1 z)), if_neg e]
theorem any_kd (p : Pt) : ∀ L : List Pc, ((L.map kd).any fun kv => decide (kv.1 = keyP p)) = (L.any fun q => decide (q.1 = p))
  | [] => rfl
  | q :: L => by
    rw [List.map_cons, List.any_cons, List.any_cons, any_kd p L]
    congr 1
    exact decide_eq_decide.2 keyP_inj
theorem putD_kd (p : Pt) (c : Cn) (L : List Pc) : putD (L.map kd) (keyP p) (ct c) = (putP L p c).map kd := by
  unfold putD putP
  rw [any_kd]
  split
  · rw [List.map_map, List.map_map]
    refine List.map_congr_left fun q _ => ?_
    show (if keyP q.1 = keyP p then (keyP q.1, ct c) else (keyP q.1, ct q.2)) = kd (if q.1 = p then (q.1, c) else q)
    by_cases e : q.1 = p
    · rw [if_pos (keyP_inj.2 e), if_pos e]; rfl
    · rw [if_neg (fun z => e (keyP_inj.1 z)), if_neg e]; rfl
  · simp [kd]
theorem getK_kd (L : List Pc) (p : Pt) : getK (.dt (L.map kd)) (vt p) = some ((look L p).map ct) := by
  show (keysOf [.int p.1, .int p.2]).map (valD (L.map kd) ·) = _
  rw [keysOf_vt, Option.map_some, valD_kd]
theorem putKD_kd (L : List Pc) (p : Pt) (c : Cn) : putKD (.dt (L.map kd)) (vt p) (ct c) = some (.dt ((putP L p c).map kd)) := by
  show ((keysOf [.int p.1, .int p.2]).map fun k => D.dt (putD (L.map kd) k (ct c))) = _
  rw [keysOf_vt, Option.map_some, putD_kd]
theorem dInts_map : ∀ c : List Int, dInts (c.map .int) = some c
  | [] => rfl
  | i :: c => by
    rw [List.map_cons]
    show (dInts (c.map .int)).map (i :: ·) = _
    rw [dInts_map c]; rfl
theorem dBools_map : ∀ c : List Bool, dBools (c.map .bl) = some c
  | [] => rfl
  | i :: c => by
    rw [List.map_cons]
    show (dBools (c.map .bl)).map (i :: ·) = _
    rw [dBools_map c]; rfl
theorem keyD_pt (q : Pc) : keyD (pt q) = some q.1 := rfl
theorem itemD_kd (q : Pc) : itemD (kd q) = pt q := rfl
theorem pairKs_kd (L : List Pc) : pairKs (L.map kd) := fun e he => by
  obtain ⟨q, _, rfl⟩ := List.mem_map.mp he
  rfl
theorem lexB_ltP {p q : Pt} : SrtO.lexB p q = true ↔ ltP p q := SrtO.lexB_iff
theorem ltK_pt {q r : Pc} : ltK (pt q) (pt r) ↔ ltP q.1 r.1 := by
  constructor
  · rintro ⟨a, b, h1, h2, h⟩
    rw [keyD_pt] at h1 h2
    cases h1; cases h2
    exact lexB_ltP.1 h
  · intro h
    exact ⟨_, _, keyD_pt q, keyD_pt r, lexB_ltP.2 h⟩
/-- any arrangement by place of pieces is the arrangement of them -/
theorem perm_pt {es : List D} {L : List Pc} (h : es.Perm (L.map pt)) : ∃ M : List Pc, es = M.map pt ∧ M.Perm L := by
  have key : ∀ {es fs : List D}, es.Perm fs → ∀ L : List Pc, fs = L.map pt → ∃ M : List Pc, es = M.map pt ∧ M.Perm L := by
    intro es fs h
    induction h with
    | nil => intro L e; have : L = [] := by simpa using e.symm
             subst this; exact ⟨[], rfl, .nil⟩
    | cons x _ ih =>
      intro L e
      cases L with
      | nil => simp at e
      | cons q L =>
        rw [List.map_cons, List.cons.injEq] at e
        obtain ⟨rfl, e⟩ := e
        obtain ⟨M, rfl, p⟩ := ih L e
        exact ⟨q :: M, rfl, p.cons q⟩
    | swap x y l =>
      intro L e
      cases L with
      | nil => simp at e
      | cons q L =>
        cases L with
        | nil => simp at e
        | cons r L =>
          rw [List.map_cons, List.map_cons, List.cons.injEq, List.cons.injEq] at e
          obtain ⟨rfl, rfl, rfl⟩ := e
          exact ⟨r :: q :: L, rfl, .swap q r L⟩
    | trans _ _ a b =>
      intro L e
      obtain ⟨M, rfl, p⟩ := b L e
      obtain ⟨N, rfl, p'⟩ := a M rfl
      exact ⟨N, rfl, p'.trans p⟩
  exact key h L rfl
theorem asc_pt {M : List Pc} (h : (M.map pt).Pairwise ltK) : Asc M := by
  rw [List.pairwise_map] at h
  exact h.imp fun h => ltK_pt.1 h
theorem atI_map {α : Type} {f : α → D} {l : List α} {i : Nat} {x : α} (h : l[i]? = some x) (k : D → Prop) : (∃ d, atI (l.map f) (i : Int) = some d ∧ k d) = k (f x) :=
  ix_at (by rw [List.getElem?_map, h]; rfl) k
theorem flatten_rep (n : Nat) : (List.replicate n [D.int 0]).flatten = (zero n).map D.int := by
  unfold zero
  induction n with
  | zero => rfl
  | succ n ih => rw [List.replicate_succ, List.flatten_cons, ih]; rfl
end DL

/-! DP5: more readings evaluated; comprehensions over encoded lists. -/
namespace DL
open PySem L2
@[simp ↓] theorem gMax2_int (i j : Int) (k) : gMax2 [.int i, .int j] k = k (.int (if j > i then j else i)) := (rfl)
@[simp ↓] theorem gMul_tupI (a : List D) (j : Int) (k) : gMul (.tup a) (.int j) k = ((a ≠ [] ∧ a.length ≤ 1000 ∧ 1 ≤ j ∧ j ≤ 1000) ∧ k (.tup (List.replicate j.toNat a).flatten)) := (rfl)
@[simp ↓] theorem gLen_ct (c : Cn) (k) : gLen [ct c] k = k (.int c.length) := by
  show k (.int (c.map D.int).length) = _
  rw [List.length_map]
theorem gAll_bls {bs : List Bool} {k : D → Prop} (h : k (.bl (bs.all id))) : gAll [.lst (bs.map .bl)] k := ⟨_, _, _, rfl, rfl, dBools_map bs, h⟩
theorem gAnyI_ints {c : List Int} {k : D → Prop} (h : k (.bl (c.any fun n => n != 0))) : gAnyI [.lst (c.map .int)] k := ⟨_, _, _, rfl, rfl, dInts_map c, h⟩
theorem gSum_ints {c : List Int} {k : D → Prop} (h : k (.int c.sum)) : gSum [.lst (c.map .int)] k := ⟨_, _, _, rfl, rfl, dInts_map c, h⟩
theorem gList_ct {c : Cn} {k : D → Prop} (h : k (.lst (c.map .int))) : gList [ct c] k := ⟨_, _, rfl, .inl rfl, h⟩
theorem gLt_vt {p q : Pt} {k : D → Prop} (h : k (.bl (decide (ltP p q)))) : gLt (vt p) (vt q) k := by
  refine ⟨_, _, [p.1, p.2], [q.1, q.2], rfl, rfl, rfl, rfl, ?_⟩
  have e : HT.lexLt [p.1, p.2] [q.1, q.2] = decide (ltP p q) := by
    unfold ltP
    by_cases h1 : p.1 < q.1
    · have h2 : p.1 ≠ q.1 := by omega
      simp [HT.lexLt, h1, h2]
    · by_cases h2 : p.1 = q.1
      · by_cases h3 : p.2 < q.2
        · have h4 : p.2 ≠ q.2 := by omega
          simp [HT.lexLt, h2, h3, h4]
        · simp [HT.lexLt, h2, h3]
      · simp [HT.lexLt, h1, h2]
  rw [e]; exact h
theorem gEqU_same {d : D} {a : PyData} {k : D → Prop} (h : pd d = some a) (s : SeqAt.shaped a = true) (r : PyData.eqv a a = true) (e : empty2 d d = none) (q : k (.bl true)) : gEqU d d k := by
  unfold gEqU
  rw [e]
  exact ⟨a, a, h, h, s, s, by rw [r]; exact q⟩
theorem gNeU_same {d : D} {a : PyData} {k : D → Prop} (h : pd d = some a) (s : SeqAt.shaped a = true) (r : PyData.eqv a a = true) (e : empty2 d d = none) (q : k (.bl false)) : gNeU d d k := by
  unfold gNeU
  rw [e]
  exact ⟨a, a, h, h, s, s, by rw [r]; exact q⟩
theorem zipD_map {α β : Type} (f : α → D) (g : β → D) (a : List α) (b : List β) : zipD (a.map f) (b.map g) = (List.zip a b).map fun p => D.tup [f p.1, g p.2] := by
  unfold zipD
  rw [List.zipWith_map, List.zip, List.map_zipWith]
theorem compL_of {α : Type} {vs : List Nat} {g : FG} {T : FT} {E : FE} {post : Post} {ρ : Env} (enc : α → D) (p : α → Bool) (f : α → D) : ∀ (xs : List α) (acc : List D), acc.length + xs.length ≤ 1000000 →
    (∀ x ∈ xs, ∀ (Pst : D → Env → Prop) (N : Env → Prop), (p x = true → ∀ ρ3, unwipe ρ ρ3 vs = ρ → Pst (f x) ρ3) → (p x = false → ∀ ρ2, unwipe ρ ρ2 vs = ρ → N ρ2) →
      g (enc x) (wipeE ρ vs) fun ρ1 => T ρ1 (fun b ρ2 => if b = true then E ρ2 Pst noX else N ρ2) noX) →
    post (.lst (acc ++ (xs.filter p).map f)) ρ → compL vs g T E post (xs.map enc) acc ρ
  | [], acc, _, _, q => by simpa [compL] using q
  | d :: ds, acc, hl, h, q => by
    rw [List.map_cons]
    unfold compL
    simp only [List.length_cons] at hl
    refine h d List.mem_cons_self _ _ (fun hp ρ3 e => ⟨by omega, ?_⟩) (fun hp ρ2 e => ?_)
    · rw [e]
      refine compL_of enc p f ds (acc ++ [f d]) (by simp; omega) (fun x hx => h x (List.mem_cons_of_mem _ hx)) ?_
      rw [List.filter_cons, if_pos hp, List.map_cons] at q
      simpa using q
    · rw [e]
      refine compL_of enc p f ds acc (by omega) (fun x hx => h x (List.mem_cons_of_mem _ hx)) ?_
      rw [List.filter_cons, if_neg (by rw [hp]; simp)] at q
      exact q
/-- without a test -/
theorem compL_as {α : Type} {vs : List Nat} {g : FG} {E : FE} {post : Post} {ρ : Env} (enc : α → D) (f : α → D) (xs : List α) (hl : xs.length ≤ 1000000)
    (h : ∀ x ∈ xs, ∀ (Pst : D → Env → Prop), (∀ ρ3, unwipe ρ ρ3 vs = ρ → Pst (f x) ρ3) → g (enc x) (wipeE ρ vs) fun ρ1 => E ρ1 Pst noX)
    (q : post (.lst (xs.map f)) ρ) : compL vs g tYesD E post (xs.map enc) [] ρ := by
  refine compL_of enc (fun _ => true) f xs [] (by simpa using hl) (fun d hd Pst N h1 h2 => ?_) (by rw [List.nil_append, List.filter_eq_self.2 (fun _ _ => rfl)]; exact q)
  have := h d hd Pst (h1 rfl)
  simpa [tYesD] using this
theorem dcL_of {α : Type} {vs : List Nat} {g : FG} {T : FT} {Ek Ev : FE} {post : Post} {ρ : Env} (enc : α → D) (p : α → Bool) (fk : α → List Key) (fv : α → D) : ∀ (xs : List α) (acc : List (List Key × D)), acc.length + xs.length ≤ 1000000 →
    (∀ x ∈ xs, ∀ (R : List Key → D → Env → Prop) (N : Env → Prop), (p x = true → ∀ ρ3, unwipe ρ ρ3 vs = ρ → R (fk x) (fv x) ρ3) → (p x = false → ∀ ρ2, unwipe ρ ρ2 vs = ρ → N ρ2) →
      g (enc x) (wipeE ρ vs) fun ρ1 => T ρ1 (fun b ρ2 => if b = true then Ek ρ2 (fun kd ρ3 => Ev ρ3 (fun y ρ4 => ∃ k, keyTD kd = some k ∧ R k y ρ4) noX) noX else N ρ2) noX) →
    post (.dt ((xs.filter p).foldl (fun a d => putD a (fk d) (fv d)) acc)) ρ → dcL vs g T Ek Ev post (xs.map enc) acc ρ
  | [], acc, _, _, q => by simpa [dcL] using q
  | d :: ds, acc, hl, h, q => by
    rw [List.map_cons]
    unfold dcL
    simp only [List.length_cons] at hl
    refine h d List.mem_cons_self (fun k y ρ4 => acc.length < 1000000 ∧ dcL vs g T Ek Ev post (ds.map enc) (putD acc k y) (unwipe ρ ρ4 vs)) _ (fun hp ρ3 e => ⟨by omega, ?_⟩) (fun hp ρ2 e => ?_)
    · rw [e]
      have lp : (putD acc (fk d) (fv d)).length ≤ acc.length + 1 := by unfold putD; split <;> simp
      refine dcL_of enc p fk fv ds _ (by omega) (fun x hx => h x (List.mem_cons_of_mem _ hx)) ?_
      rw [List.filter_cons, if_pos hp, List.foldl_cons] at q
      exact q
    · rw [e]
      refine dcL_of enc p fk fv ds acc (by omega) (fun x hx => h x (List.mem_cons_of_mem _ hx)) ?_
      rw [List.filter_cons, if_neg (by rw [hp]; simp)] at q
      exact q
/-- a for over an encoded list, the environment told by a fold -/
theorem loop_of {α β : Type} {g : FG} {B : FS} {S : SPo} (enc : α → D) (R : β → Env → Prop) (step : β → α → β) (Ok : β → Prop) : ∀ (xs : List α) (b : β) (ρ : Env), R b ρ →
    (∀ x ∈ xs, ∀ b ρ (N : Env → Prop), R b ρ → (∀ ρ', R (step b x) ρ' → N ρ') → g (enc x) ρ fun ρ1 => B ρ1 (S.lp N)) → (∀ ρ', R (xs.foldl step b) ρ' → S.nx ρ') → loopL g B S (xs.map enc) ρ
  | [], b, ρ, r, _, q => q ρ r
  | x :: xs, b, ρ, r, h, q => by
    rw [List.map_cons]
    unfold loopL
    exact h x List.mem_cons_self b ρ _ r fun ρ' r' => loop_of enc R step Ok xs (step b x) ρ' r' (fun y hy => h y (List.mem_cons_of_mem _ hy)) q
end DL

/-! DP6: counts compared, pieces sorted. -/
namespace DL
open PySem L2
theorem pdL_ints : ∀ c : List Int, pdL (c.map D.int) = some (c.map PyData.int)
  | [] => by simp [pdL]
  | i :: c => by simp [pdL, pd, pdL_ints c]
theorem pd_ct (c : Cn) : pd (ct c) = some (.tuple (c.map .int)) := by
  show (pdL (c.map D.int)).map PyData.tuple = _
  rw [pdL_ints]; rfl
theorem lay_ints : ∀ c : List Int, PyData.canLayAll0 (c.map PyData.int) = true
  | [] => by simp [PyData.canLayAll0]
  | i :: c => by simp [PyData.canLayAll0, PyData.canLay0, lay_ints c]
theorem depth_ints : ∀ c : List Int, PyData.depthAll (c.map PyData.int) ≤ 1
  | [] => by simp [PyData.depthAll]
  | i :: c => by have := depth_ints c; simp [PyData.depthAll, PyData.depth]; omega
theorem shaped_ct (c : Cn) : SeqAt.shaped (.tuple (c.map .int)) = true := by
  have := depth_ints c
  simp [SeqAt.shaped, PyData.canLay0, PyData.depth, lay_ints]
  omega
theorem eqv_ints : ∀ a b : List Int, PyData.eqvAll (a.map .int) (b.map .int) = decide (a = b)
  | [], [] => by simp [PyData.eqvAll]
  | [], _ :: _ => by simp [PyData.eqvAll]
  | _ :: _, [] => by simp [PyData.eqvAll]
  | x :: a, y :: b => by
    simp only [List.map_cons, PyData.eqvAll, PyData.eqv, eqv_ints a b]
    by_cases h : x = y <;> simp [h]
theorem eqv_ct (a b : Cn) : PyData.eqv (.tuple (a.map .int)) (.tuple (b.map .int)) = decide (a = b) := by simp only [PyData.eqv, eqv_ints]
theorem empty_ct (a b : Cn) : empty2 (ct a) (ct b) = if a = [] ∨ b = [] then some (decide (a = b)) else none := by
  show (if a.map D.int = [] ∨ b.map D.int = [] then some (decide ((a.map D.int).length = (b.map D.int).length)) else none) = _
  cases a <;> cases b <;> simp
theorem ne_ct (a b : Cn) (k) : gNeU (ct a) (ct b) k = k (.bl (!decide (a = b))) := by
  unfold gNeU
  rw [empty_ct]
  by_cases h : a = [] ∨ b = []
  · rw [if_pos h]
  · rw [if_neg h]
    show gNe _ _ _ = _
    rw [gNe_of (pd_ct a) (pd_ct b) (shaped_ct a) (shaped_ct b), eqv_ct]
theorem eq_ct (a b : Cn) (k) : gEqU (ct a) (ct b) k = k (.bl (decide (a = b))) := by
  unfold gEqU
  rw [empty_ct]
  by_cases h : a = [] ∨ b = []
  · rw [if_pos h]
  · rw [if_neg h]
    show gEq _ _ _ = _
    rw [gEq_of (pd_ct a) (pd_ct b) (shaped_ct a) (shaped_ct b), eqv_ct]
theorem sort_pt {L : List Pc} {k : D → Prop} (nd : (L.map (·.1)).Nodup) (h : ∀ M : List Pc, M.Perm L → Asc M → k (.lst (M.map pt))) : gSortI [.lst (L.map pt)] k := by
  refine ⟨_, _, rfl, rfl, fun e he => ?_, ?_, fun es p s => ?_⟩
  · obtain ⟨q, _, rfl⟩ := List.mem_map.mp he
    rfl
  · rw [List.map_map]
    have e : (L.map (keyD ∘ pt)) = (L.map (·.1)).map some := by rw [List.map_map]; rfl
    rw [e]
    rw [List.Nodup, List.pairwise_map] at *
    rw [List.pairwise_map]
    exact nd.imp fun h z => h (Option.some.inj z)
  · obtain ⟨M, rfl, pm⟩ := perm_pt p
    exact h M pm (asc_pt s)
theorem sortIt_kd {L : List Pc} {ρ : Env} {post : Post} {xp : XP} (h : ∀ M : List Pc, M.Perm L → Asc M → post (.lst (M.map pt)) ρ) : fSortIt (fC (.dt (L.map kd))) ρ post xp := by
  refine ⟨trivial, pairKs_kd L, fun es p s => ?_⟩
  have e : (L.map kd).map itemD = L.map pt := by rw [List.map_map]; rfl
  rw [e] at p
  obtain ⟨M, rfl, pm⟩ := perm_pt p
  exact h M pm (asc_pt s)
theorem keys_kd (L : List Pc) : ((L.map kd).map fun kv => D.tup (kv.1.map kD)) = L.map fun q => vt q.1 := by rw [List.map_map]; rfl
theorem items_kd (L : List Pc) : ((L.map kd).map fun kv => D.tup [.tup (kv.1.map kD), kv.2]) = L.map pt := by rw [List.map_map]; rfl
theorem ix_kd {L : List Pc} {p : Pt} {c : Cn} (h : look L p = some c) (k : D → Prop) (q : k (ct c)) : gIx (.dt (L.map kd)) (vt p) k := by
  refine ⟨ct c, ?_, q⟩
  rw [getK_kd, h]; rfl
theorem zero_tup (n : Nat) : D.tup (List.replicate n [D.int 0]).flatten = ct (zero n) := by rw [flatten_rep]; rfl
end DL

namespace DL
open PySem L2
def Bd (m : Nat) (L : List Pc) : Prop := ∀ q ∈ L, ∀ i ∈ q.2, i.natAbs ≤ m
theorem csum_abs {m : Nat} (j : Nat) : ∀ {L : List Pc}, Bd m L → (csum j L).natAbs ≤ L.length * m
  | [], _ => by simp [csum]
  | q :: L, h => by
    have ih := csum_abs j (L := L) fun p hp => h p (List.mem_cons_of_mem _ hp)
    have hq : (q.2.getD j 0).natAbs ≤ m := by
      rw [List.getD_eq_getElem?_getD]
      by_cases z : j < q.2.length
      · rw [List.getElem?_eq_getElem z]
        exact h q List.mem_cons_self _ (List.getElem_mem z)
      · rw [List.getElem?_eq_none (by omega)]; simp
    have e : csum j (q :: L) = q.2.getD j 0 + csum j L := by simp [csum]
    rw [e, List.length_cons, Nat.succ_mul]
    omega
theorem tot_abs {n m : Nat} {L : List Pc} (w : WF n L) (h : Bd m L) : ∀ i ∈ tot n L, i.natAbs ≤ L.length * m := fun i hi => by
  rw [tot_eq w] at hi
  obtain ⟨j, _, rfl⟩ := List.mem_map.mp hi
  exact csum_abs j h
theorem dot_abs {B C : Nat} : ∀ {c A : List Int}, (∀ i ∈ c, i.natAbs ≤ B) → (∀ i ∈ A, i.natAbs ≤ C) → (dot c A).natAbs ≤ A.length * (B * C)
  | [], A, _, _ => by simp [dot]
  | _ :: _, [], _, _ => by simp [dot]
  | x :: c, y :: A, h, k => by
    have ih := dot_abs (c := c) (A := A) (fun i hi => h i (List.mem_cons_of_mem _ hi)) (fun i hi => k i (List.mem_cons_of_mem _ hi))
    have e : dot (x :: c) (y :: A) = x * y + dot c A := by simp [dot]
    have h1 : (x * y).natAbs ≤ B * C := by
      rw [Int.natAbs_mul]
      exact Nat.mul_le_mul (h x List.mem_cons_self) (k y List.mem_cons_self)
    rw [e, List.length_cons, Nat.succ_mul]
    omega
theorem ro_ct {c : Cn} {k : Nat} (hk : 0 < k) (hk2 : k ≤ 500) (h : ∀ i ∈ c, i.natAbs < 10 ^ k) : RO (ct c) 1 (c.length * (k + 3) + 3) := by
  have := RO.tup (ds := c.map .int) (dp := 0) (n := k + 1) fun d hd => by
    obtain ⟨i, hi, rfl⟩ := List.mem_map.mp hd
    exact RO.int hk hk2 (h i hi)
  simpa [ct] using this
theorem ro_vt {p : Pt} {k : Nat} (hk : 0 < k) (hk2 : k ≤ 500) (h : p.1.natAbs < 10 ^ k) (h' : p.2.natAbs < 10 ^ k) : RO (vt p) 1 (2 * (k + 3) + 3) := by
  have := RO.tup (ds := [.int p.1, .int p.2]) (dp := 0) (n := k + 1) fun d hd => by
    rcases List.mem_cons.mp hd with rfl | hd
    · exact RO.int hk hk2 h
    · rw [List.mem_singleton] at hd; subst hd; exact RO.int hk hk2 h'
  simpa [vt] using this
theorem ro_pair {a b : D} {dp n : Nat} (h : RO a dp n) (h' : RO b dp n) : RO (.tup [a, b]) (dp + 1) (2 * (n + 2) + 3) := by
  have := RO.tup (ds := [a, b]) (dp := dp) (n := n) fun d hd => by
    rcases List.mem_cons.mp hd with rfl | hd
    · exact h
    · rw [List.mem_singleton] at hd; subst hd; exact h'
  simpa using this
theorem ro_pt {q : Pc} {n k : Nat} (hn : q.2.length = n) (hn2 : n ≤ 4) (hk : 0 < k) (hk2 : k ≤ 500) (h : q.1.1.natAbs < 10 ^ k) (h' : q.1.2.natAbs < 10 ^ k) (hc : ∀ i ∈ q.2, i.natAbs < 10 ^ k) : RO (pt q) 2 (8 * k + 37) := by
  have := ro_pair ((ro_vt hk hk2 h h').mono (Nat.le_refl _) (n := 4 * k + 15) (by omega)) ((ro_ct hk hk2 hc).mono (Nat.le_refl _) (n := 4 * k + 15) (by
    have : q.2.length * (k + 3) ≤ 4 * (k + 3) := Nat.mul_le_mul (by omega) (Nat.le_refl _)
    omega))
  exact this.mono (Nat.le_refl _) (by omega)
theorem canon_bd {n m : Nat} {ps : List Pc} (w : WF n ps) (h : Bd m ps) : Bd (ps.length * m) (canon n ps) := fun q hq i hi => by
  have e := ((canon_can w).mem q).1 hq
  have e2 : q.2 = sumAt n ps q.1 := by rw [← canon_at w]; exact e.2.symm
  obtain ⟨j, hj, ej⟩ := List.mem_iff_getElem.mp hi
  have g : q.2.getD j 0 = i := by rw [List.getD_eq_getElem?_getD, List.getElem?_eq_getElem hj]; simpa using ej
  rw [e2, sumAt_get w] at g
  rw [← g]
  clear hq hi e e2 hj ej g w
  induction ps with
  | nil => simp [cat]
  | cons p ps ih =>
    have ih := ih fun q hq => h q (List.mem_cons_of_mem _ hq)
    have e : cat j q.1 (p :: ps) = (if p.1 = q.1 then p.2.getD j 0 else 0) + cat j q.1 ps := by simp [cat]
    have hq : (p.2.getD j 0).natAbs ≤ m := by
      rw [List.getD_eq_getElem?_getD]
      by_cases z : j < p.2.length
      · rw [List.getElem?_eq_getElem z]
        exact h p List.mem_cons_self _ (List.getElem_mem z)
      · rw [List.getElem?_eq_none (by omega)]; simp
    rw [e, List.length_cons, Nat.succ_mul]
    split <;> omega
@[simp ↓] theorem gTp_vt (r : FGs) (p : Pt) (ρ k) : gTp r (vt p) ρ k = r [.int p.1, .int p.2] ρ k := (rfl)
@[simp ↓] theorem gTp_pt (r : FGs) (q : Pc) (ρ k) : gTp r (pt q) ρ k = r [vt q.1, ct q.2] ρ k := (rfl)
theorem tup_vt (p : Pt) : D.tup [.int p.1, .int p.2] = vt p := rfl
@[simp ↓] theorem gIx_vt0 (p : Pt) (k) : gIx (vt p) (.int 0) k = k (.int p.1) := by show gIx (.tup _) _ _ = _; simp
@[simp ↓] theorem gIx_vt1 (p : Pt) (k) : gIx (vt p) (.int 1) k = k (.int p.2) := by show gIx (.tup _) _ _ = _; simp
@[simp] theorem plD_vt (n : Nat) (p : Pt) : plD n (vt p) = decide (1 ≤ n) := by simp [vt]
@[simp] theorem plD_ct (n : Nat) (c : Cn) : plD n (ct c) = decide (1 ≤ n) := by
  have : ((c.map D.int).all (plD (n - 1))) = true := by simp
  simp only [ct, plD_tup, this, Bool.and_true]
@[simp] theorem plD_pt (n : Nat) (q : Pc) : plD n (pt q) = decide (2 ≤ n) := by
  simp only [pt, plD_tup, List.all_cons, List.all_nil, plD_vt, plD_ct, Bool.and_true, Bool.and_self]
  rw [← Bool.decide_and, decide_eq_decide]; omega
@[simp high] theorem all_vt (n : Nat) (V : List Pt) : (V.map vt).all (plD (n + 1)) = true := by simp
@[simp high] theorem all_pt (n : Nat) (L : List Pc) : (L.map pt).all (plD (n + 2)) = true := by simp
@[simp high] theorem all_ct (n : Nat) (L : List Cn) : (L.map ct).all (plD (n + 1)) = true := by simp
@[simp high] theorem all_int (n : Nat) (L : List Int) : (L.map D.int).all (plD n) = true := by simp
@[simp] theorem vt_inj (p q : Pt) : (vt p = vt q) = (p = q) := by
  obtain ⟨a, b⟩ := p
  obtain ⟨c, d⟩ := q
  simp [vt]
theorem map_inj {α β : Type} {f : α → β} (h : ∀ a b, f a = f b → a = b) : ∀ a b : List α, (a.map f = b.map f) = (a = b)
  | [], [] => by simp
  | [], _ :: _ => by simp
  | _ :: _, [] => by simp
  | x :: a, y :: b => by
    have ih := map_inj h a b
    simp only [List.map_cons, List.cons.injEq, ih]
    exact propext ⟨fun z => ⟨h _ _ z.1, z.2⟩, fun z => ⟨by rw [z.1], z.2⟩⟩
@[simp] theorem ct_inj (p q : Cn) : (ct p = ct q) = (p = q) := by
  unfold ct
  rw [D.tup.injEq, map_inj (by simp)]
@[simp] theorem pt_inj (p q : Pc) : (pt p = pt q) = (p = q) := by
  obtain ⟨a, b⟩ := p
  obtain ⟨c, d⟩ := q
  simp [pt]
@[simp] theorem map_vt_inj (a b : List Pt) : (a.map vt = b.map vt) = (a = b) := map_inj (by simp) a b
@[simp] theorem map_ct_inj (a b : List Cn) : (a.map ct = b.map ct) = (a = b) := map_inj (by simp) a b
@[simp] theorem map_pt_inj (a b : List Pc) : (a.map pt = b.map pt) = (a = b) := map_inj (by simp) a b
@[simp] theorem vt_eq_tup (p : Pt) (x y : Int) : (vt p = .tup [.int x, .int y]) = (p.1 = x ∧ p.2 = y) := by simp [vt]
@[simp] theorem tup_eq_vt (p : Pt) (x y : Int) : (D.tup [.int x, .int y] = vt p) = (x = p.1 ∧ y = p.2) := by simp [vt]
theorem gIx_ct {c : Cn} {i : Nat} (h : i < c.length) (k) : gIx (ct c) (.int (i : Int)) k = k (.int (c.getD i 0)) := by
  show (∃ d, atI (c.map D.int) (i : Int) = some d ∧ k d) = _
  rw [atI_map (List.getElem?_eq_getElem h), List.getD_eq_getElem?_getD, List.getElem?_eq_getElem h]; rfl
end DL

namespace DL
open PySem L2
theorem loop_each {α : Type} {g : FG} {B : FS} {S : SPo} {l : LockS S} {ρ : Env} (enc : α → D) (I : List α → Env → Prop) {xs : List α} (h0 : I xs ρ)
    (hs : ∀ x r ρ (N : Env → Prop), (∀ ρ', I r ρ' → N ρ') → I (x :: r) ρ → g (enc x) ρ fun ρ1 => B ρ1 (S.lp N)) (he : ∀ ρ, I [] ρ → S.nx ρ) : loopK g B S l (xs.map enc) ρ := by
  refine loop_inv (fun ds ρ => ∃ r, ds = List.map enc r ∧ I r ρ) (fun ρ ⟨r, e, i⟩ => ?_) (fun d ds ρ N hN ⟨r, e, i⟩ => ?_) _ _ ⟨xs, rfl, h0⟩
  · have : r = [] := by simpa using e.symm
    subst this; exact he ρ i
  · cases r with
    | nil => cases e
    | cons x r =>
      simp only [List.map_cons, List.cons.injEq] at e
      obtain ⟨rfl, rfl⟩ := e
      exact hs x r ρ N (fun ρ' q => hN ρ' ⟨r, rfl, q⟩) i
theorem loop_range {g : FG} {B : FS} {S : SPo} {l : LockS S} {ρ : Env} {n : Nat} (I : Nat → Env → Prop) (h0 : I 0 ρ)
    (hs : ∀ (j : Nat) ρ (N : Env → Prop), j < n → (∀ ρ', I (j + 1) ρ' → N ρ') → I j ρ → g (.int j) ρ fun ρ1 => B ρ1 (S.lp N)) (he : ∀ ρ, I n ρ → S.nx ρ) :
    loopK g B S l ((List.range n).map fun k : Nat => D.int (k : Int)) ρ := by
  refine loop_each (fun k : Nat => D.int (k : Int)) (fun r ρ => ∃ j, r = List.range' j r.length ∧ j + r.length = n ∧ I j ρ) ⟨0, by simp [List.range_eq_range'], by simp, h0⟩ (fun x r ρ N hN ⟨j, e, hj, i⟩ => ?_) (fun ρ ⟨j, e, hj, i⟩ => ?_)
  · simp only [List.length_cons, List.range'_succ, List.cons.injEq] at e hj
    obtain ⟨rfl, e⟩ := e
    exact hs x ρ N (by omega) (fun ρ' q => hN ρ' ⟨x + 1, e, by omega, q⟩) i
  · simp at hj
    subst hj
    exact he ρ i
/-- a range from a to b -/
theorem loop_range2 {g : FG} {B : FS} {S : SPo} {l : LockS S} {ρ : Env} {n : Nat} {a : Int} (I : Nat → Env → Prop) (h0 : I 0 ρ)
    (hs : ∀ (j : Nat) ρ (N : Env → Prop), j < n → (∀ ρ', I (j + 1) ρ' → N ρ') → I j ρ → g (.int (a + j)) ρ fun ρ1 => B ρ1 (S.lp N)) (he : ∀ ρ, I n ρ → S.nx ρ) :
    loopK g B S l ((List.range n).map fun k : Nat => D.int (a + (k : Int))) ρ := by
  refine loop_each (fun k : Nat => D.int (a + (k : Int))) (fun r ρ => ∃ j, r = List.range' j r.length ∧ j + r.length = n ∧ I j ρ) ⟨0, by simp [List.range_eq_range'], by simp, h0⟩ (fun x r ρ N hN ⟨j, e, hj, i⟩ => ?_) (fun ρ ⟨j, e, hj, i⟩ => ?_)
  · simp only [List.length_cons, List.range'_succ, List.cons.injEq] at e hj
    obtain ⟨rfl, e⟩ := e
    exact hs x ρ N (by omega) (fun ρ' q => hN ρ' ⟨x + 1, e, by omega, q⟩) i
  · simp at hj
    subst hj
    exact he ρ i
theorem comp_each {α : Type} {vs : List Nat} {g : FG} {E : FE} {post : Post} {l : Lock post noX} {ρ : Env} (enc : α → D) (f : α → D) {xs : List α} (hl : xs.length ≤ 1000000)
    (h : ∀ x ∈ xs, ∀ (Pst : D → Env → Prop), (∀ ρ3, unwipe ρ ρ3 vs = ρ → Pst (f x) ρ3) → g (enc x) (wipeE ρ vs) fun ρ1 => E ρ1 Pst noX)
    (q : post (.lst (xs.map f)) ρ) : compK vs g tYesD E post l (xs.map enc) [] ρ := compL_as enc f xs hl h q
theorem comp_range {vs : List Nat} {g : FG} {E : FE} {post : Post} {l : Lock post noX} {ρ : Env} {n : Nat} (f : Nat → D) (hn : n ≤ 1000000)
    (h : ∀ j, j < n → ∀ (Pst : D → Env → Prop), (∀ ρ3, unwipe ρ ρ3 vs = ρ → Pst (f j) ρ3) → g (.int j) (wipeE ρ vs) fun ρ1 => E ρ1 Pst noX)
    (q : post (.lst ((List.range n).map f)) ρ) : compK vs g tYesD E post l ((List.range n).map fun k : Nat => D.int (k : Int)) [] ρ :=
  compL_as (fun k : Nat => D.int (k : Int)) f (List.range n) (by simpa using hn) (fun x hx => h x (List.mem_range.mp hx)) q
@[simp ↓] theorem gList_tupS (a : List D) (k : D → Prop) : gList [.tup a] k = k (.lst a) := propext ⟨fun ⟨d, es, e, h, q⟩ => by
  cases e
  rcases h with h | h
  · cases h; exact q
  · (cases h), gList_tup a k⟩
@[simp ↓] theorem gList_lstS (a : List D) (k : D → Prop) : gList [.lst a] k = k (.lst a) := propext ⟨fun ⟨d, es, e, h, q⟩ => by
  cases e
  rcases h with h | h
  · cases h
  · cases h; exact q, gList_lst a k⟩
theorem cut_take (α : List D) (n : Nat) : cutL α none (some (n : Int)) = α.take n := by
  unfold cutL
  rw [HT.sIx_nat, HT.sIx_none]
  simp only [List.drop_zero, Nat.sub_zero]
  rcases Nat.le_total n α.length with h | h
  · rw [Nat.min_eq_left h]
  · rw [Nat.min_eq_right h, List.take_of_length_le (Nat.le_refl _), List.take_of_length_le h]
theorem cut_drop (α : List D) (n : Nat) : cutL α (some (n : Int)) none = α.drop n := by
  unfold cutL
  rw [HT.sIx_nat, HT.sIx_none]
  rcases Nat.le_total n α.length with h | h
  · rw [Nat.min_eq_left h, List.take_of_length_le (by simp)]
  · rw [Nat.min_eq_right h, List.drop_of_length_le h, List.drop_of_length_le (Nat.le_refl _)]; simp
end DL

/-! the walk, printed by gen.py -/
namespace LAW
open PySem L2 DL
open PyProof.Rows hiding St
def top (i : Nat) : Stmt := PySem.Challenge.pw_pullplain_k04_states_of_parts.main.body.getD i (.Pass ⟨0, 0, 0, 0⟩)
abbrev s_l_pen : Stmt := (top 31)
abbrev s_l_draw : Stmt := (top 32)
abbrev s_l_pulls : Stmt := (top 33)
abbrev s_is_integer : Stmt := (top 8)
abbrev s_is_pair : Stmt := (top 9)
abbrev s_is_pull : Stmt := (top 10)
abbrev s_Field___init__ : Stmt := (inClass (top 11) 2)
abbrev s_l_field : Stmt := (top 36)
abbrev s_l_place : Stmt := (top 35)
abbrev s_l_counts : Stmt := (top 34)
abbrev s_l_laid : Stmt := (top 37)
abbrev s_l_odd : Stmt := (top 38)
abbrev s_l_spoiled : Stmt := (top 39)
abbrev s_l_is_pair : Stmt := (top 42)
abbrev s_l_is_row : Stmt := (top 41)
abbrev s_l_fits : Stmt := (top 40)
abbrev s_Field_kinds : Stmt := (inClass (top 11) 5)
abbrev s_are_counts : Stmt := (top 24)
abbrev s_is_piece : Stmt := (top 25)
abbrev s_are_pieces : Stmt := (top 26)
abbrev s_added : Stmt := (top 27)
abbrev s_merged : Stmt := (top 28)
abbrev s_State___init__ : Stmt := (inClass (top 29) 0)
abbrev s_State_of : Stmt := (inClass (top 29) 2)
abbrev s_Field___eq__ : Stmt := (inClass (top 11) 3)
abbrev s_State_field : Stmt := (inClass (top 29) 4)
abbrev s_State_parts : Stmt := (inClass (top 29) 7)
abbrev s_l_told : Stmt := (top 43)
abbrev s_l_put : Stmt := (top 44)
abbrev s_law : Stmt := (top 45)
structure Tx (K : PySem.W.Frag) (mg : Str → Option Value) where
  C_Field : Addr
  ic_Field : IsCl K "Field" C_Field
  cl_Field : Cls K C_Field
  mc_Field : mg "Field" = some (.ref C_Field)
  cr_Field : ClX.CRead K C_Field (.type "type")
  u_Field_GREATEST : Value
  cv_Field_GREATEST : ClX.CVal K C_Field (.type "type") "GREATEST" (.int 9) u_Field_GREATEST
  u_Field_MOST_KINDS : Value
  cv_Field_MOST_KINDS : ClX.CVal K C_Field (.type "type") "MOST_KINDS" (.int 4) u_Field_MOST_KINDS
  if_Field : IsiF K C_Field
  na_Field_vectors : NoAttr K C_Field "vectors"
  C_State : Addr
  ic_State : IsCl K "State" C_State
  cl_State : Cls K C_State
  mc_State : mg "State" = some (.ref C_State)
  cr_State : ClX.CRead K C_State (.type "type")
  na_State_ground : NoAttr K C_State "ground"
  na_State_key : NoAttr K C_State "key"
  na_State_laid : NoAttr K C_State "laid"
  na_State_rows : NoAttr K C_State "rows"
  na_State_stand : NoAttr K C_State "stand"
  C_PlainError : Addr
  ic_PlainError : IsCl K "PlainError" C_PlainError
  mc_PlainError : mg "PlainError" = some (.ref C_PlainError)
  C_InvalidPulls : Addr
  ic_InvalidPulls : IsCl K "InvalidPulls" C_InvalidPulls
  mc_InvalidPulls : mg "InvalidPulls" = some (.ref C_InvalidPulls)
  C_InvalidState : Addr
  ic_InvalidState : IsCl K "InvalidState" C_InvalidState
  mc_InvalidState : mg "InvalidState" = some (.ref C_InvalidState)
  C_InvalidDeed : Addr
  ic_InvalidDeed : IsCl K "InvalidDeed" C_InvalidDeed
  mc_InvalidDeed : mg "InvalidDeed" = some (.ref C_InvalidDeed)
  xn_InvalidPulls : XcN K mg "InvalidPulls" C_InvalidPulls
  xn_InvalidState : XcN K mg "InvalidState" C_InvalidState
  xq_InvalidPulls : ExcC K C_InvalidPulls
  xq_InvalidState : ExcC K C_InvalidState
  tk_PlainError : ∀ m b, ([("InvalidPulls", true), ("InvalidState", true)] : List (Str × Bool)).lookup m = some b → ∀ D, IsCl K m D → PySem.W.exmOne K (.ref D) (.ref C_PlainError) = some b
  tk_InvalidState : ∀ m b, ([("InvalidPulls", false), ("InvalidState", true)] : List (Str × Bool)).lookup m = some b → ∀ D, IsCl K m D → PySem.W.exmOne K (.ref D) (.ref C_InvalidState) = some b
  isX_InvalidState : ∀ m b, ([("InvalidPulls", false), ("InvalidState", true)] : List (Str × Bool)).lookup m = some b → ∀ D, IsCl K m D → ExcC K D ∧ PySem.W.kitOne K (.ref D) (.ref C_InvalidState) = some b
  isT_0 : ∀ m b, ([("InvalidPulls", true), ("InvalidState", false)] : List (Str × Bool)).lookup m = some b → ∀ D, IsCl K m D → ExcC K D ∧ PySem.W.kitAny K (.ref D) ([C_InvalidDeed, C_InvalidPulls].map Value.ref) = some b
  a_l_pen : Addr
  fd_l_pen : FuncData
  F_l_pen : FunG K "_law_pen" "_law_pen" s_l_pen a_l_pen fd_l_pen
  b_l_pen : Binds K fd_l_pen ["_law_script"] []
  m_l_pen : mg "_law_pen" = some (.ref a_l_pen)
  k_l_pen : PySem.W.keepIn K (.ref a_l_pen) = true
  a_l_draw : Addr
  fd_l_draw : FuncData
  F_l_draw : FunG K "_law_draw" "_law_draw" s_l_draw a_l_draw fd_l_draw
  b_l_draw : Binds K fd_l_draw ["_law_pen_here", "_law_many"] []
  m_l_draw : mg "_law_draw" = some (.ref a_l_draw)
  k_l_draw : PySem.W.keepIn K (.ref a_l_draw) = true
  a_l_pulls : Addr
  fd_l_pulls : FuncData
  F_l_pulls : FunG K "_law_pulls" "_law_pulls" s_l_pulls a_l_pulls fd_l_pulls
  b_l_pulls : Binds K fd_l_pulls ["_law_pen_here", "_law_most"] []
  m_l_pulls : mg "_law_pulls" = some (.ref a_l_pulls)
  k_l_pulls : PySem.W.keepIn K (.ref a_l_pulls) = true
  a_is_integer : Addr
  fd_is_integer : FuncData
  F_is_integer : FunG K "is_integer" "is_integer" s_is_integer a_is_integer fd_is_integer
  b_is_integer : Binds K fd_is_integer ["value"] []
  m_is_integer : mg "is_integer" = some (.ref a_is_integer)
  k_is_integer : PySem.W.keepIn K (.ref a_is_integer) = true
  a_is_pair : Addr
  fd_is_pair : FuncData
  F_is_pair : FunG K "is_pair" "is_pair" s_is_pair a_is_pair fd_is_pair
  b_is_pair : Binds K fd_is_pair ["value"] []
  m_is_pair : mg "is_pair" = some (.ref a_is_pair)
  k_is_pair : PySem.W.keepIn K (.ref a_is_pair) = true
  a_is_pull : Addr
  fd_is_pull : FuncData
  F_is_pull : FunG K "is_pull" "is_pull" s_is_pull a_is_pull fd_is_pull
  b_is_pull : Binds K fd_is_pull ["value"] []
  m_is_pull : mg "is_pull" = some (.ref a_is_pull)
  k_is_pull : PySem.W.keepIn K (.ref a_is_pull) = true
  a_Field___init__ : Addr
  fd_Field___init__ : FuncData
  F_Field___init__ : FunG K "__init__" "Field.__init__" s_Field___init__ a_Field___init__ fd_Field___init__
  b_Field___init__ : ∀ us rest : List Value, us.length = (["self"] : List Str).length → bindArgs fd_Field___init__ ⟨us ++ rest, []⟩ = (newTuple rest >>= fun t => pure (List.zip (["self"] : List Str) us ++ [(("pulls" : Str), t)]))
  mk_Field : Mk K C_Field a_Field___init__
  a_l_field : Addr
  fd_l_field : FuncData
  F_l_field : FunG K "_law_field" "_law_field" s_l_field a_l_field fd_l_field
  b_l_field : Binds K fd_l_field ["_law_pulls_here"] []
  m_l_field : mg "_law_field" = some (.ref a_l_field)
  k_l_field : PySem.W.keepIn K (.ref a_l_field) = true
  a_l_place : Addr
  fd_l_place : FuncData
  F_l_place : FunG K "_law_place" "_law_place" s_l_place a_l_place fd_l_place
  b_l_place : Binds K fd_l_place ["_law_pen_here", "_law_wide"] []
  m_l_place : mg "_law_place" = some (.ref a_l_place)
  k_l_place : PySem.W.keepIn K (.ref a_l_place) = true
  a_l_counts : Addr
  fd_l_counts : FuncData
  F_l_counts : FunG K "_law_counts" "_law_counts" s_l_counts a_l_counts fd_l_counts
  b_l_counts : Binds K fd_l_counts ["_law_pen_here", "_law_many", "_law_most"] []
  m_l_counts : mg "_law_counts" = some (.ref a_l_counts)
  k_l_counts : PySem.W.keepIn K (.ref a_l_counts) = true
  a_l_laid : Addr
  fd_l_laid : FuncData
  F_l_laid : FunG K "_law_laid" "_law_laid" s_l_laid a_l_laid fd_l_laid
  b_l_laid : Binds K fd_l_laid ["_law_pieces"] []
  m_l_laid : mg "_law_laid" = some (.ref a_l_laid)
  k_l_laid : PySem.W.keepIn K (.ref a_l_laid) = true
  a_l_odd : Addr
  fd_l_odd : FuncData
  F_l_odd : FunG K "_law_odd" "_law_odd" s_l_odd a_l_odd fd_l_odd
  b_l_odd : Binds K fd_l_odd ["_law_pen_here"] []
  m_l_odd : mg "_law_odd" = some (.ref a_l_odd)
  k_l_odd : PySem.W.keepIn K (.ref a_l_odd) = true
  a_l_spoiled : Addr
  fd_l_spoiled : FuncData
  F_l_spoiled : FunG K "_law_spoiled" "_law_spoiled" s_l_spoiled a_l_spoiled fd_l_spoiled
  b_l_spoiled : Binds K fd_l_spoiled ["_law_pen_here", "_law_spot", "_law_rows"] []
  m_l_spoiled : mg "_law_spoiled" = some (.ref a_l_spoiled)
  k_l_spoiled : PySem.W.keepIn K (.ref a_l_spoiled) = true
  a_l_is_pair : Addr
  fd_l_is_pair : FuncData
  F_l_is_pair : FunG K "_law_is_pair" "_law_is_pair" s_l_is_pair a_l_is_pair fd_l_is_pair
  b_l_is_pair : Binds K fd_l_is_pair ["_law_thing"] []
  m_l_is_pair : mg "_law_is_pair" = some (.ref a_l_is_pair)
  k_l_is_pair : PySem.W.keepIn K (.ref a_l_is_pair) = true
  a_l_is_row : Addr
  fd_l_is_row : FuncData
  F_l_is_row : FunG K "_law_is_row" "_law_is_row" s_l_is_row a_l_is_row fd_l_is_row
  b_l_is_row : Binds K fd_l_is_row ["_law_row", "_law_kinds"] []
  m_l_is_row : mg "_law_is_row" = some (.ref a_l_is_row)
  k_l_is_row : PySem.W.keepIn K (.ref a_l_is_row) = true
  a_l_fits : Addr
  fd_l_fits : FuncData
  F_l_fits : FunG K "_law_fits" "_law_fits" s_l_fits a_l_fits fd_l_fits
  b_l_fits : Binds K fd_l_fits ["_law_thing", "_law_kinds"] []
  m_l_fits : mg "_law_fits" = some (.ref a_l_fits)
  k_l_fits : PySem.W.keepIn K (.ref a_l_fits) = true
  a_Field_kinds : Addr
  fd_Field_kinds : FuncData
  F_Field_kinds : FunG K "kinds" "Field.kinds" s_Field_kinds a_Field_kinds fd_Field_kinds
  b_Field_kinds : Binds K fd_Field_kinds ["self"] []
  q_Field_kinds : Addr
  pr_Field_kinds : PropOf K C_Field "kinds" q_Field_kinds a_Field_kinds
  a_are_counts : Addr
  fd_are_counts : FuncData
  F_are_counts : FunG K "are_counts" "are_counts" s_are_counts a_are_counts fd_are_counts
  b_are_counts : Binds K fd_are_counts ["field", "value"] []
  m_are_counts : mg "are_counts" = some (.ref a_are_counts)
  k_are_counts : PySem.W.keepIn K (.ref a_are_counts) = true
  a_is_piece : Addr
  fd_is_piece : FuncData
  F_is_piece : FunG K "is_piece" "is_piece" s_is_piece a_is_piece fd_is_piece
  b_is_piece : Binds K fd_is_piece ["field", "value"] []
  m_is_piece : mg "is_piece" = some (.ref a_is_piece)
  k_is_piece : PySem.W.keepIn K (.ref a_is_piece) = true
  a_are_pieces : Addr
  fd_are_pieces : FuncData
  F_are_pieces : FunG K "are_pieces" "are_pieces" s_are_pieces a_are_pieces fd_are_pieces
  b_are_pieces : Binds K fd_are_pieces ["field", "value"] []
  m_are_pieces : mg "are_pieces" = some (.ref a_are_pieces)
  k_are_pieces : PySem.W.keepIn K (.ref a_are_pieces) = true
  a_added : Addr
  fd_added : FuncData
  F_added : FunG K "added" "added" s_added a_added fd_added
  b_added : Binds K fd_added ["one", "other"] []
  m_added : mg "added" = some (.ref a_added)
  k_added : PySem.W.keepIn K (.ref a_added) = true
  a_merged : Addr
  fd_merged : FuncData
  F_merged : FunG K "merged" "merged" s_merged a_merged fd_merged
  b_merged : Binds K fd_merged ["pieces"] []
  m_merged : mg "merged" = some (.ref a_merged)
  k_merged : PySem.W.keepIn K (.ref a_merged) = true
  a_State___init__ : Addr
  fd_State___init__ : FuncData
  F_State___init__ : FunG K "__init__" "State.__init__" s_State___init__ a_State___init__ fd_State___init__
  b_State___init__ : ∀ us rest : List Value, us.length = (["self", "field", "position"] : List Str).length → bindArgs fd_State___init__ ⟨us ++ rest, []⟩ = (newTuple rest >>= fun t => pure (List.zip (["self", "field", "position"] : List Str) us ++ [(("pieces" : Str), t)]))
  mk_State : Mk K C_State a_State___init__
  a_State_of : Addr
  fd_State_of : FuncData
  F_State_of : FunG K "of" "State.of" s_State_of a_State_of fd_State_of
  b_State_of : Binds K fd_State_of ["cls", "field", "parts"] []
  p_State_of : Addr
  cm_State_of : ClX.CMet K C_State (.type "type") "of" p_State_of a_State_of
  a_Field___eq__ : Addr
  fd_Field___eq__ : FuncData
  F_Field___eq__ : FunG K "__eq__" "Field.__eq__" s_Field___eq__ a_Field___eq__ fd_Field___eq__
  b_Field___eq__ : Binds K fd_Field___eq__ ["self", "other"] []
  mt_Field___eq__ : Meth K C_Field "__eq__" a_Field___eq__
  ef_Field : EqFacts K C_Field a_Field___eq__
  a_State_field : Addr
  fd_State_field : FuncData
  F_State_field : FunG K "field" "State.field" s_State_field a_State_field fd_State_field
  b_State_field : Binds K fd_State_field ["self"] []
  q_State_field : Addr
  pr_State_field : PropOf K C_State "field" q_State_field a_State_field
  a_State_parts : Addr
  fd_State_parts : FuncData
  F_State_parts : FunG K "parts" "State.parts" s_State_parts a_State_parts fd_State_parts
  b_State_parts : Binds K fd_State_parts ["self"] []
  q_State_parts : Addr
  pr_State_parts : PropOf K C_State "parts" q_State_parts a_State_parts
  a_l_told : Addr
  fd_l_told : FuncData
  F_l_told : FunG K "_law_told" "_law_told" s_l_told a_l_told fd_l_told
  b_l_told : Binds K fd_l_told ["_law_ground", "_law_thing"] []
  m_l_told : mg "_law_told" = some (.ref a_l_told)
  k_l_told : PySem.W.keepIn K (.ref a_l_told) = true
  a_l_put : Addr
  fd_l_put : FuncData
  F_l_put : FunG K "_law_put" "_law_put" s_l_put a_l_put fd_l_put
  b_l_put : Binds K fd_l_put ["_law_ground", "_law_spot", "_law_row"] []
  m_l_put : mg "_law_put" = some (.ref a_l_put)
  k_l_put : PySem.W.keepIn K (.ref a_l_put) = true
  n_abs : mg "abs" = none
  n_all : mg "all" = none
  n_any : mg "any" = none
  n_bool : mg "bool" = none
  n_int : mg "int" = none
  n_isinstance : mg "isinstance" = none
  n_len : mg "len" = none
  n_list : mg "list" = none
  n_max : mg "max" = none
  n_range : mg "range" = none
  n_repr : mg "repr" = none
  n_sorted : mg "sorted" = none
  n_tuple : mg "tuple" = none
  n_zip : mg "zip" = none
/-- _law_pen(_law_script); slots: 0 _law_script -/
def F_l_pen : FE :=
  (fDict (fKvs (fC (.str "cells")) (fCut (fVar 0) oNone (oSome (fC (.int 63)))) (fKvs (fC (.str "at")) (fC (.int 0)) (fKvs (fC (.str "rest")) (fC (.int 0)) fKvs0))))
def G_l_pen : DFn := fun ρ post xp => F_l_pen (ρ ++ List.replicate 0 none) (fun d ρ1 => post d (maskF [] 0 1 ρ1)) (fun c ρ1 => xp c (maskF [] 0 1 ρ1))
/-- _law_draw(_law_pen_here, _law_many); slots: 0 _law_pen_here, 1 _law_many, 2 _law_digit, 3 _law_at, 4 _law_cell, 5 _law_great, 6 _law_mixed -/
def F_l_draw : FS :=
  (fSeq (fIfS (fTest (fBin gGtU (fBinL gIx 0 (fC (.str "rest"))) (fC (.int 0))))
    (fSeq (fSet 2 (fBin gFmod (fBinL gIx 0 (fC (.str "rest"))) (fVar 1)))
    (fSeq (fPutO 0 (fBin gFdiv (fBinL gIx 0 (fC (.str "rest"))) (fVar 1)) (fC (.str "rest")))
    (fRet (fVar 2))))
    fNext)
    (fSeq (fSet 3 (fBinL gIx 0 (fC (.str "at"))))
    (fSeq (fPutO 0 (fBin gAdd (fVar 3) (fC (.int 1))) (fC (.str "at")))
    (fSeq (fSet 4 (fBin gAdd (fBin gMul (fC (.int 30269)) (fVar 3)) (fC (.int 97))))
    (fSeq (fIfS (fTest (fBin gNeU (fBinL gIx 0 (fC (.str "cells"))) (fLstE fNil)))
    (fSet 4 (fBin gIx (fBinL gIx 0 (fC (.str "cells"))) (fBin gFmod (fVar 3) (fN gLen (fCons (fBinL gIx 0 (fC (.str "cells"))) fNil)))))
    fNext)
    (fSeq (fIfS (fAnd (fTest (fBin gLt (fVar 3) (fN gLen (fCons (fBinL gIx 0 (fC (.str "cells"))) fNil)))) (fTest (fBin gGe (fN gAbs (fCons (fVar 4) fNil)) (fBin gPow (fC (.int 10)) (fC (.int 18))))))
    (fSeq (fSet 5 (fBin gAdd (fBin gMul (fC (.int 2)) (fN gAbs (fCons (fVar 4) fNil))) (fN gInt (fCons (fBin gLt (fVar 4) (fC (.int 0))) fNil))))
    (fSeq (fPutO 0 (fBin gFdiv (fVar 5) (fVar 1)) (fC (.str "rest")))
    (fRet (fBin gFmod (fVar 5) (fVar 1)))))
    fNext)
    (fSeq (fSet 6 (fBin gFmod (fBin gPow (fBin gAdd (fBin gAdd (fBin gFmod (fVar 4) (fC (.int 2147483587))) (fBin gMul (fC (.int 40093)) (fVar 3))) (fC (.int 11))) (fC (.int 5))) (fC (.int 2147483647))))
    (fSeq (fSet 6 (fBin gFmod (fBin gPow (fBin gAdd (fBin gMul (fVar 6) (fBin gAdd (fVar 3) (fC (.int 50021)))) (fBin gMul (fBin gMul (fC (.int 70051)) (fVar 3)) (fVar 3))) (fC (.int 3))) (fC (.int 2147483629))))
    (fRet (fBin gFmod (fBin gFdiv (fVar 6) (fC (.int 64))) (fVar 1)))))))))))
def G_l_draw : DFn := fun ρ post xp => F_l_draw (ρ ++ List.replicate 5 none) (endS [0] 2 post xp)
/-- _law_pulls(_law_pen_here, _law_most); slots: 0 _law_pen_here, 1 _law_most, 2 _law_way, 3 _law_many, 4 _law_a, 5 _law_b, 6 _law_found, 7 _law_k, 8 _law_x, 9 _law_y, 10 _law_times, 11 _law_some -/
def F_l_pulls : FS :=
  (fSeq (fSet 2 (fCall G_l_draw [some 0, none] (oOwn 0 (oVal (fC (.int 4)) oNil))))
    (fSeq (fSet 3 (fBin gAdd (fC (.int 1)) (fCall G_l_draw [some 0, none] (oOwn 0 (oVal (fC (.int 4)) oNil)))))
    (fSeq (fPar 4 5 (fCons (fBin gSub (fCall G_l_draw [some 0, none] (oOwn 0 (oVal (fBin gAdd (fBin gMul (fC (.int 2)) (fVar 1)) (fC (.int 1))) oNil))) (fVar 1)) (fCons (fBin gSub (fCall G_l_draw [some 0, none] (oOwn 0 (oVal (fBin gAdd (fBin gMul (fC (.int 2)) (fVar 1)) (fC (.int 1))) oNil))) (fVar 1)) fNil)))
    (fSeq (fSetN 6 (fLstE fNil))
    (fSeq (fFor (fRange1 (fCons (fVar 3) fNil)) (gNm 7)
    (fSeq (fPar 8 9 (fCons (fBin gSub (fCall G_l_draw [some 0, none] (oOwn 0 (oVal (fBin gAdd (fBin gMul (fC (.int 2)) (fVar 1)) (fC (.int 1))) oNil))) (fVar 1)) (fCons (fBin gSub (fCall G_l_draw [some 0, none] (oOwn 0 (oVal (fBin gAdd (fBin gMul (fC (.int 2)) (fVar 1)) (fC (.int 1))) oNil))) (fVar 1)) fNil)))
    (fSeq (fSet 10 (fBin gSub (fBin gMul (fCall G_l_draw [some 0, none] (oOwn 0 (oVal (fC (.int 2)) oNil))) (fC (.int 2))) (fC (.int 1))))
    (fSeq (fSet 11 (fBin gIx (fLstE (fCons (fTupE (fCons (fVar 8) (fCons (fVar 9) fNil))) (fCons (fBin gIx (fLstE (fCons (fTupE (fCons (fC (.int 1)) (fCons (fC (.int 0)) fNil))) (fCons (fTupE (fCons (fC (.int 0)) (fCons (fC (.int 1)) fNil))) (fCons (fTupE (fCons (fUn gNeg (fC (.int 1))) (fCons (fC (.int 0)) fNil))) (fCons (fTupE (fCons (fC (.int 1)) (fCons (fC (.int 1)) fNil))) fNil))))) (fVar 7)) (fCons (fTupE (fCons (fBin gMul (fVar 10) (fVar 4)) (fCons (fBin gMul (fVar 10) (fVar 5)) fNil))) (fCons (fTupE (fCons (fVar 4) (fCons (fVar 5) fNil))) fNil))))) (fVar 2)))
    (fAppend 6 (fIf (fTest (fBin gNeU (fVar 11) (fTupE (fCons (fC (.int 0)) (fCons (fC (.int 0)) fNil))))) (fVar 11) (fTupE (fCons (fC (.int 1)) (fCons (fBin gSub (fC (.int 0)) (fVar 1)) fNil)))))))))
    (fRet (fN gTuple (fCons (fVar 6) fNil))))))))
def G_l_pulls : DFn := fun ρ post xp => F_l_pulls (ρ ++ List.replicate 10 none) (endS [0] 2 post xp)
/-- is_integer(value); slots: 0 value -/
def F_is_integer : FS :=
  (fRet (fAndV (fN (gIsi .int) (fCons (fVar 0) (fCons (fC (.ty "int")) fNil))) (fNotV (fN (gIsi .bool) (fCons (fVar 0) (fCons (fC (.ty "bool")) fNil))))))
def G_is_integer : DFn := fun ρ post xp => F_is_integer (ρ ++ List.replicate 0 none) (endS [] 1 post xp)
/-- is_pair(value); slots: 0 value -/
def F_is_pair : FS :=
  (fRet (fAndV (fN (gIsi .tuple) (fCons (fVar 0) (fCons (fC (.ty "tuple")) fNil))) (fAndV (fBin gEqU (fN gLen (fCons (fVar 0) fNil)) (fC (.int 2))) (fAndV (fCall G_is_integer [none] (oVal (fBin gIx (fVar 0) (fC (.int 0))) oNil)) (fCall G_is_integer [none] (oVal (fBin gIx (fVar 0) (fC (.int 1))) oNil))))))
def G_is_pair : DFn := fun ρ post xp => F_is_pair (ρ ++ List.replicate 0 none) (endS [] 1 post xp)
/-- is_pull(value); slots: 0 value -/
def F_is_pull : FS :=
  (fSeq (fIfS (fOr (fNot (fTest (fCall G_is_pair [none] (oVal (fVar 0) oNil)))) (fTest (fBin gEqU (fVar 0) (fTupE (fCons (fC (.int 0)) (fCons (fC (.int 0)) fNil))))))
    (fRet (fC (.bl false)))
    fNext)
    (fRet (fAndV (fBin gLe (fN gAbs (fCons (fBin gIx (fVar 0) (fC (.int 0))) fNil)) (fC (.int 9))) (fBin gLe (fN gAbs (fCons (fBin gIx (fVar 0) (fC (.int 1))) fNil)) (fC (.int 9))))))
def G_is_pull : DFn := fun ρ post xp => F_is_pull (ρ ++ List.replicate 0 none) (endS [] 1 post xp)
/-- Field.__init__(self, pulls); slots: 0 self, 1 pulls, 2 value -/
def F_Field___init__ : FS :=
  (fSeq (fIfS (fOr (fNot (fTest (fChain gLe gLe (fC (.int 1)) (fN gLen (fCons (fVar 1) fNil)) (fC (.int 4))))) (fNot (fTest (fN gAll (fCons (fLc (fSeqI (fVar 1)) [2] (gNm 2) tYesD (fCall G_is_pull [none] (oVal (fVar 2) oNil))) fNil)))))
    (fRaise0 "InvalidPulls")
    fNext)
    (fPutF 0 "Field" "vectors" (fVar 1)))
def G_Field___init__ : DFn := fun ρ post xp => F_Field___init__ (ρ ++ List.replicate 1 none) (endS [0] 2 post xp)
/-- _law_field(_law_pulls_here); slots: 0 _law_pulls_here -/
def F_l_field : FS :=
  (fSeq (fIfS (fTest (fBin gEqU (fN gLen (fCons (fVar 0) fNil)) (fC (.int 1))))
    (fRet (fMakeS "Field" G_Field___init__ (fCons (fBin gIx (fVar 0) (fC (.int 0))) fNil)))
    fNext)
    (fSeq (fIfS (fTest (fBin gEqU (fN gLen (fCons (fVar 0) fNil)) (fC (.int 2))))
    (fRet (fMakeS "Field" G_Field___init__ (fCons (fBin gIx (fVar 0) (fC (.int 0))) (fCons (fBin gIx (fVar 0) (fC (.int 1))) fNil))))
    fNext)
    (fSeq (fIfS (fTest (fBin gEqU (fN gLen (fCons (fVar 0) fNil)) (fC (.int 3))))
    (fRet (fMakeS "Field" G_Field___init__ (fCons (fBin gIx (fVar 0) (fC (.int 0))) (fCons (fBin gIx (fVar 0) (fC (.int 1))) (fCons (fBin gIx (fVar 0) (fC (.int 2))) fNil)))))
    fNext)
    (fRet (fMakeS "Field" G_Field___init__ (fCons (fBin gIx (fVar 0) (fC (.int 0))) (fCons (fBin gIx (fVar 0) (fC (.int 1))) (fCons (fBin gIx (fVar 0) (fC (.int 2))) (fCons (fBin gIx (fVar 0) (fC (.int 3))) fNil)))))))))
def G_l_field : DFn := fun ρ post xp => F_l_field (ρ ++ List.replicate 0 none) (endS [] 1 post xp)
/-- _law_place(_law_pen_here, _law_wide); slots: 0 _law_pen_here, 1 _law_wide, 2 _law_x, 3 _law_y, 4 _law_far -/
def F_l_place : FS :=
  (fSeq (fPar 2 3 (fCons (fBin gSub (fCall G_l_draw [some 0, none] (oOwn 0 (oVal (fBin gAdd (fBin gMul (fC (.int 2)) (fVar 1)) (fC (.int 1))) oNil))) (fVar 1)) (fCons (fBin gSub (fCall G_l_draw [some 0, none] (oOwn 0 (oVal (fBin gAdd (fBin gMul (fC (.int 2)) (fVar 1)) (fC (.int 1))) oNil))) (fVar 1)) fNil)))
    (fSeq (fSet 4 (fBin gIx (fLstE (fCons (fC (.int 1)) (fCons (fBin gFdiv (fBin gPow (fC (.int 10)) (fC (.int 11))) (fN gMax2 (fCons (fC (.int 1)) (fCons (fVar 1) fNil)))) fNil))) (fN gInt (fCons (fBin gEqU (fCall G_l_draw [some 0, none] (oOwn 0 (oVal (fC (.int 6)) oNil))) (fC (.int 0))) fNil))))
    (fRet (fTupE (fCons (fBin gMul (fVar 2) (fVar 4)) (fCons (fBin gMul (fVar 3) (fVar 4)) fNil))))))
def G_l_place : DFn := fun ρ post xp => F_l_place (ρ ++ List.replicate 3 none) (endS [0] 2 post xp)
/-- _law_counts(_law_pen_here, _law_many, _law_most); slots: 0 _law_pen_here, 1 _law_many, 2 _law_most, 3 _law_found, 4 _law_k, 5 _law_some -/
def F_l_counts : FS :=
  (fSeq (fSetN 3 (fLstE fNil))
    (fSeq (fFor (fRange1 (fCons (fVar 1) fNil)) (gNm 4)
    (fSeq (fSet 5 (fLstE (fCons (fC (.int 0)) (fCons (fBin gSub (fCall G_l_draw [some 0, none] (oOwn 0 (oVal (fBin gAdd (fBin gMul (fC (.int 2)) (fVar 2)) (fC (.int 1))) oNil))) (fVar 2)) fNil))))
    (fAppend 3 (fBin gIx (fVar 5) (fCall G_l_draw [some 0, none] (oOwn 0 (oVal (fC (.int 2)) oNil)))))))
    (fRet (fN gTuple (fCons (fVar 3) fNil)))))
def G_l_counts : DFn := fun ρ post xp => F_l_counts (ρ ++ List.replicate 3 none) (endS [0] 3 post xp)
/-- _law_laid(_law_pieces); slots: 0 _law_pieces, 1 _law_found, 2 _law_place_here, 3 _law_counts_here, 4 _law_old, 5 _law_k -/
def F_l_laid : FS :=
  (fSeq (fSetN 1 (fC (.dt [])))
    (fSeq (fFor (fSeqI (fVar 0)) (gTp (gCn (gNm 2) (gCn (gNm 3) gNl)))
    (fSeq (fSet 4 (fGetO 1 (fVar 2) (fBin gMul (fTupE (fCons (fC (.int 0)) fNil)) (fN gLen (fCons (fVar 3) fNil)))))
    (fPutO 1 (fN gTuple (fCons (fLc (fRange1 (fCons (fN gLen (fCons (fVar 3) fNil)) fNil)) [5] (gNm 5) tYesD (fBin gAdd (fBin gIx (fVar 4) (fVar 5)) (fBin gIx (fVar 3) (fVar 5)))) fNil)) (fVar 2))))
    (fRet (fN gTuple (fCons (fN gSortI (fCons (fLc (fKeysI (fVar 1)) [2] (gNm 2) (fTest (fBin gNeU (fBin gIx (fVar 1) (fVar 2)) (fBin gMul (fTupE (fCons (fC (.int 0)) fNil)) (fN gLen (fCons (fBin gIx (fVar 1) (fVar 2)) fNil))))) (fTupE (fCons (fVar 2) (fCons (fBin gIx (fVar 1) (fVar 2)) fNil)))) fNil)) fNil)))))
def G_l_laid : DFn := fun ρ post xp => F_l_laid (ρ ++ List.replicate 5 none) (endS [] 1 post xp)
/-- _law_odd(_law_pen_here); slots: 0 _law_pen_here -/
def F_l_odd : FS :=
  (fRet (fBin gIx (fLstE (fCons (fC .non) (fCons (fC (.bl true)) (fCons (fC (.str "a")) (fCons (fTupE (fCons (fC (.int 1)) fNil)) (fCons (fTupE (fCons (fC (.int 1)) (fCons (fC (.int 2)) (fCons (fC (.int 3)) fNil)))) (fCons (fLstE (fCons (fC (.int 1)) (fCons (fC (.int 2)) fNil))) (fCons (fTupE (fCons (fC (.int 1)) (fCons (fC (.bl true)) fNil))) (fCons (fTupE (fCons (fC (.str "0")) (fCons (fC (.int 0)) fNil))) (fCons (fC (.dk [])) (fCons (fTupE fNil) (fCons (fTupE (fCons (fTupE (fCons (fC (.int 0)) (fCons (fC (.int 0)) fNil))) (fCons (fC (.int 0)) fNil))) fNil)))))))))))) (fCall G_l_draw [some 0, none] (oOwn 0 (oVal (fC (.int 11)) oNil)))))
def G_l_odd : DFn := fun ρ post xp => F_l_odd (ρ ++ List.replicate 0 none) (endS [0] 1 post xp)
/-- _law_spoiled(_law_pen_here, _law_spot, _law_rows); slots: 0 _law_pen_here, 1 _law_spot, 2 _law_rows, 3 _law_way, 4 _law_at, 5 _law_odd_here, 6 _law_near, 7 _law_place_here, 8 _law_counts_here, 9 _law_far, 10 _law_row -/
def F_l_spoiled : FS :=
  (fSeq (fPar3 3 4 5 (fCons (fCall G_l_draw [some 0, none] (oOwn 0 (oVal (fC (.int 15)) oNil))) (fCons (fCall G_l_draw [some 0, none] (oOwn 0 (oVal (fC (.int 4)) oNil))) (fCons (fCall G_l_odd [some 0] (oOwn 0 oNil)) fNil))))
    (fSeq (fPar3 6 7 8 (fCons (fCut (fVar 2) oNone (oSome (fVar 4))) (fCons (fTupE (fCons (fC (.int 3)) (fCons (fC (.int 3)) fNil))) (fCons (fTupE (fCons (fC (.int 1)) fNil)) fNil))))
    (fSeq (fIfS (fTest (fBin gNeU (fCut (fVar 2) (oSome (fVar 4)) oNone) (fLstE fNil)))
    (fAsg (gTp (gCn (gNm 7) (gCn (gNm 8) gNl))) (fBin gIx (fVar 2) (fVar 4)))
    fNext)
    (fSeq (fSet 9 (fCut (fVar 2) (oSome (fBin gAdd (fVar 4) (fC (.int 1)))) oNone))
    (fSeq (fSet 10 (fLstE (fCons (fTupE (fCons (fVar 5) (fCons (fVar 8) fNil))) (fCons (fTupE (fCons (fVar 7) (fCons (fVar 5) fNil))) (fCons (fTupE (fCons (fVar 7) (fCons (fBin gAdd (fVar 8) (fTupE (fCons (fC (.int 0)) fNil))) fNil))) (fCons (fTupE (fCons (fVar 7) (fCons (fBin gAdd (fCut (fVar 8) oNone (oSome (fUn gNeg (fC (.int 1))))) (fTupE (fCons (fVar 5) fNil))) fNil))) (fCons (fTupE (fCons (fVar 7) (fCons (fVar 8) (fCons (fC (.int 0)) fNil)))) (fCons (fTupE (fCons (fVar 7) fNil)) (fCons (fLstE (fCons (fVar 7) (fCons (fVar 8) fNil))) (fCons (fTupE (fCons (fVar 7) (fCons (fN gList (fCons (fVar 8) fNil)) fNil))) (fCons (fTupE (fCons (fVar 7) (fCons (fBin gMul (fTupE (fCons (fC (.int 0)) fNil)) (fN gLen (fCons (fVar 8) fNil))) fNil))) fNil)))))))))))
    (fSeq (fIfS (fTest (fBin gLt (fVar 3) (fC (.int 9))))
    (fRet (fTupE (fCons (fVar 1) (fCons (fN gTuple (fCons (fBin gAdd (fBin gAdd (fVar 6) (fLstE (fCons (fBin gIx (fVar 10) (fVar 3)) fNil))) (fVar 9)) fNil)) fNil))))
    fNext)
    (fSeq (fIfS (fTest (fBin gEqU (fVar 3) (fC (.int 9))))
    (fRet (fTupE (fCons (fVar 1) (fCons (fN gTuple (fCons (fBin gAdd (fBin gAdd (fVar 6) (fLstE (fCons (fTupE (fCons (fVar 7) (fCons (fVar 8) fNil))) (fCons (fTupE (fCons (fVar 7) (fCons (fVar 8) fNil))) fNil)))) (fVar 9)) fNil)) fNil))))
    fNext)
    (fSeq (fIfS (fTest (fBin gEqU (fVar 3) (fC (.int 10))))
    (fRet (fTupE (fCons (fVar 5) (fCons (fN gTuple (fCons (fVar 2) fNil)) fNil))))
    fNext)
    (fSeq (fIfS (fTest (fBin gEqU (fVar 3) (fC (.int 11))))
    (fRet (fBin gIx (fLstE (fCons (fTupE (fCons (fVar 1) (fCons (fN gTuple (fCons (fVar 2) fNil)) (fCons (fTupE fNil) fNil)))) (fCons (fTupE (fCons (fVar 1) (fCons (fN gList (fCons (fVar 2) fNil)) fNil))) (fCons (fLstE (fCons (fVar 1) (fCons (fN gTuple (fCons (fVar 2) fNil)) fNil))) (fCons (fVar 5) fNil))))) (fVar 4)))
    fNext)
    (fSeq (fIfS (fTest (fBin gEqU (fVar 3) (fC (.int 12))))
    (fRet (fTupE (fCons (fVar 1) (fCons (fN gTuple (fCons (fBack (fVar 2) (oSome (fUn gNeg (fC (.int 1))))) fNil)) fNil))))
    fNext)
    (fRet (fTupE (fCons (fVar 1) (fCons (fN gTuple (fCons (fVar 2) fNil)) fNil))))))))))))))
def G_l_spoiled : DFn := fun ρ post xp => F_l_spoiled (ρ ++ List.replicate 8 none) (endS [0] 3 post xp)
/-- _law_is_pair(_law_thing); slots: 0 _law_thing, 1 _law_n -/
def F_l_is_pair : FS :=
  (fSeq (fIfS (fOr (fNot (fTest (fN (gIsi .tuple) (fCons (fVar 0) (fCons (fC (.ty "tuple")) fNil))))) (fTest (fBin gNeU (fN gLen (fCons (fVar 0) fNil)) (fC (.int 2)))))
    (fRet (fC (.bl false)))
    fNext)
    (fRet (fBin gEqU (fLc (fSeqI (fVar 0)) [1] (gNm 1) (fOr (fNot (fTest (fN (gIsi .int) (fCons (fVar 1) (fCons (fC (.ty "int")) fNil))))) (fTest (fN (gIsi .bool) (fCons (fVar 1) (fCons (fC (.ty "bool")) fNil))))) (fVar 1)) (fLstE fNil))))
def G_l_is_pair : DFn := fun ρ post xp => F_l_is_pair (ρ ++ List.replicate 1 none) (endS [] 1 post xp)
/-- _law_is_row(_law_row, _law_kinds); slots: 0 _law_row, 1 _law_kinds, 2 _law_good, 3 _law_count -/
def F_l_is_row : FS :=
  (fSeq (fIfS (fOr (fNot (fTest (fN (gIsi .tuple) (fCons (fVar 0) (fCons (fC (.ty "tuple")) fNil))))) (fOr (fTest (fBin gNeU (fN gLen (fCons (fVar 0) fNil)) (fC (.int 2)))) (fOr (fNot (fTest (fCall G_l_is_pair [none] (oVal (fBin gIx (fVar 0) (fC (.int 0))) oNil)))) (fNot (fTest (fN (gIsi .tuple) (fCons (fBin gIx (fVar 0) (fC (.int 1))) (fCons (fC (.ty "tuple")) fNil))))))))
    (fRet (fC (.bl false)))
    fNext)
    (fSeq (fSet 2 (fLc (fSeqI (fBin gIx (fVar 0) (fC (.int 1)))) [3] (gNm 3) (fAnd (fTest (fN (gIsi .int) (fCons (fVar 3) (fCons (fC (.ty "int")) fNil)))) (fNot (fTest (fN (gIsi .bool) (fCons (fVar 3) (fCons (fC (.ty "bool")) fNil)))))) (fVar 3)))
    (fRet (fAndV (fBin gEqU (fN gLen (fCons (fVar 2) fNil)) (fVar 1)) (fBin gEqU (fN gLen (fCons (fBin gIx (fVar 0) (fC (.int 1))) fNil)) (fVar 1))))))
def G_l_is_row : DFn := fun ρ post xp => F_l_is_row (ρ ++ List.replicate 2 none) (endS [] 2 post xp)
/-- _law_fits(_law_thing, _law_kinds); slots: 0 _law_thing, 1 _law_kinds, 2 _law_last, 3 _law_row -/
def F_l_fits : FS :=
  (fSeq (fIfS (fOr (fNot (fTest (fN (gIsi .tuple) (fCons (fVar 0) (fCons (fC (.ty "tuple")) fNil))))) (fOr (fTest (fBin gNeU (fN gLen (fCons (fVar 0) fNil)) (fC (.int 2)))) (fOr (fNot (fTest (fCall G_l_is_pair [none] (oVal (fBin gIx (fVar 0) (fC (.int 0))) oNil)))) (fNot (fTest (fN (gIsi .tuple) (fCons (fBin gIx (fVar 0) (fC (.int 1))) (fCons (fC (.ty "tuple")) fNil))))))))
    (fRet (fC (.bl false)))
    fNext)
    (fSeq (fSet 2 (fC .non))
    (fSeq (fFor (fSeqI (fBin gIx (fVar 0) (fC (.int 1)))) (gNm 3)
    (fSeq (fIfS (fOr (fNot (fTest (fCall G_l_is_row [none, none] (oVal (fVar 3) (oVal (fVar 1) oNil))))) (fOr (fTest (fBin gEqU (fBin gIx (fVar 3) (fC (.int 1))) (fBin gMul (fTupE (fCons (fC (.int 0)) fNil)) (fVar 1)))) (fAnd (fTest (fBin gIsNot (fVar 2) (fC .non))) (fTest (fBin gLe (fBin gIx (fVar 3) (fC (.int 0))) (fVar 2))))))
    (fRet (fC (.bl false)))
    fNext)
    (fSet 2 (fBin gIx (fVar 3) (fC (.int 0))))))
    (fRet (fC (.bl true))))))
def G_l_fits : DFn := fun ρ post xp => F_l_fits (ρ ++ List.replicate 2 none) (endS [] 2 post xp)
/-- Field.kinds(self); slots: 0 self -/
def F_Field_kinds : FS :=
  (fRet (fN gLen (fCons (fUn (gFld "Field" "vectors") (fVar 0)) fNil)))
def G_Field_kinds : DFn := fun ρ post xp => F_Field_kinds (ρ ++ List.replicate 0 none) (endS [] 1 post xp)
/-- are_counts(field, value); slots: 0 field, 1 value, 2 count -/
def F_are_counts : FS :=
  (fRet (fAndV (fN (gIsi .tuple) (fCons (fVar 1) (fCons (fC (.ty "tuple")) fNil))) (fAndV (fBin gEqU (fN gLen (fCons (fVar 1) fNil)) (fProp "Field" G_Field_kinds (fVar 0))) (fN gAll (fCons (fLc (fSeqI (fVar 1)) [2] (gNm 2) tYesD (fCall G_is_integer [none] (oVal (fVar 2) oNil))) fNil)))))
def G_are_counts : DFn := fun ρ post xp => F_are_counts (ρ ++ List.replicate 1 none) (endS [] 2 post xp)
/-- is_piece(field, value); slots: 0 field, 1 value -/
def F_is_piece : FS :=
  (fRet (fAndV (fN (gIsi .tuple) (fCons (fVar 1) (fCons (fC (.ty "tuple")) fNil))) (fAndV (fBin gEqU (fN gLen (fCons (fVar 1) fNil)) (fC (.int 2))) (fAndV (fCall G_is_pair [none] (oVal (fBin gIx (fVar 1) (fC (.int 0))) oNil)) (fCall G_are_counts [none, none] (oVal (fVar 0) (oVal (fBin gIx (fVar 1) (fC (.int 1))) oNil)))))))
def G_is_piece : DFn := fun ρ post xp => F_is_piece (ρ ++ List.replicate 0 none) (endS [] 2 post xp)
/-- are_pieces(field, value); slots: 0 field, 1 value, 2 piece, 3 later, 4 place, 5 counts -/
def F_are_pieces : FS :=
  (fSeq (fIfS (fOr (fNot (fTest (fN (gIsi .tuple) (fCons (fVar 1) (fCons (fC (.ty "tuple")) fNil))))) (fNot (fTest (fN gAll (fCons (fLc (fSeqI (fVar 1)) [2] (gNm 2) tYesD (fCall G_is_piece [none, none] (oVal (fVar 0) (oVal (fVar 2) oNil)))) fNil)))))
    (fRet (fC (.bl false)))
    fNext)
    (fSeq (fIfS (fNot (fTest (fN gAll (fCons (fLc (fSeqI (fVar 1)) [4, 5] (gTp (gCn (gNm 4) (gCn (gNm 5) gNl))) tYesD (fN gAnyI (fCons (fN gList (fCons (fVar 5) fNil)) fNil))) fNil))))
    (fRet (fC (.bl false)))
    fNext)
    (fRet (fN gAll (fCons (fLc (fZip (fCons (fVar 1) (fCons (fCut (fVar 1) (oSome (fC (.int 1))) oNone) fNil))) [2, 3] (gTp (gCn (gNm 2) (gCn (gNm 3) gNl))) tYesD (fBin gLt (fBin gIx (fVar 2) (fC (.int 0))) (fBin gIx (fVar 3) (fC (.int 0))))) fNil)))))
def G_are_pieces : DFn := fun ρ post xp => F_are_pieces (ρ ++ List.replicate 4 none) (endS [] 2 post xp)
/-- added(one, other); slots: 0 one, 1 other, 2 count, 3 more -/
def F_added : FS :=
  (fRet (fN gTuple (fCons (fLc (fZip (fCons (fVar 0) (fCons (fVar 1) fNil))) [2, 3] (gTp (gCn (gNm 2) (gCn (gNm 3) gNl))) tYesD (fBin gAdd (fVar 2) (fVar 3))) fNil)))
def G_added : DFn := fun ρ post xp => F_added (ρ ++ List.replicate 2 none) (endS [] 2 post xp)
/-- merged(pieces); slots: 0 pieces, 1 found, 2 place, 3 counts -/
def F_merged : FS :=
  (fSeq (fSetN 1 (fC (.dt [])))
    (fSeq (fFor (fSeqI (fVar 0)) (gTp (gCn (gNm 2) (gCn (gNm 3) gNl)))
    (fPutO 1 (fIf (fTest (fBin gIn (fVar 2) (fVar 1))) (fCall G_added [none, none] (oVal (fBinL gIx 1 (fVar 2)) (oVal (fVar 3) oNil))) (fVar 3)) (fVar 2)))
    (fRet (fDc (fItemsT (fVar 1)) [2, 3] (gTp (gCn (gNm 2) (gCn (gNm 3) gNl))) (fTest (fN gAnyI (fCons (fN gList (fCons (fVar 3) fNil)) fNil))) (fVar 2) (fVar 3)))))
def G_merged : DFn := fun ρ post xp => F_merged (ρ ++ List.replicate 3 none) (endS [] 1 post xp)
/-- State.__init__(self, field, position, pieces); slots: 0 self, 1 field, 2 position, 3 pieces, 4 piece -/
def F_State___init__ : FS :=
  (fSeq (fIfS (fOr (fNot (fTest (fCall G_is_pair [none] (oVal (fVar 2) oNil)))) (fNot (fTest (fN gAll (fCons (fLc (fSeqI (fVar 3)) [4] (gNm 4) tYesD (fCall G_is_piece [none, none] (oVal (fVar 1) (oVal (fVar 4) oNil)))) fNil)))))
    (fRaise0 "InvalidState")
    fNext)
    (fSeq (fPutF 0 "State" "ground" (fVar 1))
    (fSeq (fPutF 0 "State" "stand" (fVar 2))
    (fSeq (fPutF 0 "State" "laid" (fCall G_merged [none] (oVal (fVar 3) oNil)))
    (fSeq (fPutF 0 "State" "rows" (fN gTuple (fCons (fSortIt (fUn (gFld "State" "laid") (fVar 0))) fNil)))
    (fPutF 0 "State" "key" (fTupE (fCons (fVar 2) (fCons (fUn (gFld "State" "rows") (fVar 0)) fNil)))))))))
def G_State___init__ : DFn := fun ρ post xp => F_State___init__ (ρ ++ List.replicate 1 none) (endS [0] 4 post xp)
/-- State.of(cls, field, parts); slots: 0 cls, 1 field, 2 parts, 3 position, 4 pieces -/
def F_State_of : FS :=
  (fSeq (fIfS (fOr (fNot (fTest (fN (gIsi .tuple) (fCons (fVar 2) (fCons (fC (.ty "tuple")) fNil))))) (fOr (fTest (fBin gNeU (fN gLen (fCons (fVar 2) fNil)) (fC (.int 2)))) (fNot (fTest (fCall G_are_pieces [none, none] (oVal (fVar 1) (oVal (fBin gIx (fVar 2) (fC (.int 1))) oNil)))))))
    (fRaise0 "InvalidState")
    fNext)
    (fSeq (fAsg (gTp (gCn (gNm 3) (gCn (gNm 4) gNl))) (fVar 2))
    (fRet (fMakeL 0 "State" 2 G_State___init__ (fCons (fVar 1) (fCons (fVar 3) (fStar (fVar 4))))))))
def G_State_of : DFn := fun ρ post xp => F_State_of (ρ ++ List.replicate 2 none) (endS [] 3 post xp)
/-- Field.__eq__(self, other); slots: 0 self, 1 other -/
def F_Field___eq__ : FS :=
  (fRet (fAndV (fIsiOwn "Field" (fVar 1)) (fBin gEqU (fUn (gFld "Field" "vectors") (fVar 0)) (fUn (gFld "Field" "vectors") (fVar 1)))))
def G_Field___eq__ : DFn := fun ρ post xp => F_Field___eq__ (ρ ++ List.replicate 0 none) (endS [] 2 post xp)
/-- State.field(self); slots: 0 self -/
def F_State_field : FS :=
  (fRet (fUn (gFld "State" "ground") (fVar 0)))
def G_State_field : DFn := fun ρ post xp => F_State_field (ρ ++ List.replicate 0 none) (endS [] 1 post xp)
/-- State.parts(self); slots: 0 self -/
def F_State_parts : FS :=
  (fRet (fUn (gFld "State" "key") (fVar 0)))
def G_State_parts : DFn := fun ρ post xp => F_State_parts (ρ ++ List.replicate 0 none) (endS [] 1 post xp)
/-- _law_told(_law_ground, _law_thing); slots: 0 _law_ground, 1 _law_thing, 2 _law_caught, 3 _law_state, 4 e, 5 _law_is_right -/
def F_l_told : FS :=
  (fSeq (fSet 2 (fC .non))
    (fSeq (fSet 3 (fC .non))
    (fSeq (fTryKeep [("InvalidPulls", true), ("InvalidState", true)] 4 2 (fSet 3 (fCall G_State_of [none, none, none] (oVal (fC (.cl "State")) (oVal (fVar 0) (oVal (fVar 1) oNil))))))
    (fSeq (fIfS (fTest (fBin gIs (fVar 2) (fC .non)))
    (fRet (fIf (fTest (fEqOwn "Field" false G_Field___eq__ (fProp "State" G_State_field (fVar 3)) (fVar 0))) (fProp "State" G_State_parts (fVar 3)) (fC (.str "field"))))
    fNext)
    (fSeq (fSet 5 (fAndV (fIsiX [("InvalidPulls", false), ("InvalidState", true)] (fVar 2)) (fNotV (fIsiX [("InvalidPulls", true), ("InvalidState", false)] (fVar 2)))))
    (fRet (fIf (fTest (fVar 5)) (fC (.str "invalid")) (fC (.str "other")))))))))
def G_l_told : DFn := fun ρ post xp => F_l_told (ρ ++ List.replicate 4 none) (endS [] 2 post xp)
/-- _law_put(_law_ground, _law_spot, _law_row); slots: 0 _law_ground, 1 _law_spot, 2 _law_row, 3 _law_caught, 4 _law_state, 5 e -/
def F_l_put : FS :=
  (fSeq (fSet 3 (fC .non))
    (fSeq (fSet 4 (fC .non))
    (fSeq (fTryKeep [("InvalidPulls", false), ("InvalidState", true)] 5 3 (fSet 4 (fMakeSn "State" 2 G_State___init__ (fCons (fVar 0) (fCons (fVar 1) (fCons (fVar 2) (fCons (fVar 2) fNil)))))))
    (fRet (fIf (fTest (fBin gIsNot (fVar 3) (fC .non))) (fC (.str "invalid")) (fProp "State" G_State_parts (fVar 4)))))))
def G_l_put : DFn := fun ρ post xp => F_l_put (ρ ++ List.replicate 3 none) (endS [] 3 post xp)
/-- law(_law_script); slots: 0 _law_script, 1 _law_pen_here, 2 _law_turn, 3 _law_pulls_here, 4 _law_ground, 5 _law_wide, 6 _law_heap, 7 _law_rows, 8 _law_spot, 9 _law_thing, 10 _law_due, 11 _law_odd_here, 12 _law_row, 13 _law_k -/
def F_law : FS :=
  (fSeq (fSetN 1 (fCall G_l_pen [none] (oVal (fVar 0) oNil)))
    (fSeq (fFor (fRange1 (fCons (fC (.int 6)) fNil)) (gNm 2)
    (fSeq (fSet 3 (fCall G_l_pulls [some 1, none] (oOwn 1 (oVal (fC (.int 3)) oNil))))
    (fSeq (fAsg (gTp (gCn (gNm 4) (gCn (gNm 5) gNl))) (fTupE (fCons (fCall G_l_field [none] (oVal (fVar 3) oNil)) (fCons (fBin gAdd (fC (.int 1)) (fCall G_l_draw [some 1, none] (oOwn 1 (oVal (fC (.int 3)) oNil)))) fNil))))
    (fSeq (fSet 6 (fLc (fRange1 (fCons (fCall G_l_draw [some 1, none] (oOwn 1 (oVal (fC (.int 5)) oNil))) fNil)) [13] (gNm 13) tYesD (fTupE (fCons (fCall G_l_place [some 1, none] (oOwn 1 (oVal (fVar 5) oNil))) (fCons (fCall G_l_counts [some 1, none, none] (oOwn 1 (oVal (fN gLen (fCons (fVar 3) fNil)) (oVal (fC (.int 2)) oNil)))) fNil)))))
    (fSeq (fSet 7 (fN gList (fCons (fCall G_l_laid [none] (oVal (fVar 6) oNil)) fNil)))
    (fSeq (fSet 8 (fCall G_l_place [some 1, none] (oOwn 1 (oVal (fVar 5) oNil))))
    (fSeq (fSet 9 (fCall G_l_spoiled [some 1, none, none] (oOwn 1 (oVal (fVar 8) (oVal (fVar 7) oNil)))))
    (fSeq (fSet 10 (fIf (fTest (fCall G_l_fits [none, none] (oVal (fVar 9) (oVal (fN gLen (fCons (fVar 3) fNil)) oNil)))) (fVar 9) (fC (.str "invalid"))))
    (fSeq (fIfS (fTest (fBin gNeU (fN gRepr (fCons (fCall G_l_told [none, none] (oVal (fVar 4) (oVal (fVar 9) oNil))) fNil)) (fN gRepr (fCons (fVar 10) fNil))))
    (fRet (fC (.bl false)))
    fNext)
    (fSeq (fSet 11 (fCall G_l_odd [some 1] (oOwn 1 oNil)))
    (fSeq (fFor (fSeqI (fLstE (fCons (fTupE (fCons (fVar 8) (fCons (fVar 11) fNil))) (fCons (fTupE (fCons (fVar 11) (fCons (fBin gMul (fTupE (fCons (fC (.int 1)) fNil)) (fN gLen (fCons (fVar 3) fNil))) fNil))) (fCons (fVar 11) (fCons (fTupE (fCons (fVar 8) (fCons (fBin gMul (fTupE (fCons (fC (.int 0)) fNil)) (fN gLen (fCons (fVar 3) fNil))) fNil))) (fCons (fTupE (fCons (fVar 8) (fCons (fBin gMul (fTupE (fCons (fC (.int 1)) fNil)) (fN gLen (fCons (fVar 3) fNil))) fNil))) fNil))))))) (gNm 12)
    (fSeq (fSet 10 (fIf (fTest (fCall G_l_is_row [none, none] (oVal (fVar 12) (oVal (fN gLen (fCons (fVar 3) fNil)) oNil)))) (fTupE (fCons (fVar 8) (fCons (fCall G_l_laid [none] (oVal (fLstE (fCons (fVar 12) (fCons (fVar 12) fNil))) oNil)) fNil))) (fC (.str "invalid"))))
    (fIfS (fTest (fBin gNeU (fN gRepr (fCons (fCall G_l_put [none, none, none] (oVal (fVar 4) (oVal (fVar 8) (oVal (fVar 12) oNil)))) fNil)) (fN gRepr (fCons (fVar 10) fNil))))
    (fRet (fC (.bl false)))
    fNext)))
    (fIfS (fTest (fBin gNeU (fCall G_l_put [none, none, none] (oVal (fVar 4) (oVal (fVar 11) (oVal (fTupE (fCons (fVar 8) (fCons (fBin gMul (fTupE (fCons (fC (.int 1)) fNil)) (fN gLen (fCons (fVar 3) fNil))) fNil))) oNil)))) (fC (.str "invalid"))))
    (fRet (fC (.bl false)))
    fNext))))))))))))
    (fRet (fC (.bl true)))))
def G_law : DFn := fun ρ post xp => F_law (ρ ++ List.replicate 13 none) (endS [] 1 post xp)
def pen (cs : List D) (a r : Int) : D := .dk [(.inr "cells", .lst cs), (.inr "at", .int a), (.inr "rest", .int r)]
theorem pen_ok {ns : List Int} {post : Post} {xp : XP} (hn : ns.length ≤ 63) (q : post (pen (ns.map .int) 0 0) [none]) : G_l_pen [some (.slst (ns.map .int))] post xp := by
  have hcut : cutL (List.map D.int ns) none (some 63) = List.map D.int ns := cutL_all (n := 63) (by simpa using hn)
  unfold G_l_pen F_l_pen
  simp [hcut]
  exact q
theorem draw_ok {ns : List Int} {a r m : Int} {post : Post} {xp : XP} (ha : 0 ≤ a) (ha2 : a ≤ 1000000) (hr : 0 ≤ r) (hm : 1 ≤ m) (hm2 : m ≤ 1000000)
    (h : ∀ k a' r', 0 ≤ k → k < m → a ≤ a' → a' ≤ a + 1 → 0 ≤ r' → post (.int k) [some (pen (ns.map .int) a' r'), none]) : G_l_draw [some (pen (ns.map .int) a r), some (.int m)] post xp := by
  have m0 : m ≠ 0 := by omega
  have mp : 0 < m := by omega
  have ml := log_small hm hm2
  have n0 : ns ≠ [] → (ns.length : Int) ≠ 0 := fun q z => q (List.eq_nil_of_length_eq_zero (by omega))
  have n1 : ns ≠ [] → 0 < (ns.length : Int) := fun q => by have := n0 q; omega
  have fin : ∀ (x r' a' : Int), a ≤ a' → a' ≤ a + 1 → 0 ≤ r' → post (.int (x.fmod m)) [some (.dk [(.inr "cells", .lst (ns.map .int)), (.inr "at", .int a'), (.inr "rest", .int r')]), none] := fun x r' a' h1 h2 h3 => h _ _ _ (fmod_nn mp) (fmod_lt mp) h1 h2 h3
  unfold G_l_draw F_l_draw pen
  by_cases hr0 : 0 < r
  · simp [hr0, m0, ml]
    exact fin _ _ _ (by omega) (by omega) (fdiv_nn hr mp)
  · have bad : CMulO 40093 a ∧ ∀ x : Int, (x.fmod 2147483587 + 40093 * a + 11).natAbs < 18446744073709551616 ∧ CMulO (((x.fmod 2147483587 + 40093 * a + 11) ^ 5).fmod 2147483647) (a + 50021) ∧ CMulO 70051 a ∧ CMulO (70051 * a) a ∧
        (((x.fmod 2147483587 + 40093 * a + 11) ^ 5).fmod 2147483647 * (a + 50021) + 70051 * a * a).natAbs < 18446744073709551616 ∧ Nat.log2 64 < 9000 :=
      ⟨cmul_l (by omega) (by omega), fun x => ⟨draw_sum (by omega) (by omega) (by omega) (by omega) (by omega) (by omega) (by omega) (by omega), cmul_r (by omega) (by omega), cmul_l (by omega) (by omega), cmul_r (by omega) (by omega), draw_bound (fmod_nn (by omega)) (fmod_lt (by omega)) (by omega) ha ha2 (by omega) (by omega) (by omega) (by omega), by decide⟩⟩
    obtain ⟨b1, b2⟩ := bad
    by_cases hc : ns = []
    · subst hc
      have ha' : ¬ a < 0 := by omega
      obtain ⟨b3, b4, b5, b6, b7, b8⟩ := b2 (30269 * a + 97)
      simp [hr0, m0, ml, ha', b1, b3, b4, b5, b6, b7, b8]
      exact ⟨cmul_l (by omega) (by omega), fin _ _ _ (by omega) (by omega) hr⟩
    · obtain ⟨c, hcx⟩ := atI_ex (a := ns) (i := a.fmod ns.length) (fmod_nn (n1 hc)) (fmod_lt (n1 hc))
      obtain ⟨b3, b4, b5, b6, b7, b8⟩ := b2 c
      by_cases z : c < 0
      · simp [hr0, m0, ml, hc, hcx, n0 hc, z, b1, b3, b4, b5, b6, b7, b8]
        refine ⟨cmul_l (by omega) (by omega), ?_⟩
        split
        · split
          · exact ⟨cmul_l (by omega) (by omega), fin _ _ _ (by omega) (by omega) (fdiv_nn (by omega) mp)⟩
          · exact fin _ _ _ (by omega) (by omega) hr
        · exact fin _ _ _ (by omega) (by omega) hr
      · simp [hr0, m0, ml, hc, hcx, n0 hc, z, b1, b3, b4, b5, b6, b7, b8]
        refine ⟨cmul_l (by omega) (by omega), ?_⟩
        split
        · split
          · exact ⟨cmul_l (by omega) (by omega), fin _ _ _ (by omega) (by omega) (fdiv_nn (by omega) mp)⟩
          · exact fin _ _ _ (by omega) (by omega) hr
        · exact fin _ _ _ (by omega) (by omega) hr

def fieldD (V : List Pt) : D := .obj "Field" [("vectors", .tup (V.map vt))]
@[simp] theorem isObj_fieldD (V : List Pt) : isObj "Field" (fieldD V) = True := by simp [fieldD]
theorem lookup_none {m : Str} : ∀ {fs : List (Str × D)}, (fs.lookup m = none) = ∀ f ∈ fs.map (·.1), m ≠ f
  | [] => by simp
  | (f, d) :: fs => by
    by_cases h : m = f
    · subst h; simp [List.lookup]
    · have : (m == f) = false := by simpa using h
      simp only [List.lookup, this, List.map_cons, List.mem_cons, forall_eq_or_imp]
      rw [lookup_none]; simp [h]
@[simp] theorem isObjM_fieldD (m : Str) (V : List Pt) : isObjM "Field" m (fieldD V) = (m ≠ "vectors") := by simp [fieldD, lookup_none, -List.lookup_eq_none_iff]
@[simp ↓] theorem gFld_fieldD (V : List Pt) (k) : gFld "Field" "vectors" (fieldD V) k = k (.tup (V.map vt)) := propext ⟨fun ⟨_, _, e, h⟩ => by cases e; exact h, fun h => ⟨rfl, _, rfl, h⟩⟩
structure Pul (V : List Pt) : Prop where
  h1 : 1 ≤ V.length
  h4 : V.length ≤ 4
  b : ∀ p ∈ V, (-9 ≤ p.1 ∧ p.1 ≤ 9) ∧ (-9 ≤ p.2 ∧ p.2 ≤ 9)
  nz : ∀ p ∈ V, p ≠ (0, 0)
theorem shaped_vt (p : Pt) : SeqAt.shaped (.tuple [.int p.1, .int p.2]) = true := by
  simp [SeqAt.shaped, PyData.canLay0, PyData.depth, PyData.canLayAll0, PyData.depthAll]
theorem ne_vt (p q : Pt) (k) : gNeU (vt p) (vt q) k = k (.bl (!decide (p = q))) := by
  show gNe _ _ _ = _
  have pp : ∀ p : Pt, pd (vt p) = some (.tuple [.int p.1, .int p.2]) := fun p => rfl
  rw [gNe_of (pp p) (pp q) (shaped_vt p) (shaped_vt q)]
  have e : PyData.eqv (.tuple [.int p.1, .int p.2]) (.tuple [.int q.1, .int q.2]) = decide (p = q) := by
    obtain ⟨a, b⟩ := p
    obtain ⟨c, d⟩ := q
    simp only [PyData.eqv, PyData.eqvAll, Prod.mk.injEq]
    by_cases h : a = c <;> by_cases h' : b = d <;> simp [h, h']
  rw [e]
theorem eq_vt (p q : Pt) (k) : gEqU (vt p) (vt q) k = k (.bl (decide (p = q))) := by
  show gEq _ _ _ = _
  have pp : ∀ p : Pt, pd (vt p) = some (.tuple [.int p.1, .int p.2]) := fun p => rfl
  rw [gEq_of (pp p) (pp q) (shaped_vt p) (shaped_vt q)]
  have e : PyData.eqv (.tuple [.int p.1, .int p.2]) (.tuple [.int q.1, .int q.2]) = decide (p = q) := by
    obtain ⟨a, b⟩ := p
    obtain ⟨c, d⟩ := q
    simp only [PyData.eqv, PyData.eqvAll, Prod.mk.injEq]
    by_cases h : a = c <;> by_cases h' : b = d <;> simp [h, h']
  rw [e]

theorem pulls_ok {ns : List Int} {a r m : Int} {post : Post} {xp : XP} (ha : 0 ≤ a) (ha2 : a ≤ 999000) (hr : 0 ≤ r) (hm : 1 ≤ m) (hm2 : m ≤ 9)
    (h : ∀ (V : List Pt) (a' r' : Int), Pul V → a ≤ a' → a' ≤ a + 20 → 0 ≤ r' → post (.tup (V.map vt)) [some (pen (ns.map .int) a' r'), none]) : G_l_pulls [some (pen (ns.map .int) a r), some (.int m)] post xp := by
  have dr : ∀ (a r m : Int) (post : Post) (xp : XP), 0 ≤ a → a ≤ 1000000 → 0 ≤ r → 1 ≤ m → m ≤ 1000000 → (∀ k a' r', 0 ≤ k → k < m → a ≤ a' → a' ≤ a + 1 → 0 ≤ r' → post (.int k) [some (pen (ns.map .int) a' r'), none]) → G_l_draw [some (pen (ns.map .int) a r), some (.int m)] post xp :=
    fun a r m post xp h1 h2 h3 h4 h5 h6 => draw_ok h1 h2 h3 h4 h5 h6
  unfold G_l_pulls F_l_pulls
  generalize G_l_draw = G at dr ⊢
  simp -dsimp
  refine dr _ _ _ _ _ ha (by omega) hr (by omega) (by omega) fun way a1 r1 w0 w4 _ _ _ => ?_
  simp -dsimp
  refine dr _ _ _ _ _ (by omega) (by omega) (by omega) (by omega) (by omega) fun many a2 r2 m0 m4 _ _ _ => ?_
  simp -dsimp
  refine ⟨cmul_l (by omega) (by omega), ?_⟩
  refine dr _ _ _ _ _ (by omega) (by omega) (by omega) (by omega) (by omega) fun pa a3 r3 _ _ _ _ _ => ?_
  simp -dsimp
  refine ⟨cmul_l (by omega) (by omega), ?_⟩
  refine dr _ _ _ _ _ (by omega) (by omega) (by omega) (by omega) (by omega) fun pb a4 r4 _ _ _ _ _ => ?_
  simp -dsimp
  refine ⟨by omega, ?_⟩
  refine loop_inv (fun ds ρ => ∃ (W : List Pt) (j : Nat) (a' r' : Int) (x7 x8 x9 x10 x11 : Option D), ds = (List.range' j ds.length).map (fun k : Nat => D.int (k : Int)) ∧ j + ds.length = (1 + many).toNat ∧ W.length = j ∧ (∀ p ∈ W, ((-9 ≤ p.1 ∧ p.1 ≤ 9) ∧ (-9 ≤ p.2 ∧ p.2 ≤ 9)) ∧ p ≠ (0, 0)) ∧ a ≤ a' ∧ a' ≤ a4 + 3 * j ∧ 0 ≤ r' ∧
    ρ = [some (pen (ns.map .int) a' r'), some (.int m), some (.int way), some (.int (1 + many)), some (.int (pa - m)), some (.int (pb - m)), some (.lst (W.map vt)), x7, x8, x9, x10, x11]) ?_ ?_ _ _ ⟨[], 0, a4, r4, _, _, _, _, _, by simp [List.range_eq_range'], by simp, rfl, by simp, by omega, by omega, by omega, rfl⟩
  · rintro ρ ⟨W, j, a', r', x7, x8, x9, x10, x11, _, hj, hW, hw, h1, h2, h3, rfl⟩
    simp at hj
    simp -dsimp
    exact h W a' r' ⟨by omega, by omega, fun p hp => (hw p hp).1, fun p hp => (hw p hp).2⟩ h1 (by omega) h3
  · rintro d ds ρ N hN ⟨W, j, a', r', x7, x8, x9, x10, x11, ed, hj, hW, hw, h1, h2, h3, rfl⟩
    simp only [List.length_cons, List.range'_succ, List.map_cons, List.cons.injEq] at ed hj
    obtain ⟨rfl, ed⟩ := ed
    simp -dsimp
    refine ⟨cmul_l (by omega) (by omega), ?_⟩
    refine dr _ _ _ _ _ (by omega) (by omega) (by omega) (by omega) (by omega) fun qa a5 r5 _ _ _ _ _ => ?_
    simp -dsimp
    refine ⟨cmul_l (by omega) (by omega), ?_⟩
    refine dr _ _ _ _ _ (by omega) (by omega) (by omega) (by omega) (by omega) fun qb a6 r6 _ _ _ _ _ => ?_
    simp -dsimp
    refine dr _ _ _ _ _ (by omega) (by omega) (by omega) (by omega) (by omega) fun qt a7 r7 _ _ _ _ _ => ?_
    simp -dsimp
    refine ⟨cmul_r (by omega) (by omega), ?_⟩
    refine ix_drawn (by omega) (by simp; omega) fun z hz => ?_
    obtain ⟨u, rfl, hu⟩ : ∃ u : Pt, z = vt u ∧ (-1 ≤ u.1 ∧ u.1 ≤ 1) ∧ -1 ≤ u.2 ∧ u.2 ≤ 1 := by
      simp at hz
      rcases hz with rfl | rfl | rfl | rfl <;> exact ⟨(_, _), rfl, by decide, by decide⟩
    refine ⟨cmul_l (by omega) (by omega), cmul_l (by omega) (by omega), ?_⟩
    refine ix_drawn (by omega) (by simp; omega) fun z hz => ?_
    obtain ⟨v, rfl, hv⟩ : ∃ v : Pt, z = vt v ∧ (-m ≤ v.1 ∧ v.1 ≤ m) ∧ -m ≤ v.2 ∧ v.2 ≤ m := by
      have ht : qt = 0 ∨ qt = 1 := by omega
      simp at hz
      rcases hz with rfl | rfl | rfl | rfl
      · exact ⟨(qa - m, qb - m), rfl, by simp only; omega, by simp only; omega⟩
      · exact ⟨u, rfl, by omega, by omega⟩
      · refine ⟨((qt * 2 - 1) * (pa - m), (qt * 2 - 1) * (pb - m)), rfl, ?_, ?_⟩ <;> rcases ht with rfl | rfl <;> simp only <;> omega
      · exact ⟨(pa - m, pb - m), rfl, by simp only; omega, by simp only; omega⟩
    have ev := ne_vt v (0, 0)
    simp -dsimp only [vt] at ev
    simp -dsimp [vt, ev]
    split
    · exact ⟨by omega, hN _ ⟨W ++ [(1, -m)], j + 1, a7, r7, _, _, _, _, _, ed, by omega, by simp [hW], by
        intro p hp
        rcases List.mem_append.mp hp with hp | hp
        · exact hw p hp
        · rw [List.mem_singleton] at hp; subst hp
          exact ⟨⟨⟨by show (-9 : Int) ≤ 1; decide, by show (1 : Int) ≤ 9; decide⟩, by show -9 ≤ -m; omega, by show -m ≤ 9; omega⟩, by simp⟩, by omega, by omega, by omega, by simp [vt]; exact ⟨rfl, rfl, rfl, rfl, rfl⟩⟩⟩
    · rename_i hne
      exact ⟨by omega, hN _ ⟨W ++ [v], j + 1, a7, r7, _, _, _, _, _, ed, by omega, by simp [hW], by
        intro p hp
        rcases List.mem_append.mp hp with hp | hp
        · exact hw p hp
        · rw [List.mem_singleton] at hp; subst hp
          exact ⟨⟨⟨by omega, by omega⟩, by omega, by omega⟩, hne⟩, by omega, by omega, by omega, by simp [vt]; exact ⟨rfl, rfl, rfl, rfl, rfl⟩⟩⟩


theorem counts_ok {ns : List Int} {a r m : Int} {n : Nat} {post : Post} {xp : XP} (ha : 0 ≤ a) (ha2 : a ≤ 999000) (hr : 0 ≤ r) (hm : 1 ≤ m) (hm2 : m ≤ 100000) (hn : n ≤ 4)
    (h : ∀ (c : Cn) (a' r' : Int), c.length = n → (∀ i ∈ c, -m ≤ i ∧ i ≤ m) → a ≤ a' → a' ≤ a + 8 → 0 ≤ r' → post (ct c) [some (pen (ns.map .int) a' r'), none, none]) : G_l_counts [some (pen (ns.map .int) a r), some (.int n), some (.int m)] post xp := by
  have dr : ∀ (a r m : Int) (post : Post) (xp : XP), 0 ≤ a → a ≤ 1000000 → 0 ≤ r → 1 ≤ m → m ≤ 1000000 → (∀ k a' r', 0 ≤ k → k < m → a ≤ a' → a' ≤ a + 1 → 0 ≤ r' → post (.int k) [some (pen (ns.map .int) a' r'), none]) → G_l_draw [some (pen (ns.map .int) a r), some (.int m)] post xp :=
    fun a r m post xp h1 h2 h3 h4 h5 h6 => draw_ok h1 h2 h3 h4 h5 h6
  unfold G_l_counts F_l_counts
  generalize G_l_draw = G at dr ⊢
  simp -dsimp
  refine ⟨by omega, ?_⟩
  refine loop_inv (fun ds ρ => ∃ (W : Cn) (a' r' : Int) (x4 x5 : Option D), W.length + ds.length = n ∧ (∀ i ∈ W, -m ≤ i ∧ i ≤ m) ∧ a ≤ a' ∧ a' ≤ a + 2 * W.length ∧ 0 ≤ r' ∧
    ρ = [some (pen (ns.map .int) a' r'), some (.int n), some (.int m), some (.lst (W.map .int)), x4, x5]) ?_ ?_ _ _ ⟨[], a, r, _, _, by simp, by simp, by omega, by simp, by omega, rfl⟩
  · rintro ρ ⟨W, a', r', x4, x5, hl, hw, h1, h2, h3, rfl⟩
    simp at hl
    simp -dsimp
    exact h W a' r' hl hw h1 (by omega) h3
  · rintro d ds ρ N hN ⟨W, a', r', x4, x5, hl, hw, h1, h2, h3, rfl⟩
    simp only [List.length_cons] at hl
    simp -dsimp
    refine ⟨cmul_l (by omega) (by omega), ?_⟩
    refine dr _ _ _ _ _ (by omega) (by omega) (by omega) (by omega) (by omega) fun k a5 r5 _ _ _ _ _ => ?_
    simp -dsimp
    refine dr _ _ _ _ _ (by omega) (by omega) (by omega) (by omega) (by omega) fun j a6 r6 _ _ _ _ _ => ?_
    simp -dsimp
    refine ix_drawn (by omega) (by simp; omega) fun z hz => ?_
    obtain ⟨u, rfl, hu⟩ : ∃ u : Int, z = .int u ∧ -m ≤ u ∧ u ≤ m := by
      simp at hz
      rcases hz with rfl | rfl
      · exact ⟨_, rfl, by omega, by omega⟩
      · exact ⟨_, rfl, by omega, by omega⟩
    refine ⟨by omega, hN _ ⟨W ++ [u], a6, r6, _, _, by simp; omega, ?_, by omega, by simp; omega, by omega, by simp; exact ⟨rfl, rfl⟩⟩⟩
    intro i hi
    simp at hi
    rcases hi with hi | rfl
    · exact hw i hi
    · exact hu
theorem place_ok {ns : List Int} {a r m : Int} {post : Post} {xp : XP} (ha : 0 ≤ a) (ha2 : a ≤ 999000) (hr : 0 ≤ r) (hm : 0 ≤ m) (hm2 : m ≤ 100)
    (h : ∀ (p : Pt) (a' r' : Int), a ≤ a' → a' ≤ a + 3 → 0 ≤ r' → post (vt p) [some (pen (ns.map .int) a' r'), none]) : G_l_place [some (pen (ns.map .int) a r), some (.int m)] post xp := by
  have dr : ∀ (a r m : Int) (post : Post) (xp : XP), 0 ≤ a → a ≤ 1000000 → 0 ≤ r → 1 ≤ m → m ≤ 1000000 → (∀ k a' r', 0 ≤ k → k < m → a ≤ a' → a' ≤ a + 1 → 0 ≤ r' → post (.int k) [some (pen (ns.map .int) a' r'), none]) → G_l_draw [some (pen (ns.map .int) a r), some (.int m)] post xp :=
    fun a r m post xp h1 h2 h3 h4 h5 h6 => draw_ok h1 h2 h3 h4 h5 h6
  unfold G_l_place F_l_place
  generalize G_l_draw = G at dr ⊢
  simp -dsimp
  refine ⟨cmul_l (by omega) (by omega), ?_⟩
  refine dr _ _ _ _ _ (by omega) (by omega) (by omega) (by omega) (by omega) fun x a1 r1 _ _ _ _ _ => ?_
  simp -dsimp
  refine ⟨cmul_l (by omega) (by omega), ?_⟩
  refine dr _ _ _ _ _ (by omega) (by omega) (by omega) (by omega) (by omega) fun y a2 r2 _ _ _ _ _ => ?_
  simp -dsimp
  refine ⟨⟨?_, ?_⟩, ?_⟩
  · split <;> omega
  · have : (if m > 1 then m else 1).natAbs.log2 < 9000 := log_small (by split <;> omega) (by split <;> omega)
    exact this
  refine dr _ _ _ _ _ (by omega) (by omega) (by omega) (by omega) (by omega) fun z a3 r3 _ _ _ _ _ => ?_
  simp -dsimp
  refine ix_drawn (by split <;> omega) (by simp; split <;> omega) fun w hw => ?_
  obtain ⟨u, rfl, hu⟩ : ∃ u : Int, w = .int u ∧ 0 ≤ u ∧ u ≤ 100000000000 := by
    simp at hw
    rcases hw with rfl | rfl
    · exact ⟨_, rfl, by decide, by decide⟩
    · refine ⟨_, rfl, fdiv_nn (by decide) (by split <;> omega), ?_⟩
      rw [Int.fdiv_eq_ediv_of_nonneg _ (by split <;> omega)]
      exact Int.ediv_le_self _ (by decide)
  simp -dsimp
  refine ⟨cmul_r (by omega) (by omega), cmul_r (by omega) (by omega), ?_⟩
  exact h (_, _) _ _ (by omega) (by omega) (by omega)


theorem isint_ok {i : Int} {post : Post} {xp : XP} (q : post (.bl true) [none]) : G_is_integer [some (.int i)] post xp := by
  unfold G_is_integer F_is_integer
  simp
  exact q
theorem ispair_ok {p : Pt} {post : Post} {xp : XP} (q : post (.bl true) [none]) : G_is_pair [some (vt p)] post xp := by
  have ii : ∀ (i : Int) (post : Post) (xp : XP), post (.bl true) [none] → G_is_integer [some (.int i)] post xp := fun i post xp q => isint_ok q
  unfold G_is_pair F_is_pair vt
  generalize G_is_integer = G at ii ⊢
  simp
  refine ii _ _ _ ?_
  simp
  refine ii _ _ _ ?_
  exact q
theorem kinds_ok {V : List Pt} {post : Post} {xp : XP} (q : post (.int V.length) [none]) : G_Field_kinds [some (fieldD V)] post xp := by
  unfold G_Field_kinds F_Field_kinds fieldD
  simp
  simpa using q
theorem are_counts_ok {V : List Pt} {c : Cn} {post : Post} {xp : XP} (hc : c.length = V.length) (hl : V.length ≤ 4) (q : post (.bl true) [none, none]) : G_are_counts [some (fieldD V), some (ct c)] post xp := by
  have ii : ∀ (i : Int) (post : Post) (xp : XP), post (.bl true) [none] → G_is_integer [some (.int i)] post xp := fun i post xp q => isint_ok q
  have kk : ∀ (post : Post) (xp : XP), post (.int V.length) [none] → G_Field_kinds [some (fieldD V)] post xp := fun post xp q => kinds_ok q
  have tr : ∀ c : Cn, (c.map fun _ => true).all id = true := fun c => by simp
  unfold G_are_counts F_are_counts
  generalize G_is_integer = G at ii ⊢
  generalize G_Field_kinds = GK at kk ⊢
  have ob : ∃ fs, fieldD V = D.obj (Str.ofString "Field") fs := ⟨_, rfl⟩
  generalize hF : fieldD V = FD at kk ob ⊢
  unfold ct
  simp
  refine ⟨ob, kk _ _ ?_⟩
  simp [hc]
  refine compL_as D.int (fun _ => .bl true) c (by omega) (fun i hi Pst h => ?_) ?_
  · simp
    refine ii _ _ _ (h _ ?_)
    simp
  · have e : c.map (fun _ => D.bl true) = (c.map fun _ => true).map D.bl := by simp
    rw [e]
    simp -dsimp only [↓fNil_ap]
    refine gAll_bls ?_
    rw [tr]
    exact q
theorem added_ok {a b : Cn} {n : Nat} {post : Post} {xp : XP} (ha : a.length = n) (hb : b.length = n) (hn : n ≤ 4) (q : post (ct (addC a b)) [none, none]) : G_added [some (ct a), some (ct b)] post xp := by
  unfold ct at q
  unfold G_added F_added ct
  simp
  rw [zipD_map]
  refine compL_as (fun p : Int × Int => D.tup [D.int p.1, D.int p.2]) (fun p => .int (p.1 + p.2)) (List.zip a b) (by simp; omega) (fun p hp Pst h => ?_) ?_
  · simp
    refine h _ ?_
    simp
  · have e : (List.zip a b).map (fun p => D.int (p.1 + p.2)) = (addC a b).map D.int := by
      unfold addC
      rw [List.zip, List.map_zipWith, List.map_zipWith]
    rw [e]
    simpa using q
theorem is_piece_ok {V : List Pt} {p : Pc} {post : Post} {xp : XP} (hc : p.2.length = V.length) (hl : V.length ≤ 4) (q : post (.bl true) [none, none]) : G_is_piece [some (fieldD V), some (pt p)] post xp := by
  have h1 : ∀ (p : Pt) (post : Post) (xp : XP), post (.bl true) [none] → G_is_pair [some (vt p)] post xp := fun p post xp q => ispair_ok q
  have h2 : ∀ (post : Post) (xp : XP), post (.bl true) [none, none] → G_are_counts [some (fieldD V), some (ct p.2)] post xp := fun post xp q => are_counts_ok hc hl q
  unfold G_is_piece F_is_piece pt
  generalize G_is_pair = G1 at h1 ⊢
  generalize G_are_counts = G2 at h2 ⊢
  simp
  refine h1 _ _ _ ?_
  simp
  refine h2 _ _ ?_
  exact q


theorem ix_kdE {L : List Pc} {p : Pt} {c : Cn} (h : look L p = some c) (k : D → Prop) : gIx (.dt (L.map kd)) (vt p) k = k (ct c) := by
  refine propext ⟨fun z => ?_, fun q => ⟨ct c, by rw [getK_kd, h]; rfl, q⟩⟩
  have z : ∃ d, getK (.dt (L.map kd)) (vt p) = some (some d) ∧ k d := z
  obtain ⟨d, e, q⟩ := z
  rw [getK_kd, h] at e
  cases e; exact q
theorem atI_getD {l : List Int} {k : Nat} (h : k < l.length) : atI l (k : Int) = some (l.getD k 0) := by
  unfold atI ixN
  rw [if_pos (by omega), if_pos (by omega)]
  rw [List.getD_eq_getElem?_getD]
  simp [h]
theorem range_add {n : Nat} {a b : Cn} (ha : a.length = n) (hb : b.length = n) : (List.range n).map (fun k => D.int (a[k]?.getD 0 + b[k]?.getD 0)) = (addC a b).map D.int := by
  refine List.ext_getElem (by simp [addC, ha, hb]) fun j h1 h2 => ?_
  have hj : j < n := by simpa using h1
  have := addC_get ha hb j
  rw [List.getD_eq_getElem?_getD, List.getD_eq_getElem?_getD, List.getD_eq_getElem?_getD, List.getElem?_eq_getElem (by rw [addC_len ha hb]; exact hj)] at this
  simp only [List.getElem_map, List.getElem_range]
  rw [← this]; rfl
theorem laid_ok {ps : List Pc} {n : Nat} {post : Post} {xp : XP} (w : WF n ps) (h1 : 1 ≤ n) (h4 : n ≤ 4) (hl : ps.length ≤ 1000) (q : post (.tup ((canon n ps).map pt)) [none]) : G_l_laid [some (.lst (ps.map pt))] post xp := by
  unfold G_l_laid F_l_laid
  simp -dsimp
  refine loop_inv (fun ds ρ => ∃ (U W : List Pc) (x2 x3 x4 x5 : Option D), ps = U ++ W ∧ ds = W.map pt ∧ ρ = [some (.lst (ps.map pt)), some (.dt ((mrg n U).map kd)), x2, x3, x4, x5]) ?_ ?_ _ _ ⟨[], ps, _, _, _, _, rfl, rfl, rfl⟩
  · rintro ρ ⟨U, W, x2, x3, x4, x5, e, ed, rfl⟩
    have : W = [] := by simpa using ed.symm
    subst this
    rw [List.append_nil] at e
    subst e
    have nd := mrg_nodup w
    simp -dsimp
    refine ⟨trivial, ?_⟩
    refine compL_of (fun q : Pc => vt q.1) (fun q => nz q.2) pt (mrg n ps) [] (by have := mrg_len w; simp; omega) (fun p hp Pst N g1 g2 => ?_) ?_
    · have hlk := nodup_look nd hp
      have hlen := mrg_wf w p hp
      simp -dsimp [ix_kdE hlk]
      trace_state
      refine ⟨by rw [hlen]; omega, ?_⟩
      have zt : D.tup (List.replicate p.2.length (D.int 0)) = ct (zero n) := by rw [hlen]; unfold ct zero; simp
      rw [zt, ne_ct]
      by_cases hz : nz p.2 = true
      · have hz2 := (nz_ne hlen).1 hz
        simp -dsimp [hz2, ix_kdE hlk]
        exact g1 hz _ (by simp)
      · have hz1 : nz p.2 = false := by simpa using hz
        have hz2 : p.2 = zero n := Classical.not_not.mp fun z => hz ((nz_ne hlen).2 z)
        simp -dsimp [hz2]
        exact g2 hz1 _ (by simp)
    · simp -dsimp
      refine sort_pt ?_ fun M pm as => ?_
      · exact List.Nodup.sublist (List.Sublist.map _ List.filter_sublist) nd
      · rw [canon_uniq w pm as]
        simp -dsimp
        exact q
  · rintro d ds ρ N hN ⟨U, W, x2, x3, x4, x5, e, ed, rfl⟩
    cases W with
    | nil => simp at ed
    | cons p W =>
      rw [List.map_cons, List.cons.injEq] at ed
      obtain ⟨rfl, rfl⟩ := ed
      have wU : WF n U := fun r hr => w r (by rw [e]; exact List.mem_append_left _ hr)
      have hp : p.2.length = n := w p (by rw [e]; simp)
      have lU : (mrg n U).length ≤ 1000 := by have := mrg_len wU; rw [e] at hl; simp at hl; omega
      have aL := at_len wU p.1
      have gk : getK (D.dt ((mrg n U).map kd)) (vt p.1) = some ((look (mrg n U) p.1).map ct) := getK_kd _ _
      have pk : ∀ c : Cn, putKD (D.dt ((mrg n U).map kd)) (vt p.1) (ct c) = some (.dt ((putP (mrg n U) p.1 c).map kd)) := fun c => putKD_kd _ _ _
      have old : ((look (mrg n U) p.1).map ct).getD (ct (zero n)) = ct (at_ n (mrg n U) p.1) := by
        unfold at_
        cases look (mrg n U) p.1 <;> rfl
      have sz : sizeD (D.dt ((mrg n U).map kd)) < 1000000 := by show ((mrg n U).map kd).length < 1000000; rw [List.length_map]; omega
      have es : mrg n (U ++ [p]) = putP (mrg n U) p.1 (addC (at_ n (mrg n U) p.1) p.2) := by unfold mrg; rw [List.foldl_append]; rfl
      have aM := at_len (mrg_wf wU) p.1
      simp -dsimp [pt]
      refine ⟨trivial, by rw [hp]; omega, _, gk, ?_⟩
      have zt : D.tup (List.replicate p.2.length (D.int 0)) = ct (zero n) := by rw [hp]; unfold ct zero; simp
      rw [zt, old]
      refine ⟨by omega, ?_⟩
      refine compL_as (fun k : Nat => D.int (k : Int)) (fun k => .int ((at_ n (mrg n U) p.1).getD k 0 + p.2.getD k 0)) (List.range p.2.length) (by simp; omega) (fun k hk Pst g => ?_) ?_
      · have hk : k < n := by rw [List.mem_range] at hk; omega
        simp -dsimp [ct]
        refine ⟨_, atI_getD (by omega), _, atI_getD (by omega), g _ ?_⟩
        simp [ct]
      · simp -dsimp
        rw [hp, range_add aM hp]
        exact ⟨trivial, sz, _, pk _, hN _ ⟨U ++ [p], W, _, _, _, _, by rw [e]; simp, rfl, by rw [es]⟩⟩

theorem in_kd (L : List Pc) (p : Pt) (k : D → Prop) : gIn (vt p) (.dt (L.map kd)) k = k (.bl (look L p).isSome) := by
  refine propext ⟨fun z => ?_, fun q => ⟨_, getK_kd L p, by rw [Option.isSome_map]; exact q⟩⟩
  have z : ∃ r, getK (.dt (L.map kd)) (vt p) = some r ∧ k (.bl r.isSome) := z
  obtain ⟨r, e, q⟩ := z
  rw [getK_kd] at e
  cases e
  rw [Option.isSome_map] at q
  exact q
theorem fold_put : ∀ (L M : List Pc), ((M ++ L).map (·.1)).Nodup → L.foldl (fun (a : List (List Key × D)) (q : Pc) => putD a (keyP q.1) (ct q.2)) (M.map kd) = (M ++ L).map kd
  | [], M, _ => by simp
  | q :: L, M, nd => by
    have e : putP M q.1 q.2 = M ++ [q] := by
      unfold putP
      rw [if_neg]
      intro h
      obtain ⟨r, hr, er⟩ := List.any_eq_true.mp h
      rw [List.map_append, List.nodup_append] at nd
      exact nd.2.2 r.1 (List.mem_map.mpr ⟨r, hr, rfl⟩) q.1 (by simp) (by simpa using er)
    rw [List.foldl_cons, putD_kd, e, fold_put L (M ++ [q]) (by simpa using nd)]
    simp
theorem merged_ok {ps : List Pc} {n : Nat} {post : Post} {xp : XP} (w : WF n ps) (h4 : n ≤ 4) (hl : ps.length ≤ 1000) (q : post (.dt (((mrg n ps).filter fun q => nz q.2).map kd)) [none]) : G_merged [some (.tup (ps.map pt))] post xp := by
  have ad : ∀ (a b : Cn) (post : Post) (xp : XP), a.length = n → b.length = n → post (ct (addC a b)) [none, none] → G_added [some (ct a), some (ct b)] post xp := fun a b post xp h1 h2 q => added_ok h1 h2 h4 q
  unfold G_merged F_merged
  generalize G_added = GA at ad ⊢
  simp -dsimp
  refine loop_inv (fun ds ρ => ∃ (U W : List Pc) (x2 x3 : Option D), ps = U ++ W ∧ ds = W.map pt ∧ ρ = [some (.tup (ps.map pt)), some (.dt ((mrg n U).map kd)), x2, x3]) ?_ ?_ _ _ ⟨[], ps, _, _, rfl, rfl, rfl⟩
  · rintro ρ ⟨U, W, x2, x3, e, ed, rfl⟩
    have : W = [] := by simpa using ed.symm
    subst this
    rw [List.append_nil] at e
    subst e
    have nd := mrg_nodup w
    simp -dsimp
    refine ⟨trivial, ?_⟩
    refine dcL_of pt (fun q => nz q.2) (fun q => keyP q.1) (fun q => ct q.2) (mrg n ps) [] (by have := mrg_len w; simp; omega) (fun p hp R N g1 g2 => ?_) ?_
    · simp -dsimp [pt]
      refine gList_ct ?_
      refine gAnyI_ints ?_
      by_cases hz : nz p.2 = true
      · have hz' : (p.2.any fun n => n != 0) = true := hz
        rw [hz']
        simp -dsimp
        exact ⟨_, keyTD_vt _, g1 hz _ (by simp [pt])⟩
      · have hz1 : nz p.2 = false := by simpa using hz
        have hz' : (p.2.any fun n => n != 0) = false := hz1
        rw [hz']
        simp -dsimp
        exact g2 hz1 _ (by simp [pt])
    · have := fold_put ((mrg n ps).filter fun q => nz q.2) [] (by
        rw [List.nil_append]
        exact List.Nodup.sublist (List.Sublist.map _ List.filter_sublist) nd)
      rw [List.map_nil, List.nil_append] at this
      rw [this]
      simp -dsimp
      exact q
  · rintro d ds ρ N hN ⟨U, W, x2, x3, e, ed, rfl⟩
    cases W with
    | nil => simp at ed
    | cons p W =>
      rw [List.map_cons, List.cons.injEq] at ed
      obtain ⟨rfl, rfl⟩ := ed
      have wU : WF n U := fun r hr => w r (by rw [e]; exact List.mem_append_left _ hr)
      have hp : p.2.length = n := w p (by rw [e]; simp)
      have lU : (mrg n U).length ≤ 1000 := by have := mrg_len wU; rw [e] at hl; simp at hl; omega
      have sz : sizeD (D.dt ((mrg n U).map kd)) < 1000000 := by show ((mrg n U).map kd).length < 1000000; rw [List.length_map]; omega
      have es : mrg n (U ++ [p]) = putP (mrg n U) p.1 (addC (at_ n (mrg n U) p.1) p.2) := by unfold mrg; rw [List.foldl_append]; rfl
      have pk : ∀ c : Cn, putKD (D.dt ((mrg n U).map kd)) (vt p.1) (ct c) = some (.dt ((putP (mrg n U) p.1 c).map kd)) := fun c => putKD_kd _ _ _
      simp -dsimp [pt, in_kd]
      cases hk : look (mrg n U) p.1 with
      | none =>
        have ea : at_ n (mrg n U) p.1 = zero n := by unfold at_; rw [hk]; rfl
        rw [ea, zero_add hp] at es
        simp -dsimp
        exact ⟨trivial, sz, _, pk _, hN _ ⟨U ++ [p], W, _, _, by rw [e]; simp, rfl, by rw [es]⟩⟩
      | some c =>
        have ea : at_ n (mrg n U) p.1 = c := by unfold at_; rw [hk]; rfl
        rw [ea] at es
        simp -dsimp [ix_kdE hk]
        refine ad _ _ _ _ (look_len (mrg_wf wU) hk) hp ?_
        simp -dsimp
        exact ⟨trivial, sz, _, pk _, hN _ ⟨U ++ [p], W, _, _, by rw [e]; simp, rfl, by rw [es]⟩⟩
/-- a state: M what lies in the order in which it was put, L by place -/
def stD (V : List Pt) (pos : Pt) (M L : List Pc) : D := .obj "State" [("ground", fieldD V), ("stand", vt pos), ("laid", .dt (M.map kd)), ("rows", .tup (L.map pt)), ("key", .tup [vt pos, .tup (L.map pt)])]
@[simp] theorem isObj_stD (V : List Pt) (pos : Pt) (M L : List Pc) : isObj "State" (stD V pos M L) = True := by simp [stD]
@[simp] theorem isObjM_stD (m : Str) (V : List Pt) (pos : Pt) (M L : List Pc) : isObjM "State" m (stD V pos M L) = (m ≠ "ground" ∧ m ≠ "stand" ∧ m ≠ "laid" ∧ m ≠ "rows" ∧ m ≠ "key") := by simp [stD, lookup_none, -List.lookup_eq_none_iff]
@[simp ↓] theorem gFld_ground (V : List Pt) (pos : Pt) (M L : List Pc) (k) : gFld "State" "ground" (stD V pos M L) k = k (fieldD V) := propext ⟨fun ⟨_, _, e, h⟩ => by cases e; exact h, fun h => ⟨rfl, _, rfl, h⟩⟩
@[simp ↓] theorem gFld_stand (V : List Pt) (pos : Pt) (M L : List Pc) (k) : gFld "State" "stand" (stD V pos M L) k = k (vt pos) := propext ⟨fun ⟨_, _, e, h⟩ => by cases e; exact h, fun h => ⟨rfl, _, rfl, h⟩⟩
@[simp ↓] theorem gFld_laid (V : List Pt) (pos : Pt) (M L : List Pc) (k) : gFld "State" "laid" (stD V pos M L) k = k (.dt (M.map kd)) := propext ⟨fun ⟨_, _, e, h⟩ => by cases e; exact h, fun h => ⟨rfl, _, rfl, h⟩⟩
@[simp ↓] theorem gFld_rows (V : List Pt) (pos : Pt) (M L : List Pc) (k) : gFld "State" "rows" (stD V pos M L) k = k (.tup (L.map pt)) := propext ⟨fun ⟨_, _, e, h⟩ => by cases e; exact h, fun h => ⟨rfl, _, rfl, h⟩⟩
@[simp ↓] theorem gFld_key (V : List Pt) (pos : Pt) (M L : List Pc) (k) : gFld "State" "key" (stD V pos M L) k = k (.tup [vt pos, .tup (L.map pt)]) := propext ⟨fun ⟨_, _, e, h⟩ => by cases e; exact h, fun h => ⟨rfl, _, rfl, h⟩⟩
theorem init_ok {V : List Pt} {pos : Pt} {ps : List Pc} {post : Post} {xp : XP} (h1 : 1 ≤ V.length) (h4 : V.length ≤ 4) (w : WF V.length ps) (hl : ps.length ≤ 1000)
    (q : ∀ M : List Pc, M.Perm (canon V.length ps) → post .non [some (stD V pos M (canon V.length ps)), none, none, none]) :
    G_State___init__ [some (.obj "State" []), some (fieldD V), some (vt pos), some (.tup (ps.map pt))] post xp := by
  have g1 : ∀ (p : Pt) (post : Post) (xp : XP), post (.bl true) [none] → G_is_pair [some (vt p)] post xp := fun p post xp q => ispair_ok q
  have g2 : ∀ (p : Pc) (post : Post) (xp : XP), p ∈ ps → post (.bl true) [none, none] → G_is_piece [some (fieldD V), some (pt p)] post xp := fun p post xp hp q => is_piece_ok (w p hp) h4 q
  have g3 : ∀ (post : Post) (xp : XP), post (.dt (((mrg V.length ps).filter fun q => nz q.2).map kd)) [none] → G_merged [some (.tup (ps.map pt))] post xp := fun post xp q => merged_ok w h4 hl q
  unfold G_State___init__ F_State___init__
  generalize G_is_pair = G1 at g1 ⊢
  generalize G_is_piece = G2 at g2 ⊢
  generalize G_merged = G3 at g3 ⊢
  simp -dsimp
  refine g1 _ _ _ ?_
  simp -dsimp
  refine compL_as pt (fun _ => .bl true) ps (by omega) (fun p hp Pst h => ?_) ?_
  · simp -dsimp
    refine g2 p _ _ hp (h _ ?_)
    simp
  · have tr : (ps.map fun _ => true).all id = true := by simp
    have e : ps.map (fun _ => D.bl true) = (ps.map fun _ => true).map D.bl := by simp
    simp -dsimp
    rw [e]
    refine gAll_bls ?_
    rw [tr]
    simp -dsimp
    refine g3 _ _ ?_
    simp -dsimp
    refine ⟨_, rfl, ?_⟩
    simp -dsimp [putFd]
    refine ⟨trivial, pairKs_kd _, fun es p s => ?_⟩
    have p : es.Perm (((mrg V.length ps).filter fun q => nz q.2).map pt) := p
    obtain ⟨M, rfl, pm⟩ := perm_pt p
    have em := canon_uniq w pm (asc_pt s)
    refine ⟨_, rfl, ?_⟩
    rw [em]
    exact q _ (canon_perm V.length ps).symm

@[simp ↓] theorem gCut_tup (a : List D) (lo hi : Option Int) (k) : gCut (.tup a) lo hi k = k (.tup (cutL a lo hi)) := rfl
theorem cut1 (d : D) (ds : List D) : cutL (d :: ds) (some 1) none = ds := by
  unfold cutL
  simp [HT.sIx]
theorem cut1_nil : cutL ([] : List D) (some 1) none = [] := by
  unfold cutL
  simp
theorem asc_zip : ∀ {L : List Pc}, Asc L → ∀ p ∈ List.zip L L.tail, DL.ltP p.1.1 p.2.1
  | [], _, p, h => by simp at h
  | [_], _, p, h => by simp at h
  | a :: b :: L, h, p, hp => by
    unfold Asc at h
    rw [List.pairwise_cons] at h
    simp only [List.tail_cons, List.zip_cons_cons, List.mem_cons] at hp
    rcases hp with rfl | hp
    · exact h.1 b List.mem_cons_self
    · exact asc_zip (L := b :: L) h.2 p hp
@[simp ↓] theorem fld_rows (V pos M L k) : gFld "State" "rows" (stD V pos M L) k = k (.tup (L.map pt)) := by
  exact propext ⟨fun ⟨_, x, e, h⟩ => by cases e; exact h, fun h => ⟨rfl, _, rfl, h⟩⟩
@[simp ↓] theorem fld_ground (V pos M L k) : gFld "State" "ground" (stD V pos M L) k = k (fieldD V) := by
  exact propext ⟨fun ⟨_, x, e, h⟩ => by cases e; exact h, fun h => ⟨rfl, _, rfl, h⟩⟩
@[simp ↓] theorem fld_stand (V pos M L k) : gFld "State" "stand" (stD V pos M L) k = k (vt pos) := by
  exact propext ⟨fun ⟨_, x, e, h⟩ => by cases e; exact h, fun h => ⟨rfl, _, rfl, h⟩⟩
@[simp ↓] theorem fld_laid (V pos M L k) : gFld "State" "laid" (stD V pos M L) k = k (.dt (M.map kd)) := by
  exact propext ⟨fun ⟨_, x, e, h⟩ => by cases e; exact h, fun h => ⟨rfl, _, rfl, h⟩⟩
@[simp ↓] theorem fld_key (V pos M L k) : gFld "State" "key" (stD V pos M L) k = k (.tup [vt pos, .tup (L.map pt)]) := by
  exact propext ⟨fun ⟨_, x, e, h⟩ => by cases e; exact h, fun h => ⟨rfl, _, rfl, h⟩⟩
@[simp ↓] theorem fld_vectors (V k) : gFld "Field" "vectors" (fieldD V) k = k (.tup (V.map vt)) := by
  exact propext ⟨fun ⟨_, x, e, h⟩ => by cases e; exact h, fun h => ⟨rfl, _, rfl, h⟩⟩
theorem are_pieces_ok {V : List Pt} {L : List Pc} {post : Post} {xp : XP} (h4 : V.length ≤ 4) (c : Can V.length L) (hl : L.length ≤ 1000) (q : post (.bl true) [none, none]) : G_are_pieces [some (fieldD V), some (.tup (L.map pt))] post xp := by
  have g2 : ∀ (p : Pc) (post : Post) (xp : XP), p ∈ L → post (.bl true) [none, none] → G_is_piece [some (fieldD V), some (pt p)] post xp := fun p post xp hp q => is_piece_ok (c.wf p hp) h4 q
  have tr : ∀ {α : Type} (l : List α), (l.map fun _ => true).all id = true := fun l => by simp
  have e : ∀ {α : Type} (l : List α), l.map (fun _ => D.bl true) = (l.map fun _ => true).map D.bl := fun l => by simp
  unfold G_are_pieces F_are_pieces
  generalize G_is_piece = G2 at g2 ⊢
  simp -dsimp
  refine compL_as pt (fun _ => .bl true) L (by omega) (fun p hp Pst h => ?_) ?_
  · simp -dsimp
    refine g2 p _ _ hp (h _ ?_)
    simp
  simp -dsimp
  rw [e]
  refine gAll_bls ?_
  rw [tr]
  simp -dsimp
  refine compL_as pt (fun _ => .bl true) L (by omega) (fun p hp Pst h => ?_) ?_
  · simp -dsimp [pt]
    refine gList_ct ?_
    refine gAnyI_ints ?_
    have hz : (p.2.any fun n => n != 0) = true := c.nz p hp
    rw [hz]
    exact h _ (by simp [pt])
  simp -dsimp
  rw [e]
  refine gAll_bls ?_
  rw [tr]
  simp -dsimp
  have ec : cutL (L.map pt) (some 1) none = L.tail.map pt := by
    cases L with
    | nil => exact cut1_nil
    | cons a L => exact cut1 _ _
  rw [ec, zipD_map]
  refine compL_as (fun p : Pc × Pc => D.tup [pt p.1, pt p.2]) (fun _ => .bl true) (List.zip L L.tail) (by simp; omega) (fun p hp Pst h => ?_) ?_
  · have lt := asc_zip c.asc p hp
    simp -dsimp [pt]
    refine gLt_vt ?_
    rw [decide_eq_true lt]
    exact h _ (by simp [pt])
  simp -dsimp
  rw [e]
  refine gAll_bls ?_
  rw [tr]
  exact q
theorem of_ok {V : List Pt} {pos : Pt} {L : List Pc} {post : Post} {xp : XP} (h1 : 1 ≤ V.length) (h4 : V.length ≤ 4) (c : Can V.length L) (hl : L.length ≤ 500) (q : ∀ M : List Pc, M.Perm L → post (stD V pos M L) [none, none, none]) :
    G_State_of [some (.cl "State"), some (fieldD V), some (.tup [vt pos, .tup (L.map pt)])] post xp := by
  have g1 : ∀ (post : Post) (xp : XP), post (.bl true) [none, none] → G_are_pieces [some (fieldD V), some (.tup (L.map pt))] post xp := fun post xp q => are_pieces_ok h4 c (by omega) q
  have g2 : ∀ (post : Post) (xp : XP), (∀ M : List Pc, M.Perm L → post .non [some (stD V pos M L), none, none, none]) → G_State___init__ [some (.obj "State" []), some (fieldD V), some (vt pos), some (.tup (L.map pt))] post xp := fun post xp q =>
    init_ok h1 h4 c.wf (by omega) (by rw [canon_self c]; exact q)
  unfold G_State_of F_State_of
  generalize G_are_pieces = G1 at g1 ⊢
  generalize G_State___init__ = G2 at g2 ⊢
  simp -dsimp
  refine g1 _ _ ?_
  simp -dsimp
  refine ⟨_, .inl rfl, ?_⟩
  refine ⟨by simp; omega, g2 _ _ fun M pm => ?_⟩
  exact ⟨rfl, _, rfl, q M pm⟩
theorem field_init_ok {V : List Pt} {post : Post} {xp : XP} (p : Pul V) (q : post .non [some (fieldD V), none]) : G_Field___init__ [some (.obj "Field" []), some (.tup (V.map vt))] post xp := by
  have g1 : ∀ (v : Pt) (post : Post) (xp : XP), post (.bl true) [none] → G_is_pair [some (vt v)] post xp := fun v post xp q => ispair_ok q
  have g2 : ∀ (v : Pt) (post : Post) (xp : XP), v ∈ V → post (.bl true) [none] → G_is_pull [some (vt v)] post xp := by
    intro v post xp hv q
    have b := p.b v hv
    have nz := p.nz v hv
    have ev := ne_vt v (0, 0)
    have eq := eq_vt v (0, 0)
    unfold G_is_pull F_is_pull
    generalize G_is_pair = G1 at g1 ⊢
    simp -dsimp
    refine g1 _ _ _ ?_
    simp -dsimp only [vt] at eq
    have b1 : (if v.1 < 0 then -v.1 else v.1) ≤ 9 := by split <;> omega
    have b2 : (if v.2 < 0 then -v.2 else v.2) ≤ 9 := by split <;> omega
    simp -dsimp [vt, eq, nz]
    rw [if_pos b1, decide_eq_true b2]
    exact q
  unfold G_Field___init__ F_Field___init__
  generalize G_is_pull = G2 at g2 ⊢
  have h1 : (1 : Int) ≤ V.length := by have := p.h1; omega
  have h4 : ¬ (4 : Int) < V.length := by have := p.h4; omega
  have tr : (V.map fun _ => true).all id = true := by simp
  have e : V.map (fun _ => D.bl true) = (V.map fun _ => true).map D.bl := by simp
  simp -dsimp [h1, h4]
  refine compL_as vt (fun _ => .bl true) V (by have := p.h4; omega) (fun v hv Pst h => ?_) ?_
  · simp -dsimp
    refine g2 v _ _ hv (h _ ?_)
    simp
  simp -dsimp
  rw [e]
  refine gAll_bls ?_
  rw [tr]
  simp -dsimp
  exact q
theorem lfield_ok {V : List Pt} {post : Post} {xp : XP} (p : Pul V) (q : post (fieldD V) [none]) : G_l_field [some (.tup (V.map vt))] post xp := by
  have g1 : ∀ (post : Post) (xp : XP), post .non [some (fieldD V), none] → G_Field___init__ [some (.obj "Field" []), some (.tup (V.map vt))] post xp := fun post xp q => field_init_ok p q
  have h1 := p.h1
  have h4 := p.h4
  unfold G_l_field F_l_field
  generalize G_Field___init__ = G at g1 ⊢
  match V, h1, h4 with
  | [a], _, _ => simp -dsimp; exact g1 _ _ ⟨rfl, _, rfl, q⟩
  | [a, b], _, _ => simp -dsimp; exact g1 _ _ ⟨rfl, _, rfl, q⟩
  | [a, b, c], _, _ => simp -dsimp; exact g1 _ _ ⟨rfl, _, rfl, q⟩
  | [a, b, c, d], _, _ => simp -dsimp; exact g1 _ _ ⟨rfl, _, rfl, q⟩
theorem parts_ok {V : List Pt} {pos : Pt} {M L : List Pc} {post : Post} {xp : XP} (q : post (.tup [vt pos, .tup (L.map pt)]) [none]) : G_State_parts [some (stD V pos M L)] post xp := by
  unfold G_State_parts F_State_parts
  simp -dsimp
  exact q

/-- plain data -/
inductive Pl : D → Prop
  | non : Pl .non
  | bl (b : Bool) : Pl (.bl b)
  | int (i : Int) : i.natAbs < 10 ^ 14 → Pl (.int i)
  | str (s : Str) : Pl (.str s)
  | dk0 : Pl (.dk [])
  | tup {ds : List D} : (∀ d ∈ ds, Pl d) → ds.length ≤ 300 → Pl (.tup ds)
  | lst {ds : List D} : (∀ d ∈ ds, Pl d) → ds.length ≤ 300 → Pl (.lst ds)
def isI : D → Bool
  | .int _ => true
  | _ => false
def isP : D → Bool
  | .tup [a, b] => isI a && isI b
  | _ => false
def isC (n : Nat) : D → Bool
  | .tup ds => decide (ds.length = n) && ds.all isI
  | _ => false
def isPc (n : Nat) : D → Bool
  | .tup [p, c] => isP p && isC n c
  | _ => false
theorem isP_two (a b : D) : isP (.tup [a, b]) = (isI a && isI b) := rfl
theorem isC_tup (n : Nat) (ds : List D) : isC n (.tup ds) = (decide (ds.length = n) && ds.all isI) := rfl
theorem isPc_two (n : Nat) (a b : D) : isPc n (.tup [a, b]) = (isP a && isC n b) := rfl
theorem isint_all {d : D} {post : Post} {xp : XP} (h : Pl d) (q : post (.bl (isI d)) [none]) : G_is_integer [some d] post xp := by
  unfold G_is_integer F_is_integer
  cases h <;> simp -dsimp <;> exact q
theorem len2 {α : Type} (r : List α) : ¬ ((r.length : Int) + 1 + 1 + 1 = 2) := by omega
theorem ispair_all {d : D} {post : Post} {xp : XP} (h : Pl d) (q : post (.bl (isP d)) [none]) : G_is_pair [some d] post xp := by
  unfold G_is_pair F_is_pair
  cases h with
  | @tup ds hd hd2 =>
    match ds, hd with
    | [], _ => simp -dsimp; exact q
    | [a], _ => simp -dsimp; exact q
    | [a, b], hd =>
      simp -dsimp
      refine isint_all (hd a (by simp)) ?_
      by_cases z : isI a = true
      · rw [z]
        simp -dsimp
        refine isint_all (hd b (by simp)) ?_
        have : isP (.tup [a, b]) = isI b := by rw [isP_two, z]; rfl
        rw [this] at q
        exact q
      · have z : isI a = false := by simpa using z
        rw [z]
        simp -dsimp
        have : isP (.tup [a, b]) = false := by rw [isP_two, z]; rfl
        rw [this] at q
        exact q
    | a :: b :: c :: r, _ =>
      simp -dsimp [len2]
      exact q
  | _ => simp -dsimp; exact q
theorem all_bl {α : Type} (f : α → Bool) (l : List α) : l.map (fun x => D.bl (f x)) = (l.map f).map D.bl := by simp
theorem are_counts_all {V : List Pt} {d : D} {post : Post} {xp : XP} (hl : V.length ≤ 4) (h : Pl d) (q : post (.bl (isC V.length d)) [none, none]) : G_are_counts [some (fieldD V), some d] post xp := by
  unfold G_are_counts F_are_counts
  cases h with
  | @tup ds hd hd2 =>
    simp -dsimp
    refine kinds_ok ?_
    by_cases z : ds.length = V.length
    · have z' : (ds.length : Int) = V.length := by omega
      simp -dsimp [z']
      have e0 : ds = ds.map id := by simp
      rw [e0]
      refine comp_each id (fun d => .bl (isI d)) (by omega) (fun d hd' Pst h => ?_) ?_
      · simp -dsimp
        refine isint_all (hd d hd') (h _ ?_)
        simp
      simp -dsimp
      rw [all_bl]
      refine gAll_bls ?_
      have : isC V.length (.tup ds) = (ds.map isI).all id := by rw [isC_tup, decide_eq_true z]; simp
      rw [← this]
      simpa using q
    · have z' : ¬ ((ds.length : Int) = V.length) := by omega
      simp -dsimp [z']
      have : isC V.length (.tup ds) = false := by rw [isC_tup, decide_eq_false z]; rfl
      rw [← this]
      exact q
  | _ => simp -dsimp; exact q
theorem is_piece_all {V : List Pt} {d : D} {post : Post} {xp : XP} (hl : V.length ≤ 4) (h : Pl d) (q : post (.bl (isPc V.length d)) [none, none]) : G_is_piece [some (fieldD V), some d] post xp := by
  unfold G_is_piece F_is_piece
  cases h with
  | @tup ds hd hd2 =>
    match ds, hd with
    | [], _ => simp -dsimp; exact q
    | [a], _ => simp -dsimp; exact q
    | [a, b], hd =>
      simp -dsimp
      refine ispair_all (hd a (by simp)) ?_
      by_cases z : isP a = true
      · rw [z]
        simp -dsimp
        refine are_counts_all hl (hd b (by simp)) ?_
        have : isPc V.length (.tup [a, b]) = isC V.length b := by rw [isPc_two, z]; rfl
        rw [this] at q
        exact q
      · have z : isP a = false := by simpa using z
        rw [z]
        simp -dsimp
        have : isPc V.length (.tup [a, b]) = false := by rw [isPc_two, z]; rfl
        rw [this] at q
        exact q
    | a :: b :: c :: r, _ =>
      simp -dsimp [len2]
      exact q
  | _ => simp -dsimp; exact q
theorem filter_nil (ds : List D) : (ds.filter fun d => !isI d) = [] ↔ ds.all isI = true := by
  rw [List.filter_eq_nil_iff, List.all_eq_true]
  exact ⟨fun h d hd => by simpa using h d hd, fun h d hd => by simpa using h d hd⟩
theorem emp_lst (l : List D) (k) : gEqU (.lst l) (.lst []) k = k (.bl (decide (l = []))) := by
  unfold gEqU empty2
  simp -dsimp
theorem lis_pair_all {d : D} {post : Post} {xp : XP} (h : Pl d) (q : post (.bl (isP d)) [none]) : G_l_is_pair [some d] post xp := by
  unfold G_l_is_pair F_l_is_pair
  cases h with
  | @tup ds hd hd2 =>
    match ds, hd, hd2 with
    | [], _, _ => simp -dsimp; exact q
    | [a], _, _ => simp -dsimp; exact q
    | [a, b], hd, hd2 =>
      simp -dsimp
      refine compL_filter (fun d => !isI d) id [a, b] [] (by simp) (fun d hd' Pst N h1 h2 => ?_) ?_
      · have hp := hd d hd'
        cases hp <;> simp -dsimp <;> first
          | exact h1 rfl _ (by simp)
          | exact h2 rfl _ (by simp)
      simp -dsimp only [List.nil_append, List.map_id]
      simp -dsimp [emp_lst]
      exact q
    | a :: b :: c :: r, _, _ =>
      simp -dsimp [len2]
      exact q
  | _ => simp -dsimp; exact q
theorem lis_row_all {d : D} {n : Nat} {post : Post} {xp : XP} (h : Pl d) (q : post (.bl (isPc n d)) [none, none]) : G_l_is_row [some d, some (.int n)] post xp := by
  unfold G_l_is_row F_l_is_row
  cases h with
  | @tup ds hd hd2 =>
    match ds, hd, hd2 with
    | [], _, _ => simp -dsimp; exact q
    | [a], _, _ => simp -dsimp; exact q
    | [a, b], hd, hd2 =>
      simp -dsimp
      refine lis_pair_all (hd a (by simp)) ?_
      rw [isPc_two] at q
      by_cases z : isP a = true
      · rw [z] at q ⊢
        simp -dsimp
        have hb := hd b (by simp)
        cases hb with
        | @tup es he he2 =>
          simp -dsimp
          refine compL_filter isI id es [] (by simpa using (by omega : es.length ≤ 1000000)) (fun d hd' Pst N h1 h2 => ?_) ?_
          · have hp := he d hd'
            cases hp <;> simp -dsimp <;> first
              | exact h1 rfl _ (by simp)
              | exact h2 rfl _ (by simp)
          simp -dsimp only [List.nil_append, List.map_id]
          simp -dsimp
          by_cases w : ((es.filter isI).length : Int) = n
          · by_cases w2 : (es.length : Int) = n
            · simp -dsimp [w, w2]
              have : es.all isI = true := by
                rw [List.all_eq_true]
                have e : (es.filter isI).length = es.length := by omega
                exact fun d hd => List.length_filter_eq_length_iff.mp e d hd
              have e2 : isC n (.tup es) = true := by rw [isC_tup, this, decide_eq_true (by omega)]; rfl
              rw [e2] at q
              exact q
            · simp -dsimp [w, w2]
              have e2 : isC n (.tup es) = false := by rw [isC_tup, decide_eq_false (by omega)]; rfl
              rw [e2] at q
              exact q
          · simp -dsimp [w]
            have e2 : isC n (.tup es) = false := by
              rw [isC_tup]
              by_cases w2 : es.length = n
              · rw [decide_eq_true w2, Bool.true_and]
                by_cases w3 : es.all isI = true
                · exfalso
                  rw [List.all_eq_true] at w3
                  have := List.length_filter_eq_length_iff.mpr w3
                  omega
                · simpa using w3
              · rw [decide_eq_false w2]; rfl
            rw [e2] at q
            exact q
        | _ => simp -dsimp; exact q
      · have z : isP a = false := by simpa using z
        rw [z] at q ⊢
        simp -dsimp
        exact q
    | a :: b :: c :: r, _, _ =>
      simp -dsimp [len2]
      exact q
  | _ => simp -dsimp; exact q

theorem isI_ex {d : D} (h : isI d = true) : ∃ i, d = .int i := by
  cases d <;> simp only [isI] at h <;> first | exact ⟨_, rfl⟩ | cases h
theorem isP_ex {d : D} (h : isP d = true) : ∃ p : Pt, d = vt p := by
  unfold isP at h
  split at h
  · rw [Bool.and_eq_true] at h
    obtain ⟨i, rfl⟩ := isI_ex h.1
    obtain ⟨j, rfl⟩ := isI_ex h.2
    exact ⟨(i, j), rfl⟩
  · cases h
theorem ints_ex : ∀ {ds : List D}, ds.all isI = true → ∃ c : Cn, ds = c.map .int
  | [], _ => ⟨[], rfl⟩
  | d :: ds, h => by
    rw [List.all_cons, Bool.and_eq_true] at h
    obtain ⟨i, rfl⟩ := isI_ex h.1
    obtain ⟨c, rfl⟩ := ints_ex h.2
    exact ⟨i :: c, rfl⟩
theorem isC_ex {n : Nat} {d : D} (h : isC n d = true) : ∃ c : Cn, d = ct c ∧ c.length = n := by
  unfold isC at h
  split at h
  · rw [Bool.and_eq_true, decide_eq_true_iff] at h
    obtain ⟨c, rfl⟩ := ints_ex h.2
    exact ⟨c, rfl, by simpa using h.1⟩
  · cases h
theorem isPc_ex {n : Nat} {d : D} (h : isPc n d = true) : ∃ p : Pc, d = pt p ∧ p.2.length = n := by
  unfold isPc at h
  split at h
  · rw [Bool.and_eq_true] at h
    obtain ⟨p, rfl⟩ := isP_ex h.1
    obtain ⟨c, rfl, hc⟩ := isC_ex h.2
    exact ⟨(p, c), rfl, hc⟩
  · cases h
theorem isP_vt (p : Pt) : isP (vt p) = true := rfl
theorem all_isI (c : Cn) : (c.map D.int).all isI = true := by simp [isI]
theorem isC_ct {n : Nat} {c : Cn} (h : c.length = n) : isC n (ct c) = true := by
  show isC n (.tup (c.map .int)) = true
  rw [isC_tup, all_isI, decide_eq_true (by simpa using h)]; rfl
theorem isPc_pt {n : Nat} {p : Pc} (h : p.2.length = n) : isPc n (pt p) = true := by
  show isPc n (.tup [vt p.1, ct p.2]) = true
  rw [isPc_two, isP_vt, isC_ct h]; rfl
theorem pcs_ex {n : Nat} : ∀ {ds : List D}, ds.all (isPc n) = true → ∃ L : List Pc, ds = L.map pt ∧ WF n L
  | [], _ => ⟨[], rfl, fun _ h => by cases h⟩
  | d :: ds, h => by
    rw [List.all_cons, Bool.and_eq_true] at h
    obtain ⟨p, rfl, hp⟩ := isPc_ex h.1
    obtain ⟨L, rfl, w⟩ := pcs_ex h.2
    exact ⟨p :: L, rfl, fun q hq => by
      rcases List.mem_cons.mp hq with rfl | hq
      · exact hp
      · exact w q hq⟩
/-- the rows are those of a state -/
def Rows (n : Nat) (es : List D) : Prop := ∃ L : List Pc, es = L.map pt ∧ Can n L
theorem gLe_vt {p q : Pt} {k : D → Prop} (h : k (.bl (!decide (DL.ltP q p)))) : gLe (vt p) (vt q) k := by
  refine ⟨_, _, [p.1, p.2], [q.1, q.2], rfl, rfl, rfl, rfl, ?_⟩
  have e : Ob.lexAt (fun j => decide ([p.1, p.2].getD j 0 = [q.1, q.2].getD j 0)) (fun j => decide ([p.1, p.2].getD j 0 ≤ [q.1, q.2].getD j 0)) (decide ([p.1, p.2].length ≤ [q.1, q.2].length)) 0 (min [p.1, p.2].length [q.1, q.2].length) = !decide (DL.ltP q p) := by
    obtain ⟨a, b⟩ := p
    obtain ⟨c, d⟩ := q
    have e0 : (!decide (DL.ltP (c, d) (a, b))) = decide (¬ (c < a ∨ (c = a ∧ d < b))) := by rw [decide_not]; rfl
    rw [e0]
    simp only [Ob.lexAt, List.length_cons, List.length_nil, Nat.min_self, List.getD_cons_zero, List.getD_cons_succ, decide_eq_true_eq]
    by_cases h1 : a = c
    · rw [if_pos h1]
      by_cases h2 : b = d
      · rw [if_pos h2]; simp; omega
      · rw [if_neg h2, decide_eq_decide]; omega
    · rw [if_neg h1, decide_eq_decide]; omega
  rw [e]
  exact h
open Classical in
theorem rows_no {n : Nat} {U W : List D} {L0 : List Pc} (e : U = L0.map pt) (h : ∀ L : List Pc, W = L.map pt → ¬ Can n (L0 ++ L)) : decide (Rows n (U ++ W)) = false := by
  refine decide_eq_false fun ⟨L, eL, c⟩ => ?_
  subst e
  have e1 : L0.map pt = (L.take L0.length).map pt := by
    rw [List.map_take, ← eL]
    simp
  have e2 : L0 = L.take L0.length := by
    have := (map_inj (f := pt) (fun a b h => by
      obtain ⟨⟨a1, a2⟩, a3⟩ := a
      obtain ⟨⟨b1, b2⟩, b3⟩ := b
      simp [pt, vt, ct] at h
      obtain ⟨⟨rfl, rfl⟩, h⟩ := h
      have : a3 = b3 := by
        have := (map_inj (f := D.int) (fun a b h => by cases h; rfl) a3 b3)
        rw [this] at h; exact h
      rw [this]) L0 (L.take L0.length))
    rw [this] at e1; exact e1
  refine h (L.drop L0.length) ?_ ?_
  · rw [List.map_drop, ← eL]
    simp
  · have : L0 ++ L.drop L0.length = L := by
      have := List.take_append_drop L0.length L
      rw [← e2] at this; exact this
    rw [this]; exact c

def lastD : List Pc → D
  | [] => .non
  | [p] => vt p.1
  | _ :: q :: r => lastD (q :: r)
theorem lastD_snoc (L : List Pc) (p : Pc) : lastD (L ++ [p]) = vt p.1 := by
  induction L with
  | nil => rfl
  | cons a L ih =>
    cases L with
    | nil => rfl
    | cons b L => exact ih
theorem lastD_cases (L : List Pc) : (L = [] ∧ lastD L = .non) ∨ ∃ M p, L = M ++ [p] ∧ lastD L = vt p.1 := by
  rcases List.eq_nil_or_concat L with rfl | ⟨M, p, rfl⟩
  · exact .inl ⟨rfl, rfl⟩
  · exact .inr ⟨M, p, by simp, by simpa using lastD_snoc M p⟩
theorem asc_snoc {L : List Pc} {p q : Pc} (a : Asc (L ++ [p])) (h : DL.ltP p.1 q.1) : Asc ((L ++ [p]) ++ [q]) := by
  unfold Asc at a ⊢
  rw [List.pairwise_append]
  refine ⟨a, by simp, fun x hx y hy => ?_⟩
  rw [List.mem_singleton] at hy
  subst hy
  rw [List.pairwise_append] at a
  rcases List.mem_append.mp hx with hx | hx
  · exact (a.2.2 x hx p (by simp)).tr h
  · rw [List.mem_singleton] at hx
    subst hx; exact h
open Classical in
/-- what the law's own look says -/
noncomputable def fitB (n : Nat) : D → Bool
  | .tup [s, .tup es] => isP s && decide (Rows n es)
  | _ => false
open Classical in
theorem fitB_two (n : Nat) (s : D) (es : List D) : fitB n (.tup [s, .tup es]) = (isP s && decide (Rows n es)) := rfl
theorem fitB_more (n : Nat) (a b c : D) (r : List D) : fitB n (.tup (a :: b :: c :: r)) = false := by cases b <;> rfl
theorem zeros (n : Nat) : D.tup (List.replicate n (D.int 0)) = ct (zero n) := by unfold ct zero; simp
open Classical in
theorem lfits_all {d : D} {n : Nat} {post : Post} {xp : XP} (h : Pl d) (hn : 1 ≤ n) (hn4 : n ≤ 4) (q : post (.bl (fitB n d)) [none, none]) : G_l_fits [some d, some (.int n)] post xp := by
  unfold G_l_fits F_l_fits
  cases h with
  | @tup ds hd hd2 =>
    match ds, hd, hd2 with
    | [], _, _ => simp -dsimp; exact q
    | [a], _, _ => simp -dsimp; exact q
    | [a, b], hd, hd2 =>
      simp -dsimp
      refine lis_pair_all (hd a (by simp)) ?_
      have hb := hd b (by simp)
      by_cases z : isP a = true
      · rw [z]
        simp -dsimp
        cases hb with
        | @tup es he he2 =>
          rw [fitB_two, z, Bool.true_and] at q
          simp -dsimp
          refine loop_inv (fun W ρ => ∃ (L : List Pc) (x3 : Option D), es = L.map pt ++ W ∧ Can n L ∧ (∀ d ∈ W, Pl d) ∧ ρ = [some (.tup [a, .tup es]), some (.int n), some (lastD L), x3]) ?_ ?_ _ _ ⟨[], _, rfl, ⟨(fun _ h => by cases h), (fun _ h => by cases h), List.Pairwise.nil⟩, he, rfl⟩
          · rintro ρ ⟨L, x3, e, c, _, rfl⟩
            simp -dsimp
            have : decide (Rows n es) = true := decide_eq_true ⟨L, by simpa using e, c⟩
            rw [this] at q
            exact q
          · rintro d W ρ N hN ⟨L, x3, e, c, hW, rfl⟩
            have hd := hW d List.mem_cons_self
            have no : (∀ M : List Pc, d :: W = M.map pt → ¬ Can n (L ++ M)) → decide (Rows n es) = false := fun h => by
              rw [e]; exact rows_no rfl h
            simp -dsimp
            refine lis_row_all hd ?_
            by_cases y : isPc n d = true
            · obtain ⟨p, rfl, hp⟩ := isPc_ex y
              rw [isPc_pt hp]
              simp -dsimp [pt, zeros]
              refine ⟨by omega, ?_⟩
              rw [eq_ct]
              simp -dsimp
              have tl : ∀ d ∈ W, Pl d := fun d hd => hW d (List.mem_cons_of_mem _ hd)
              have bad : (p.2 = zero n ∨ ∃ q ∈ L, ¬ DL.ltP q.1 p.1) → decide (Rows n es) = false := fun h => no fun M eM cM => by
                cases M with
                | nil => cases eM
                | cons m M =>
                  rw [List.map_cons, List.cons.injEq, pt_inj] at eM
                  obtain ⟨rfl, _⟩ := eM
                  rcases h with h | ⟨q, hq, h⟩
                  · have := cM.nz p (by simp)
                    rw [h, nz_zero] at this; cases this
                  · have as := cM.asc
                    unfold Asc at as
                    rw [List.pairwise_append] at as
                    exact h (as.2.2 q hq p (by simp))
              by_cases hz : p.2 = zero n
              · rw [if_pos hz]
                rw [bad (.inl hz)] at q
                exact q
              · rw [if_neg hz]
                have np : nz p.2 = true := (nz_ne hp).2 hz
                have wf1 : WF n (L ++ [p]) := fun x hx => by
                  rcases List.mem_append.mp hx with hx | hx
                  · exact c.wf x hx
                  · rw [List.mem_singleton] at hx; subst hx; exact hp
                have nz1 : ∀ x ∈ L ++ [p], nz x.2 = true := fun x hx => by
                  rcases List.mem_append.mp hx with hx | hx
                  · exact c.nz x hx
                  · rw [List.mem_singleton] at hx; subst hx; exact np
                have e1 : es = List.map pt (L ++ [p]) ++ W := by rw [e]; simp
                rcases lastD_cases L with ⟨rfl, h2⟩ | ⟨M, q0, rfl, h2⟩
                · rw [h2]
                  rw [if_pos rfl]
                  exact hN _ ⟨[] ++ [p], _, e1, ⟨wf1, nz1, List.pairwise_singleton _ _⟩, tl, rfl⟩
                · rw [h2]
                  rw [if_neg (by exact Bool.false_ne_true)]
                  refine gLe_vt ?_
                  by_cases lt : DL.ltP q0.1 p.1
                  · rw [decide_eq_true lt]
                    simp -dsimp
                    exact hN _ ⟨(M ++ [q0]) ++ [p], _, e1, ⟨wf1, nz1, asc_snoc c.asc lt⟩, tl, by rw [lastD_snoc]⟩
                  · rw [decide_eq_false lt]
                    simp -dsimp
                    rw [bad (.inr ⟨q0, by simp, lt⟩)] at q
                    exact q
            · have y : isPc n d = false := by simpa using y
              rw [y]
              simp -dsimp
              have : decide (Rows n es) = false := no fun M eM c => by
                cases M with
                | nil => cases eM
                | cons m M =>
                  rw [List.map_cons, List.cons.injEq] at eM
                  rw [eM.1, isPc_pt (c.wf m (by simp))] at y
                  cases y
              rw [this] at q
              exact q
        | _ => simp -dsimp; exact q
      · have z : isP a = false := by simpa using z
        rw [z]
        simp -dsimp
        have : fitB n (.tup [a, b]) = false := by
          cases hb with
          | tup => rw [fitB_two, z]; rfl
          | _ => rfl
        rw [this] at q
        exact q
    | a :: b :: c :: r, _, _ =>
      simp -dsimp [len2]
      rw [fitB_more] at q
      exact q
  | _ => simp -dsimp; exact q

theorem zip_asc : ∀ {L : List Pc}, (∀ p ∈ List.zip L L.tail, DL.ltP p.1.1 p.2.1) → Asc L
  | [], _ => List.Pairwise.nil
  | [_], _ => List.pairwise_singleton _ _
  | a :: b :: L, h => by
    have h1 : DL.ltP a.1 b.1 := h (a, b) (by simp)
    have h2 : Asc (b :: L) := zip_asc (L := b :: L) fun p hp => h p (by
      simp only [List.tail_cons, List.zip_cons_cons, List.mem_cons]
      exact .inr hp)
    unfold Asc at h2 ⊢
    rw [List.pairwise_cons]
    refine ⟨fun c hc => ?_, h2⟩
    rcases List.mem_cons.mp hc with rfl | hc
    · exact h1
    · rw [List.pairwise_cons] at h2
      exact h1.tr (h2.1 c hc)
open Classical in
noncomputable def rowsB (n : Nat) : D → Bool
  | .tup es => decide (Rows n es)
  | _ => false
open Classical in
theorem rowsB_tup (n : Nat) (es : List D) : rowsB n (.tup es) = decide (Rows n es) := rfl
open Classical in
theorem are_pieces_all {V : List Pt} {d : D} {post : Post} {xp : XP} (h4 : V.length ≤ 4) (h : Pl d) (q : post (.bl (rowsB V.length d)) [none, none]) : G_are_pieces [some (fieldD V), some d] post xp := by
  unfold G_are_pieces F_are_pieces
  cases h with
  | @tup es he he2 =>
    rw [rowsB_tup] at q
    simp -dsimp
    have e0 : es = es.map id := by simp
    rw [show compK _ _ _ _ _ _ es _ _ = compK _ _ _ _ _ _ (es.map id) _ _ by rw [← e0]]
    refine comp_each id (fun d => .bl (isPc V.length d)) (by omega) (fun d hd Pst h => ?_) ?_
    · simp -dsimp
      refine is_piece_all h4 (he d hd) (h _ ?_)
      simp
    simp -dsimp
    rw [all_bl]
    refine gAll_bls ?_
    by_cases a1 : (es.map (isPc V.length)).all id = true
    · rw [a1]
      have a2 : es.all (isPc V.length) = true := by simpa using a1
      obtain ⟨L, rfl, wf⟩ := pcs_ex a2
      have hl : L.length ≤ 1000 := by have := (by simpa using he2 : L.length ≤ 300); omega
      simp -dsimp
      refine comp_each pt (fun p => .bl (nz p.2)) (by omega) (fun p hp Pst h => ?_) ?_
      · simp -dsimp [pt]
        refine gList_ct ?_
        refine gAnyI_ints ?_
        exact h _ (by simp [pt])
      simp -dsimp
      rw [all_bl]
      refine gAll_bls ?_
      have un : ∀ M : List Pc, L.map pt = M.map pt → M = L := fun M e => by rw [map_pt_inj] at e; exact e.symm
      by_cases b1 : (L.map fun p => nz p.2).all id = true
      · rw [b1]
        simp -dsimp
        have ec : cutL (L.map pt) (some 1) none = L.tail.map pt := by
          cases L with
          | nil => exact cut1_nil
          | cons a L => exact cut1 _ _
        rw [ec, zipD_map]
        refine comp_each (fun p : Pc × Pc => D.tup [pt p.1, pt p.2]) (fun p => .bl (decide (DL.ltP p.1.1 p.2.1))) (by simp; omega) (fun p hp Pst h => ?_) ?_
        · simp -dsimp [pt]
          refine gLt_vt ?_
          exact h _ (by simp [pt])
        simp -dsimp
        rw [all_bl]
        refine gAll_bls ?_
        have : ((List.zip L L.tail).map fun p => decide (DL.ltP p.1.1 p.2.1)).all id = decide (Rows V.length (L.map pt)) := by
          rw [Bool.eq_iff_iff, decide_eq_true_iff, List.all_eq_true]
          constructor
          · intro h
            refine ⟨L, rfl, wf, fun p hp => ?_, zip_asc fun p hp => ?_⟩
            · rw [List.all_eq_true] at b1
              simpa using b1 _ (List.mem_map_of_mem hp)
            · have := h _ (List.mem_map_of_mem hp)
              simpa using this
          · rintro ⟨M, e, c⟩ b hb
            obtain rfl := un M e
            obtain ⟨p, hp, rfl⟩ := List.mem_map.mp hb
            simpa using asc_zip c.asc p hp
        rw [this]
        exact q
      · have b1' : (L.map fun p => nz p.2).all id = false := by simpa using b1
        rw [b1']
        simp -dsimp
        have : decide (Rows V.length (L.map pt)) = false := decide_eq_false fun ⟨M, e, c⟩ => by
          obtain rfl := un M e
          refine b1 ?_
          rw [List.all_eq_true]
          intro b hb
          obtain ⟨p, hp, rfl⟩ := List.mem_map.mp hb
          simpa using c.nz p hp
        rw [this] at q
        exact q
    · have a1' : (es.map (isPc V.length)).all id = false := by simpa using a1
      rw [a1']
      simp -dsimp
      have : decide (Rows V.length es) = false := decide_eq_false fun ⟨M, e, c⟩ => by
        subst e
        refine a1 ?_
        rw [List.all_eq_true]
        intro b hb
        rw [List.map_map] at hb
        obtain ⟨p, hp, rfl⟩ := List.mem_map.mp hb
        exact isPc_pt (c.wf p hp)
      rw [this] at q
      exact q
  | _ => simp -dsimp; exact q
theorem init_no {V : List Pt} {d : D} {es : List D} {post : Post} {xp : XP} (h4 : V.length ≤ 4) (hd : Pl d) (he : ∀ e ∈ es, Pl e) (hl : es.length ≤ 1000) (bad : isP d = false ∨ es.all (isPc V.length) = false) (q : xp ⟨"InvalidState", []⟩ [some (.obj "State" []), none, none, none]) :
    G_State___init__ [some (.obj "State" []), some (fieldD V), some d, some (.tup es)] post xp := by
  unfold G_State___init__ F_State___init__
  simp -dsimp
  refine ispair_all hd ?_
  by_cases z : isP d = true
  · have bad : es.all (isPc V.length) = false := bad.resolve_left (by rw [z]; simp)
    rw [z]
    simp -dsimp
    have e0 : es = es.map id := by simp
    rw [show compK _ _ _ _ _ _ es _ _ = compK _ _ _ _ _ _ (es.map id) _ _ by rw [← e0]]
    refine comp_each id (fun d => .bl (isPc V.length d)) (by omega) (fun d hd Pst h => ?_) ?_
    · simp -dsimp
      refine is_piece_all h4 (he d hd) (h _ ?_)
      simp
    simp -dsimp
    rw [all_bl]
    refine gAll_bls ?_
    have : (es.map (isPc V.length)).all id = false := by
      rw [List.all_map]
      simpa using bad
    rw [this]
    simp -dsimp
    exact q
  · have z : isP d = false := by simpa using z
    rw [z]
    simp -dsimp
    exact q

theorem isOwn_fieldD (V : List Pt) : isOwn "Field" (fieldD V) = some true := by simp [isOwn, fieldD]
open Classical in
theorem eqf {V U : List Pt} {post : Post} {xp : XP} (q : post (.bl (decide (V = U))) [none, none]) : G_Field___eq__ [some (fieldD V), some (fieldD U)] post xp := by
  unfold G_Field___eq__ F_Field___eq__
  simp -dsimp [isOwn_fieldD, gEqU_pl]
  simpa using q
open Classical in
theorem eqo {V U : List Pt} {k : Bool → Prop} (h : k (decide (V = U))) : eqOwn "Field" G_Field___eq__ (fieldD V) (fieldD U) k := .inl ⟨⟨_, rfl⟩, rfl, eqf (by simpa using h)⟩
theorem field_ok {V : List Pt} {pos : Pt} {M L : List Pc} {post : Post} {xp : XP} (q : post (fieldD V) [none]) : G_State_field [some (stD V pos M L)] post xp := by
  unfold G_State_field F_State_field
  simp -dsimp
  exact q
theorem of_no {V : List Pt} {d : D} {post : Post} {xp : XP} (h4 : V.length ≤ 4) (h : Pl d) (bad : fitB V.length d = false) (q : xp ⟨"InvalidState", []⟩ [none, none, none]) : G_State_of [some (.cl "State"), some (fieldD V), some d] post xp := by
  classical
  unfold G_State_of F_State_of
  cases h with
  | @tup ds hd hd2 =>
    match ds, hd, hd2 with
    | [], _, _ => simp -dsimp; exact q
    | [a], _, _ => simp -dsimp; exact q
    | [a, b], hd, hd2 =>
      simp -dsimp
      have hb := hd b (by simp)
      refine are_pieces_all h4 hb ?_
      by_cases z : rowsB V.length b = true
      · rw [z]
        simp -dsimp
        cases hb with
        | @tup es he he2 =>
          have z' := z
          rw [rowsB_tup] at z
          rw [fitB_two, z, Bool.and_true] at bad
          refine ⟨_, .inl rfl, ?_⟩
          refine ⟨?_, ?_⟩
          · omega
          refine init_no h4 (hd a (by simp)) he (by omega) (.inl bad) ?_
          simp -dsimp
          exact q
        | _ => exact absurd z (by show ¬ (false = true); simp)
      · have z : rowsB V.length b = false := by simpa using z
        rw [z]
        simp -dsimp
        exact q
    | a :: b :: c :: r, _, _ =>
      simp -dsimp [len2]
      exact q
  | _ => simp -dsimp; exact q
theorem told_no {V : List Pt} {d : D} {post : Post} {xp : XP} (h4 : V.length ≤ 4) (h : Pl d) (bad : fitB V.length d = false) (q : post (.str "invalid") [none, none]) : G_l_told [some (fieldD V), some d] post xp := by
  unfold G_l_told F_l_told
  simp -dsimp
  refine of_no h4 h bad ?_
  simp -dsimp
  rw [kept_yes rfl]
  exact .inr ⟨rfl, .inl ⟨rfl, q⟩⟩
theorem told_ok {V : List Pt} {pos : Pt} {L : List Pc} {post : Post} {xp : XP} (h1 : 1 ≤ V.length) (h4 : V.length ≤ 4) (c : Can V.length L) (hl : L.length ≤ 500) (q : post (.tup [vt pos, .tup (L.map pt)]) [none, none]) : G_l_told [some (fieldD V), some (.tup [vt pos, .tup (L.map pt)])] post xp := by
  unfold G_l_told F_l_told
  simp -dsimp
  refine of_ok h1 h4 c hl fun M hM => ?_
  simp -dsimp
  refine field_ok ?_
  refine eqo ?_
  simp -dsimp
  refine parts_ok ?_
  simp -dsimp
  exact q
theorem put_no {V : List Pt} {s r : D} {post : Post} {xp : XP} (h4 : V.length ≤ 4) (hs : Pl s) (hr : Pl r) (bad : isP s = false ∨ isPc V.length r = false) (q : post (.str "invalid") [none, none, none]) : G_l_put [some (fieldD V), some s, some r] post xp := by
  unfold G_l_put F_l_put
  simp -dsimp
  refine init_no h4 hs (fun e he => ?_) (by simp) (bad.imp id fun b => by simp [b]) ?_
  · simp at he; subst he; exact hr
  simp -dsimp
  rw [kept_yes rfl]
  exact q
theorem put_ok {V : List Pt} {pos : Pt} {p : Pc} {post : Post} {xp : XP} (h1 : 1 ≤ V.length) (h4 : V.length ≤ 4) (w : p.2.length = V.length) (q : post (.tup [vt pos, .tup ((canon V.length [p, p]).map pt)]) [none, none, none]) : G_l_put [some (fieldD V), some (vt pos), some (pt p)] post xp := by
  unfold G_l_put F_l_put
  simp -dsimp
  refine init_ok (ps := [p, p]) h1 h4 (fun x hx => by simp at hx; subst hx; exact w) (by simp) fun M hM => ?_
  refine ⟨rfl, _, rfl, ?_⟩
  have es : D.obj (Str.ofString "State") _ = stD V pos M (canon V.length [p, p]) := rfl
  simp -dsimp
  rw [es]
  refine parts_ok ?_
  simp -dsimp
  exact q

theorem pl_vt {p : Pt} (h1 : p.1.natAbs < 10 ^ 14) (h2 : p.2.natAbs < 10 ^ 14) : Pl (vt p) := .tup (fun d hd => by
  simp at hd
  rcases hd with rfl | rfl
  · exact .int _ h1
  · exact .int _ h2) (by simp)
theorem pl_ints {c : List Int} (h : ∀ i ∈ c, i.natAbs < 10 ^ 14) : ∀ d ∈ c.map D.int, Pl d := fun d hd => by
  obtain ⟨i, hi, rfl⟩ := List.mem_map.mp hd
  exact .int _ (h i hi)
theorem pl_ct {c : Cn} (hl : c.length ≤ 300) (h : ∀ i ∈ c, i.natAbs < 10 ^ 14) : Pl (ct c) := .tup (pl_ints h) (by simpa using hl)
theorem pl_two {a b : D} (h1 : Pl a) (h2 : Pl b) : Pl (.tup [a, b]) := .tup (fun d hd => by
  simp at hd
  rcases hd with rfl | rfl <;> assumption) (by simp)
/-- bounded pieces -/
def Bp (L : List Pc) : Prop := ∀ p ∈ L, (p.1.1.natAbs < 10 ^ 14 ∧ p.1.2.natAbs < 10 ^ 14) ∧ ∀ i ∈ p.2, i.natAbs < 10 ^ 14
theorem pl_pt {p : Pc} (hl : p.2.length ≤ 300) (h : (p.1.1.natAbs < 10 ^ 14 ∧ p.1.2.natAbs < 10 ^ 14) ∧ ∀ i ∈ p.2, i.natAbs < 10 ^ 14) : Pl (pt p) := pl_two (pl_vt h.1.1 h.1.2) (pl_ct hl h.2)
theorem vt_pl {p : Pt} (h : Pl (vt p)) : p.1.natAbs < 10 ^ 14 ∧ p.2.natAbs < 10 ^ 14 := by
  cases h with
  | tup hd _ =>
    have h1 := hd (.int p.1) (by simp)
    have h2 := hd (.int p.2) (by simp)
    cases h1; cases h2
    constructor <;> assumption
theorem ct_pl {c : Cn} (h : Pl (ct c)) : ∀ i ∈ c, i.natAbs < 10 ^ 14 := fun i hi => by
  cases h with
  | tup hd _ =>
    have h1 := hd (.int i) (List.mem_map_of_mem hi)
    cases h1; assumption
theorem pt_pl {p : Pc} (h : Pl (pt p)) : (p.1.1.natAbs < 10 ^ 14 ∧ p.1.2.natAbs < 10 ^ 14) ∧ ∀ i ∈ p.2, i.natAbs < 10 ^ 14 := by
  cases h with
  | tup hd _ => exact ⟨vt_pl (hd (vt p.1) (by simp)), ct_pl (hd (ct p.2) (by simp))⟩
theorem odd_ok {ns : List Int} {a r : Int} {post : Post} {xp : XP} (ha : 0 ≤ a) (ha2 : a ≤ 999000) (hr : 0 ≤ r)
    (h : ∀ d a' r', Pl d → isP d = false → a ≤ a' → a' ≤ a + 1 → 0 ≤ r' → post d [some (pen (ns.map .int) a' r')]) : G_l_odd [some (pen (ns.map .int) a r)] post xp := by
  unfold G_l_odd F_l_odd
  simp -dsimp
  refine draw_ok ha (by omega) hr (by omega) (by omega) fun i a1 r1 _ _ _ _ _ => ?_
  simp -dsimp
  refine ix_drawn (by omega) (by simp; omega) fun z hz => ?_
  have i1 : ∀ i : Int, i.natAbs < 10 → Pl (.int i) := fun i hi => .int i (by omega)
  have tp : ∀ {ds : List D}, (∀ d ∈ ds, (∃ i : Int, d = .int i ∧ i.natAbs < 10) ∨ d = .bl true ∨ d = .str "0" ∨ d = vt (0, 0)) → ds.length ≤ 3 → Pl (.tup ds) := fun {ds} h hl => .tup (fun d hd => by
    rcases h d hd with ⟨i, rfl, hi⟩ | rfl | rfl | rfl
    · exact i1 i hi
    · exact .bl _
    · exact .str _
    · exact pl_vt (by decide) (by decide)) (by omega)
  refine h z a1 r1 ?_ ?_ (by omega) (by omega) (by omega)
  · simp only [List.mem_cons, List.not_mem_nil, or_false] at hz
    rcases hz with rfl | rfl | rfl | rfl | rfl | rfl | rfl | rfl | rfl | rfl | rfl
    · exact .non
    · exact .bl _
    · exact .str _
    · exact tp (by simp) (by simp)
    · exact tp (by simp) (by simp)
    · exact .lst (fun d hd => by
        simp at hd
        rcases hd with rfl | rfl <;> exact i1 _ (by decide)) (by simp)
    · exact tp (by simp) (by simp)
    · exact tp (by simp) (by simp)
    · exact .dk0
    · exact tp (by simp) (by simp)
    · exact tp (by simp [vt]) (by simp)
  · simp only [List.mem_cons, List.not_mem_nil, or_false] at hz
    rcases hz with rfl | rfl | rfl | rfl | rfl | rfl | rfl | rfl | rfl | rfl | rfl <;> rfl

theorem place_bd {ns : List Int} {a r m : Int} {post : Post} {xp : XP} (ha : 0 ≤ a) (ha2 : a ≤ 999000) (hr : 0 ≤ r) (hm : 0 ≤ m) (hm2 : m ≤ 100)
    (h : ∀ (p : Pt) (a' r' : Int), p.1.natAbs < 10 ^ 14 → p.2.natAbs < 10 ^ 14 → a ≤ a' → a' ≤ a + 3 → 0 ≤ r' → post (vt p) [some (pen (ns.map .int) a' r'), none]) : G_l_place [some (pen (ns.map .int) a r), some (.int m)] post xp := by
  unfold G_l_place F_l_place
  simp -dsimp
  refine ⟨cmul_l (by omega) (by omega), ?_⟩
  refine draw_ok (by omega) (by omega) (by omega) (by omega) (by omega) fun x a1 r1 _ _ _ _ _ => ?_
  simp -dsimp
  refine ⟨cmul_l (by omega) (by omega), ?_⟩
  refine draw_ok (by omega) (by omega) (by omega) (by omega) (by omega) fun y a2 r2 _ _ _ _ _ => ?_
  simp -dsimp
  refine ⟨⟨?_, ?_⟩, ?_⟩
  · split <;> omega
  · have : (if m > 1 then m else 1).natAbs.log2 < 9000 := log_small (by split <;> omega) (by split <;> omega)
    exact this
  refine draw_ok (by omega) (by omega) (by omega) (by omega) (by omega) fun z a3 r3 _ _ _ _ _ => ?_
  simp -dsimp
  refine ix_drawn (by split <;> omega) (by simp; split <;> omega) fun w hw => ?_
  obtain ⟨u, rfl, hu⟩ : ∃ u : Int, w = .int u ∧ 0 ≤ u ∧ u ≤ 100000000000 := by
    simp at hw
    rcases hw with rfl | rfl
    · exact ⟨_, rfl, by decide, by decide⟩
    · refine ⟨_, rfl, fdiv_nn (by decide) (by split <;> omega), ?_⟩
      rw [Int.fdiv_eq_ediv_of_nonneg _ (by split <;> omega)]
      exact Int.ediv_le_self _ (by decide)
  have bd : ∀ t : Int, 0 ≤ t → t < 2 * m + 1 → ((t - m) * u).natAbs < 10 ^ 14 := fun t h1 h2 => by
    rw [Int.natAbs_mul]
    have := Nat.mul_le_mul (by omega : (t - m).natAbs ≤ 100) (by omega : u.natAbs ≤ 100000000000)
    omega
  simp -dsimp
  refine ⟨cmul_r (by omega) (by omega), cmul_r (by omega) (by omega), ?_⟩
  exact h (_, _) _ _ (bd x (by omega) (by omega)) (bd y (by omega) (by omega)) (by omega) (by omega) (by omega)
theorem mem_cut {α : List D} {lo hi : Option Int} {d : D} (h : d ∈ cutL α lo hi) : d ∈ α := List.mem_of_mem_drop (List.mem_of_mem_take h)
theorem len_cut (α : List D) (lo hi : Option Int) : (cutL α lo hi).length ≤ α.length := by
  unfold cutL
  rw [List.length_take, List.length_drop]; omega
theorem pl_cons {a : D} {l : List D} (h : Pl a) (hl : ∀ d ∈ l, Pl d) : ∀ d ∈ a :: l, Pl d := fun d hd => by
  rcases List.mem_cons.mp hd with rfl | hd
  · exact h
  · exact hl d hd
theorem pl_app {l m : List D} (h : ∀ d ∈ l, Pl d) (h' : ∀ d ∈ m, Pl d) : ∀ d ∈ l ++ m, Pl d := fun d hd => (List.mem_append.mp hd).elim (h d) (h' d)
theorem pl_nil : ∀ d ∈ ([] : List D), Pl d := fun d hd => by cases hd
theorem spoiled_ok {ns : List Int} {a r : Int} {pos : Pt} {L : List Pc} {n : Nat} {post : Post} {xp : XP} (ha : 0 ≤ a) (ha2 : a ≤ 990000) (hr : 0 ≤ r) (hp : Pl (vt pos)) (w : WF n L) (hn : 1 ≤ n) (hn4 : n ≤ 4) (hl : L.length ≤ 8) (hL : ∀ d ∈ L.map pt, Pl d)
    (h : ∀ d a' r', Pl d → a ≤ a' → a' ≤ a + 3 → 0 ≤ r' → post d [some (pen (ns.map .int) a' r'), none, none]) : G_l_spoiled [some (pen (ns.map .int) a r), some (vt pos), some (.lst (L.map pt))] post xp := by
  unfold G_l_spoiled F_l_spoiled
  simp -dsimp
  refine draw_ok ha (by omega) hr (by omega) (by omega) fun way a1 r1 y0 y1 _ _ _ => ?_
  simp -dsimp
  refine draw_ok (by omega) (by omega) (by omega) (by omega) (by omega) fun at_ a2 r2 t0 t1 _ _ _ => ?_
  simp -dsimp
  refine odd_ok (by omega) (by omega) (by omega) fun odd a3 r3 po _ _ _ _ => ?_
  have fin : ∀ d, Pl d → post d [some (pen (ns.map .int) a3 r3), none, none] := fun d hd => h d a3 r3 hd (by omega) (by omega) (by omega)
  clear h
  have lL : (L.map pt).length ≤ 8 := by simpa using hl
  obtain ⟨tn, rfl⟩ := Int.eq_ofNat_of_zero_le t0
  have lst8 : ∀ (l : List D), (∀ d ∈ l, Pl d) → l.length ≤ 8 → Pl (.tup l) := fun l h hl => .tup h (by omega)
  simp -dsimp
  have last : (if way = 10 then post (D.tup [odd, D.tup (List.map pt L)]) [some (pen (List.map D.int ns) a3 r3), none, none]
          else
            if way = 11 then
              ∃ d,
                atI
                      [D.tup [vt pos, D.tup (List.map pt L), D.tup []], D.tup [vt pos, D.lst (List.map pt L)],
                        D.lst [vt pos, D.tup (List.map pt L)], odd]
                      (tn : Int) =
                    some d ∧
                  post d [some (pen (List.map D.int ns) a3 r3), none, none]
            else
              if way = 12 then
                ∃ ds,
                  lstD (D.lst (List.map pt L)) = some ds ∧
                    post (D.tup [vt pos, D.tup ds.reverse]) [some (pen (List.map D.int ns) a3 r3), none, none]
              else post (D.tup [vt pos, D.tup (List.map pt L)]) [some (pen (List.map D.int ns) a3 r3), none, none]) := by
    have pt0 := lst8 _ hL lL
    split
    · exact fin _ (pl_two po pt0)
    · split
      · refine ix_drawn (by omega) (by simp; omega) fun z hz => fin _ ?_
        simp only [List.mem_cons, List.not_mem_nil, or_false] at hz
        rcases hz with rfl | rfl | rfl | rfl
        · exact .tup (pl_cons hp (pl_cons pt0 (pl_cons (lst8 _ pl_nil (by simp)) pl_nil))) (by simp)
        · exact pl_two hp (.lst hL (by omega))
        · exact .lst (pl_cons hp (pl_cons pt0 pl_nil)) (by simp)
        · exact po
      · split
        · exact ⟨_, rfl, fin _ (pl_two hp (.tup (fun d hd => hL d (List.mem_reverse.mp hd)) (by rw [List.length_reverse]; omega)))⟩
        · exact fin _ (pl_two hp pt0)
  by_cases hc : cutL (L.map pt) (some (tn : Int)) none = []
  · rw [if_pos hc]
    have p3 : Pl (.tup [D.int 3, D.int 3]) := pl_two (.int 3 (by decide)) (.int 3 (by decide))
    have p1 : ∀ d ∈ [D.int 1], Pl d := pl_cons (.int 1 (by decide)) pl_nil
    have p10 : ∀ d ∈ [D.int 1, D.int 0], Pl d := pl_cons (.int 1 (by decide)) (pl_cons (.int 0 (by decide)) pl_nil)
    have pz0 : Pl (.tup [D.int 0]) := lst8 _ (pl_cons (.int 0 (by decide)) pl_nil) (by simp)
    have near : ∀ d ∈ cutL (L.map pt) none (some (tn : Int)), Pl d := fun d hd => hL d (mem_cut hd)
    have far : ∀ d ∈ cutL (L.map pt) (some ((tn : Int) + 1)) none, Pl d := fun d hd => hL d (mem_cut hd)
    have l1 := len_cut (L.map pt) none (some (tn : Int))
    have l2 := len_cut (L.map pt) (some ((tn : Int) + 1)) none
    have l3 := len_cut [D.int 1] none (some (-1))
    have pcut : ∀ d ∈ cutL [D.int 1] none (some (-1)), Pl d := fun d hd => p1 d (mem_cut hd)
    have lC : ([D.int 1] : List D).length ≤ 4 := by simp
    refine ⟨by omega, ?_⟩
    by_cases w9 : way < 9
    · rw [if_pos w9]
      refine ix_drawn y0 (by simp; omega) fun z hz => ?_
      have pz : Pl z := by
        simp only [List.mem_cons, List.not_mem_nil, or_false] at hz
        rcases hz with rfl | rfl | rfl | rfl | rfl | rfl | rfl | rfl | rfl
        · exact pl_two po (.tup p1 (by omega))
        · exact pl_two p3 po
        · exact pl_two p3 (.tup p10 (by first | (simp; done) | (simp; omega)))
        · exact pl_two p3 (.tup (pl_app pcut (pl_cons po pl_nil)) (by first | (simp; done) | (simp; omega)))
        · exact .tup (pl_cons p3 (pl_cons (.tup p1 (by omega)) (pl_cons (.int 0 (by decide)) pl_nil))) (by simp)
        · exact .tup (pl_cons p3 pl_nil) (by simp)
        · exact .lst (pl_cons p3 (pl_cons (.tup p1 (by omega)) pl_nil)) (by simp)
        · exact pl_two p3 (.lst p1 (by omega))
        · exact pl_two p3 pz0
      exact ⟨by omega, by omega, fin _ (pl_two hp (.tup (pl_app near (pl_cons pz far)) (by first | (simp; done) | (simp; omega))))⟩
    · rw [if_neg w9]
      by_cases w9 : way = 9
      · rw [if_pos w9]
        have pr := pl_two p3 (.tup p1 (by omega))
        exact ⟨by omega, by omega, fin _ (pl_two hp (.tup (pl_app near (pl_cons pr (pl_cons pr far))) (by first | (simp; done) | (simp; omega))))⟩
      · rw [if_neg w9]
        exact last
  · rw [if_neg hc]
    have tl : tn < L.length := by
      have e : cutL (L.map pt) (some (tn : Int)) none = (L.map pt).drop tn := cut_drop _ _
      rw [e] at hc
      have := List.length_pos_iff.mpr hc
      rw [List.length_drop, List.length_map] at this
      omega
    obtain ⟨p, hp0⟩ : ∃ p, L[tn]? = some p := ⟨_, List.getElem?_eq_getElem tl⟩
    have pm : p ∈ L := List.mem_of_getElem? hp0
    have pp := hL (pt p) (List.mem_map_of_mem pm)
    obtain ⟨⟨b1, b2⟩, b3⟩ := pt_pl pp
    have wc := w p pm
    rw [atI_map hp0]
    simp -dsimp [pt, ct, zeros]
    have p3 : Pl (vt p.1) := pl_vt b1 b2
    have p1 : ∀ d ∈ p.2.map D.int, Pl d := pl_ints b3
    have p10 : ∀ d ∈ p.2.map D.int ++ [D.int 0], Pl d := pl_app p1 (pl_cons (.int 0 (by decide)) pl_nil)
    have pz0 : Pl (.tup ((zero p.2.length).map D.int)) := pl_ct (c := zero p.2.length) (by rw [zero_len]; omega) (fun i hi => by rw [List.eq_of_mem_replicate hi]; decide)
    have near : ∀ d ∈ cutL (L.map pt) none (some (tn : Int)), Pl d := fun d hd => hL d (mem_cut hd)
    have far : ∀ d ∈ cutL (L.map pt) (some ((tn : Int) + 1)) none, Pl d := fun d hd => hL d (mem_cut hd)
    have l1 := len_cut (L.map pt) none (some (tn : Int))
    have l2 := len_cut (L.map pt) (some ((tn : Int) + 1)) none
    have l3 := len_cut (p.2.map D.int) none (some (-1))
    have pcut : ∀ d ∈ cutL (p.2.map D.int) none (some (-1)), Pl d := fun d hd => p1 d (mem_cut hd)
    have lC : ((p.2.map D.int) : List D).length ≤ 4 := by simp; omega
    refine ⟨by omega, by rw [List.length_map] at l3; omega, ⟨by omega, by omega⟩, ?_⟩
    by_cases w9 : way < 9
    · rw [if_pos w9]
      refine ix_drawn y0 (by simp; omega) fun z hz => ?_
      have pz : Pl z := by
        simp only [List.mem_cons, List.not_mem_nil, or_false] at hz
        rcases hz with rfl | rfl | rfl | rfl | rfl | rfl | rfl | rfl | rfl
        · exact pl_two po (.tup p1 (by omega))
        · exact pl_two p3 po
        · exact pl_two p3 (.tup p10 (by first | (simp; done) | (simp; omega)))
        · exact pl_two p3 (.tup (pl_app pcut (pl_cons po pl_nil)) (by first | (simp; done) | (simp; omega)))
        · exact .tup (pl_cons p3 (pl_cons (.tup p1 (by omega)) (pl_cons (.int 0 (by decide)) pl_nil))) (by simp)
        · exact .tup (pl_cons p3 pl_nil) (by simp)
        · exact .lst (pl_cons p3 (pl_cons (.tup p1 (by omega)) pl_nil)) (by simp)
        · exact pl_two p3 (.lst p1 (by omega))
        · exact pl_two p3 pz0
      exact ⟨by omega, by omega, fin _ (pl_two hp (.tup (pl_app near (pl_cons pz far)) (by first | (simp; done) | (simp; omega))))⟩
    · rw [if_neg w9]
      by_cases w9 : way = 9
      · rw [if_pos w9]
        have pr := pl_two p3 (.tup p1 (by omega))
        exact ⟨by omega, by omega, fin _ (pl_two hp (.tup (pl_app near (pl_cons pr (pl_cons pr far))) (by first | (simp; done) | (simp; omega))))⟩
      · rw [if_neg w9]
        exact last

theorem mrg_pos {n : Nat} {P : Pt → Prop} {ps : List Pc} (h : ∀ q ∈ ps, P q.1) : ∀ q ∈ mrg n ps, P q.1 := by
  have aux : ∀ (ps L : List Pc), (∀ q ∈ ps, P q.1) → (∀ x ∈ L.map (·.1), P x) → ∀ x ∈ (ps.foldl (mstep n) L).map (·.1), P x := by
    intro ps
    induction ps with
    | nil => intro L _ hL; exact hL
    | cons p ps ih =>
      intro L hp hL
      rw [List.foldl_cons]
      refine ih _ (fun q hq => hp q (List.mem_cons_of_mem _ hq)) ?_
      unfold mstep
      rw [put_keys]
      split
      · exact hL
      · intro x hx
        rcases List.mem_append.mp hx with hx | hx
        · exact hL x hx
        · rw [List.mem_singleton] at hx; subst hx; exact hp p List.mem_cons_self
  intro q hq
  exact aux ps [] h (fun _ h => by cases h) q.1 (List.mem_map_of_mem hq)
theorem canon_pos {n : Nat} {P : Pt → Prop} {ps : List Pc} (h : ∀ q ∈ ps, P q.1) : ∀ q ∈ canon n ps, P q.1 := fun q hq => by
  have := (canon_perm n ps).mem_iff.mp hq
  exact mrg_pos h q (List.mem_filter.mp this).1
theorem canon_bp {n m : Nat} {ps : List Pc} (w : WF n ps) (hl : ps.length ≤ 8) (h : ∀ p ∈ ps, p.1.1.natAbs < 10 ^ 14 ∧ p.1.2.natAbs < 10 ^ 14) (hb : Bd m ps) : ∀ p ∈ canon n ps, (p.1.1.natAbs < 10 ^ 14 ∧ p.1.2.natAbs < 10 ^ 14) ∧ ∀ i ∈ p.2, i.natAbs ≤ 8 * m := fun p hp => by
  refine ⟨canon_pos (P := fun p => p.1.natAbs < 10 ^ 14 ∧ p.2.natAbs < 10 ^ 14) h p hp, fun i hi => ?_⟩
  have h1 := canon_bd w hb p hp i hi
  have h2 := Nat.mul_le_mul hl (Nat.le_refl m)
  exact Nat.le_trans h1 h2
theorem ro_rows {n : Nat} {L : List Pc} (hn : n ≤ 4) (w : WF n L) (hl : L.length ≤ 300) (h : ∀ p ∈ L, (p.1.1.natAbs < 10 ^ 14 ∧ p.1.2.natAbs < 10 ^ 14) ∧ ∀ i ∈ p.2, i.natAbs ≤ 800000000000000) {pos : Pt} (h1 : pos.1.natAbs < 10 ^ 14) (h2 : pos.2.natAbs < 10 ^ 14) (k : D → Prop) :
    gRepr [.tup [vt pos, .tup (L.map pt)]] k = k (.str (shw (.tup [vt pos, .tup (L.map pt)]))) := by
  have r1 : RO (.tup (L.map pt)) 3 ((L.map pt).length * ((8 * 16 + 37) + 2) + 3) := RO.tup fun d hd => by
    obtain ⟨p, hp, rfl⟩ := List.mem_map.mp hd
    obtain ⟨⟨b1, b2⟩, b3⟩ := h p hp
    exact ro_pt (w p hp) hn (by decide) (by decide) (by omega) (by omega) fun i hi => by have := b3 i hi; omega
  have r0 : RO (vt pos) 3 ((L.map pt).length * ((8 * 16 + 37) + 2) + 50) := (ro_vt (k := 16) (by decide) (by decide) (by omega) (by omega)).mono (by omega) (by omega)
  exact gRepr_ro (ro_pair r0 (r1.mono (by omega) (by omega))) (by omega) (by rw [List.length_map]; omega) k
theorem r_inv (k : D → Prop) : gRepr [.str "invalid"] k = k (.str (shw (.str "invalid"))) := gRepr_ro (RO.str (n := 20) (by decide +kernel)) (by omega) (by omega) k

open Classical in
theorem fit_ex {n : Nat} {d : D} (h : fitB n d = true) : ∃ (pos : Pt) (L : List Pc), d = .tup [vt pos, .tup (L.map pt)] ∧ Can n L := by
  unfold fitB at h
  split at h
  · rw [Bool.and_eq_true, decide_eq_true_iff] at h
    obtain ⟨pos, rfl⟩ := isP_ex h.1
    obtain ⟨L, rfl, c⟩ := h.2
    exact ⟨pos, L, rfl, c⟩
  · cases h
theorem law_ok : ∀ ns : List Int, ns.length ≤ 63 → G_law [some (.slst (ns.map D.int))] (fun d _ => d = .bl true) fun _ _ => False := by
  intro ns hn
  unfold G_law F_law
  simp -dsimp
  refine pen_ok hn ?_
  simp -dsimp
  refine loop_range (n := 6) (fun j ρ => ∃ (a r : Int) (x2 x3 x4 x5 x6 x7 x8 x9 x10 x11 x12 x13 : Option D), 0 ≤ a ∧ a ≤ 1000 * j ∧ 0 ≤ r ∧ ρ = [some (.slst (ns.map .int)), some (pen (ns.map .int) a r), x2, x3, x4, x5, x6, x7, x8, x9, x10, x11, x12, x13]) ⟨0, 0, _, _, _, _, _, _, _, _, _, _, _, _, by omega, by omega, by omega, rfl⟩ ?_ ?_
  · rintro j ρ N hj hN ⟨a, r, x2, x3, x4, x5, x6, x7, x8, x9, x10, x11, x12, x13, h1, h2, h3, rfl⟩
    simp -dsimp
    refine pulls_ok h1 (by omega) h3 (by omega) (by omega) fun V a1 r1 pV _ _ _ => ?_
    have v1 := pV.h1
    have v4 := pV.h4
    simp -dsimp
    refine lfield_ok pV ?_
    simp -dsimp
    refine draw_ok (by omega) (by omega) (by omega) (by omega) (by omega) fun wd a2 r2 w0 w3 _ _ _ => ?_
    simp -dsimp
    refine draw_ok (by omega) (by omega) (by omega) (by omega) (by omega) fun many a3 r3 m0 m5 _ _ _ => ?_
    simp -dsimp
    refine ⟨by omega, ?_⟩
    refine comp_inv (fun it acc ρ => ∃ (W : List Pc) (a' r' : Int), acc = W.map pt ∧ W.length + it.length = many.toNat ∧ WF V.length W ∧ Bd 2 W ∧ (∀ p ∈ W, p.1.1.natAbs < 10 ^ 14 ∧ p.1.2.natAbs < 10 ^ 14) ∧ a3 ≤ a' ∧ a' ≤ a3 + 11 * W.length ∧ 0 ≤ r' ∧
      ρ = [some (.slst (ns.map .int)), some (pen (ns.map .int) a' r'), some (.int j), some (.tup (V.map vt)), some (fieldD V), some (.int (1 + wd)), x6, x7, x8, x9, x10, x11, x12, x13]) ?_ ?_ _ _ _ ⟨[], a3, r3, rfl, by simp, (fun _ h => by cases h), (fun _ h => by cases h), (fun _ h => by cases h), by omega, by simp, by omega, rfl⟩
    · rintro acc ρ ⟨W, a4, r4, rfl, hl, wf, bd, bp, b1, b2, b3, rfl⟩
      simp at hl
      have cc := canon_can wf
      have cl := canon_len wf
      have cb := canon_bp wf (by omega) bp bd
      simp -dsimp
      refine laid_ok wf v1 v4 (by omega) ?_
      simp -dsimp
      refine place_bd (by omega) (by omega) (by omega) (by omega) (by omega) fun spot a5 r5 s1 s2 _ _ _ => ?_
      have ps := pl_vt s1 s2
      simp -dsimp
      refine spoiled_ok (n := V.length) (by omega) (by omega) (by omega) ps cc.wf v1 v4 (by omega) (fun d hd => by
        obtain ⟨p, hp, rfl⟩ := List.mem_map.mp hd
        obtain ⟨c1, c2⟩ := cb p hp
        have := cc.wf p hp
        exact pl_pt (by omega) ⟨c1, fun i hi => by have := c2 i hi; omega⟩) fun thing a6 r6 pT _ _ _ => ?_
      simp -dsimp
      refine lfits_all pT v1 v4 ?_
      by_cases fb : fitB V.length thing = true
      · obtain ⟨pos, L, rfl, c⟩ := fit_ex fb
        have pl2 : Pl (.tup (L.map pt)) := by
          cases pT with
          | tup hd _ => exact hd _ (by simp)
        have pl1 : Pl (vt pos) := by
          cases pT with
          | tup hd _ => exact hd _ (by simp)
        have ll : L.length ≤ 300 := by
          cases pl2 with
          | tup _ hl => simpa using hl
        have lb : ∀ p ∈ L, (p.1.1.natAbs < 10 ^ 14 ∧ p.1.2.natAbs < 10 ^ 14) ∧ ∀ i ∈ p.2, i.natAbs ≤ 800000000000000 := fun p hp => by
          cases pl2 with
          | tup hd _ =>
            obtain ⟨c1, c2⟩ := pt_pl (hd _ (List.mem_map_of_mem hp))
            exact ⟨c1, fun i hi => by have := c2 i hi; omega⟩
        have ro := ro_rows v4 c.wf ll lb (vt_pl pl1).1 (vt_pl pl1).2
        rw [fb]
        simp -dsimp
        refine callI ?_
        refine told_ok v1 v4 c (by omega) ?_
        simp -dsimp [ro]
        refine odd_ok (by omega) (by omega) (by omega) fun od a7 r7 pO nP _ _ _ => ?_
        have pones : Pl (.tup (List.replicate V.length (D.int 1))) := .tup (fun d hd => by rw [(List.mem_replicate.mp hd).2]; exact .int 1 (by decide)) (by simp; omega)
        have pzeros : Pl (ct (zero V.length)) := pl_ct (by rw [zero_len]; omega) (fun i hi => by rw [List.eq_of_mem_replicate hi]; decide)
        simp -dsimp [zeros]
        refine ⟨⟨by omega, by omega⟩, ?_⟩
        refine loop_inv (fun ds ρ => ∃ x10 x12 : Option D, (∀ d ∈ ds, Pl d) ∧ ρ = [some (.slst (ns.map .int)), some (pen (ns.map .int) a7 r7), some (.int j), some (.tup (V.map vt)), some (fieldD V), some (.int (1 + wd)), some (.lst (W.map pt)), some (.lst ((canon V.length W).map pt)), some (vt spot), some (.tup [vt pos, .tup (L.map pt)]), x10, some od, x12, x13]) ?_ ?_ _ _ ⟨_, _, ?_, rfl⟩
        · rintro ρ ⟨x10, x12, _, rfl⟩
          simp -dsimp [zeros]
          refine ⟨⟨by omega, by omega⟩, ?_⟩
          refine callI ?_
          refine put_no v4 pO (pl_two ps pones) (.inl nP) ?_
          simp -dsimp
          exact hN _ ⟨a7, r7, _, _, _, _, _, _, _, _, _, _, _, _, by omega, by omega, by omega, rfl⟩
        · rintro d ds ρ N3 hN3 ⟨x10, x12, hds, rfl⟩
          have pd := hds d List.mem_cons_self
          have pds := fun e he => hds e (List.mem_cons_of_mem _ he)
          simp -dsimp
          refine callI ?_
          refine lis_row_all pd ?_
          by_cases y : isPc V.length d = true
          · obtain ⟨p, rfl, hp⟩ := isPc_ex y
            obtain ⟨q1, q2⟩ := pt_pl pd
            have w2 : WF V.length [p, p] := fun x hx => by
              simp at hx; subst hx; exact hp
            have c2 := canon_can w2
            have l2 := canon_len w2
            have e2 : D.lst [pt p, pt p] = .lst ([p, p].map pt) := rfl
            have b2 := canon_bp w2 (by simp) (fun x hx => by simp at hx; subst hx; exact q1) (m := 100000000000000) (fun x hx i hi => by
              simp at hx; subst hx
              have := q2 i hi
              omega)
            have ro2 := ro_rows v4 c2.wf (by simp at l2; omega) b2 s1 s2
            rw [y]
            simp -dsimp [e2]
            refine callI ?_
            refine laid_ok w2 v1 v4 (by simp) ?_
            simp -dsimp
            refine callI ?_
            refine put_ok v1 v4 hp ?_
            simp -dsimp [ro2]
            exact hN3 _ ⟨_, _, pds, rfl⟩
          · have y : isPc V.length d = false := by simpa using y
            rw [y]
            simp -dsimp
            refine callI ?_
            refine put_no v4 ps pd (.inr y) ?_
            simp -dsimp [r_inv]
            exact hN3 _ ⟨_, _, pds, rfl⟩
        · exact pl_cons (pl_two ps pO) (pl_cons (pl_two pO pones) (pl_cons pO (pl_cons (pl_two ps pzeros) (pl_cons (pl_two ps pones) pl_nil))))
      · have fb : fitB V.length thing = false := by simpa using fb
        rw [fb]
        simp -dsimp
        refine callI ?_
        refine told_no v4 pT fb ?_
        simp -dsimp [r_inv]
        refine odd_ok (by omega) (by omega) (by omega) fun od a7 r7 pO nP _ _ _ => ?_
        have pones : Pl (.tup (List.replicate V.length (D.int 1))) := .tup (fun d hd => by rw [(List.mem_replicate.mp hd).2]; exact .int 1 (by decide)) (by simp; omega)
        have pzeros : Pl (ct (zero V.length)) := pl_ct (by rw [zero_len]; omega) (fun i hi => by rw [List.eq_of_mem_replicate hi]; decide)
        simp -dsimp [zeros]
        refine ⟨⟨by omega, by omega⟩, ?_⟩
        refine loop_inv (fun ds ρ => ∃ x10 x12 : Option D, (∀ d ∈ ds, Pl d) ∧ ρ = [some (.slst (ns.map .int)), some (pen (ns.map .int) a7 r7), some (.int j), some (.tup (V.map vt)), some (fieldD V), some (.int (1 + wd)), some (.lst (W.map pt)), some (.lst ((canon V.length W).map pt)), some (vt spot), some thing, x10, some od, x12, x13]) ?_ ?_ _ _ ⟨_, _, ?_, rfl⟩
        · rintro ρ ⟨x10, x12, _, rfl⟩
          simp -dsimp [zeros]
          refine ⟨⟨by omega, by omega⟩, ?_⟩
          refine callI ?_
          refine put_no v4 pO (pl_two ps pones) (.inl nP) ?_
          simp -dsimp
          exact hN _ ⟨a7, r7, _, _, _, _, _, _, _, _, _, _, _, _, by omega, by omega, by omega, rfl⟩
        · rintro d ds ρ N3 hN3 ⟨x10, x12, hds, rfl⟩
          have pd := hds d List.mem_cons_self
          have pds := fun e he => hds e (List.mem_cons_of_mem _ he)
          simp -dsimp
          refine callI ?_
          refine lis_row_all pd ?_
          by_cases y : isPc V.length d = true
          · obtain ⟨p, rfl, hp⟩ := isPc_ex y
            obtain ⟨q1, q2⟩ := pt_pl pd
            have w2 : WF V.length [p, p] := fun x hx => by
              simp at hx; subst hx; exact hp
            have c2 := canon_can w2
            have l2 := canon_len w2
            have e2 : D.lst [pt p, pt p] = .lst ([p, p].map pt) := rfl
            have b2 := canon_bp w2 (by simp) (fun x hx => by simp at hx; subst hx; exact q1) (m := 100000000000000) (fun x hx i hi => by
              simp at hx; subst hx
              have := q2 i hi
              omega)
            have ro2 := ro_rows v4 c2.wf (by simp at l2; omega) b2 s1 s2
            rw [y]
            simp -dsimp [e2]
            refine callI ?_
            refine laid_ok w2 v1 v4 (by simp) ?_
            simp -dsimp
            refine callI ?_
            refine put_ok v1 v4 hp ?_
            simp -dsimp [ro2]
            exact hN3 _ ⟨_, _, pds, rfl⟩
          · have y : isPc V.length d = false := by simpa using y
            rw [y]
            simp -dsimp
            refine callI ?_
            refine put_no v4 ps pd (.inr y) ?_
            simp -dsimp [r_inv]
            exact hN3 _ ⟨_, _, pds, rfl⟩
        · exact pl_cons (pl_two ps pO) (pl_cons (pl_two pO pones) (pl_cons pO (pl_cons (pl_two ps pzeros) (pl_cons (pl_two ps pones) pl_nil))))
    · rintro d it acc ρ N2 hN2 ⟨W, a4, r4, rfl, hl, wf, bd, bp, b1, b2, b3, rfl⟩
      simp only [List.length_cons] at hl
      simp -dsimp
      refine place_bd (by omega) (by omega) (by omega) (by omega) (by omega) fun q a5 r5 s1 s2 _ _ _ => ?_
      simp -dsimp
      refine counts_ok (by omega) (by omega) (by omega) (by omega) (by omega) v4 fun c a6 r6 hc hb _ _ _ => ?_
      simp -dsimp
      refine ⟨by omega, hN2 _ _ ⟨W ++ [(q, c)], a6, r6, by simp [pt], by simp; omega, fun x hx => ?_, fun x hx => ?_, fun x hx => ?_, by omega, by simp; omega, by omega, rfl⟩⟩
      · rcases List.mem_append.mp hx with hx | hx
        · exact wf x hx
        · rw [List.mem_singleton] at hx; subst hx; exact hc
      · rcases List.mem_append.mp hx with hx | hx
        · exact bd x hx
        · rw [List.mem_singleton] at hx; subst hx; exact fun i hi => by have := hb i hi; omega
      · rcases List.mem_append.mp hx with hx | hx
        · exact bp x hx
        · rw [List.mem_singleton] at hx; subst hx; exact ⟨s1, s2⟩
  · rintro ρ ⟨a, r, x2, x3, x4, x5, x6, x7, x8, x9, x10, x11, x12, x13, h1, h2, h3, rfl⟩
    simp -dsimp
section
variable {P : Program} {w : World} {K : PySem.W.Frag} {mg : Str → Option Value} {base : Heap}
theorem sc_l_pen : FnScope ["_law_script"] ["_law_script"] (defScope s_l_pen) := ⟨rfl, rfl, rfl, by decide +kernel, rfl, by decide +kernel, by decide +kernel⟩
theorem ok_l_pen (T : Tx K mg) : FnG P w K mg base 1 T.a_l_pen (spN K 1 [] G_l_pen) :=
  okNG_of (Fd := F_l_pen) T.F_l_pen T.b_l_pen sc_l_pen rfl rfl (fun cdv A outer s H E hr hgu => by
    have hu1 := hu_of hr
    have hu65 := hu65_of hr
    have hu64 := hu64_of hr
    have hu0 := hu0_of hr
    have hu2 := hu2_of hr
    exact ⟨_, (dn_dict (dps_cons de_str (de_cut (de_var 0) do_none (do_some de_int)) (dps_cons de_str de_int (dps_cons de_str de_int dps_nil))))⟩) fun _ _ _ _ h => h
theorem sc_l_draw : FnScope ["_law_pen_here", "_law_many", "_law_digit", "_law_at", "_law_cell", "_law_great", "_law_mixed"] ["_law_pen_here", "_law_many"] (defScope s_l_draw) := ⟨rfl, rfl, rfl, by decide +kernel, rfl, by decide +kernel, by decide +kernel⟩
theorem ok_l_draw (T : Tx K mg) : FnG P w K mg base 1 T.a_l_draw (spD K 2 [0] G_l_draw) :=
  okG_of (J := []) (Fd := F_l_draw) T.F_l_draw T.b_l_draw sc_l_draw rfl (fun cdv A outer s H E hr hgu => by
    have hu1 := hu_of hr
    have hu65 := hu65_of hr
    have hu64 := hu64_of hr
    have hu0 := hu0_of hr
    have hu2 := hu2_of hr
    have tk := takes_of (X := (cxOf (L2.CX P w) P w K mg base ["_law_pen_here", "_law_many", "_law_digit", "_law_at", "_law_cell", "_law_great", "_law_mixed"] "_law_draw" (defScope s_l_draw) T.a_l_draw cdv A outer s H E)) rfl rfl rfl rfl
    have hp := passes_of (X := (cxOf (L2.CX P w) P w K mg base ["_law_pen_here", "_law_many", "_law_digit", "_law_at", "_law_cell", "_law_great", "_law_mixed"] "_law_draw" (defScope s_l_draw) T.a_l_draw cdv A outer s H E)) rfl
    exact (dss_cons (ds_if (J := []) (dt_cmp (op_gtU hu0) rv_gtU (de_ixL 0 (ix_U hu1) rv_ix (deo de_str)) (deo de_int))
      (dss_cons (ds_set 2 sc_l_draw.nd (de_bin op_modN rv_fmod (de_ixL 0 (ix_U hu1) rv_ix (deo de_str)) (deo (de_var 1))))
      (dss_cons (ds_putO 0 hu1 (de_bin op_fdivG rv_fdiv (de_ixL 0 (ix_U hu1) rv_ix (deo de_str)) (deo (de_var 1))) de_str)
      (dss_one (ds_ret (J1 := []) (de_var 2)))))
      dss_nil)
      (dss_cons (ds_set 3 sc_l_draw.nd (de_ixL 0 (ix_U hu1) rv_ix (deo de_str)))
      (dss_cons (ds_putO 0 hu1 (de_bin op_addU rv_add (de_var 3) (deo de_int)) de_str)
      (dss_cons (ds_set 4 sc_l_draw.nd (de_bin op_addU rv_add (de_bin op_mulU rv_mul de_int (deo (de_var 3))) (deo de_int)))
      (dss_cons (ds_if (J := []) (dt_cmp (op_neU hu64) rv_neU (de_ixL 0 (ix_U hu1) rv_ix (deo de_str)) (deo (de_new (dn_lst da_nil))))
      (dss_one (ds_set 4 sc_l_draw.nd (de_ix (ix_U hu1) rv_ix (de_ixL 0 (ix_U hu1) rv_ix (deo de_str)) (deo (de_bin op_modN rv_fmod (de_var 3) (deo (de_callB call_lenU rv_len T.n_len (by rfl) (dao_one (deo (de_ixL 0 (ix_U hu1) rv_ix (deo de_str)))))))))))
      dss_nil)
      (dss_cons (ds_if (J := []) (dt_w (dw_and (dt_cmp (op_ltU hu0) rv_lt (de_var 3) (deo (de_callB call_lenU rv_len T.n_len (by rfl) (dao_one (deo (de_ixL 0 (ix_U hu1) rv_ix (deo de_str))))))) (dw_and1 (dt_cmp op_ge rv_ge (de_callB call_abs rv_abs T.n_abs (by rfl) (dao_one (deo (de_var 4)))) (deo (de_bin op_pow rv_pow de_int (deo de_int)))))))
      (dss_cons (ds_set 5 sc_l_draw.nd (de_bin op_addU rv_add (de_bin op_mulU rv_mul de_int (deo (de_callB call_abs rv_abs T.n_abs (by rfl) (dao_one (deo (de_var 4)))))) (deo (de_callTy call_int1 rv_int T.n_int (by rfl) (dao_one (deo (de_cmp (op_ltU hu0) rv_lt (de_var 4) (deo de_int))))))))
      (dss_cons (ds_putO 0 hu1 (de_bin op_fdivG rv_fdiv (de_var 5) (deo (de_var 1))) de_str)
      (dss_one (ds_ret (J1 := []) (de_bin op_modN rv_fmod (de_var 5) (deo (de_var 1)))))))
      dss_nil)
      (dss_cons (ds_set 6 sc_l_draw.nd (de_bin op_modN rv_fmod (de_bin op_pow rv_pow (de_bin op_addU rv_add (de_bin op_addU rv_add (de_bin op_modN rv_fmod (de_var 4) (deo de_int)) (deo (de_bin op_mulU rv_mul de_int (deo (de_var 3))))) (deo de_int)) (deo de_int)) (deo de_int)))
      (dss_cons (ds_set 6 sc_l_draw.nd (de_bin op_modN rv_fmod (de_bin op_pow rv_pow (de_bin op_addU rv_add (de_bin op_mulU rv_mul (de_var 6) (deo (de_bin op_addU rv_add (de_var 3) (deo de_int)))) (deo (de_bin op_mulU rv_mul (de_bin op_mulU rv_mul de_int (deo (de_var 3))) (deo (de_var 3))))) (deo de_int)) (deo de_int)))
      (dss_one (ds_ret (J1 := []) (de_bin op_modN rv_fmod (de_bin op_fdivG rv_fdiv (de_var 6) (deo de_int)) (deo (de_var 1)))))))))))))) fun _ _ _ _ h => h
theorem sc_l_pulls : FnScope ["_law_pen_here", "_law_most", "_law_way", "_law_many", "_law_a", "_law_b", "_law_found", "_law_k", "_law_x", "_law_y", "_law_times", "_law_some"] ["_law_pen_here", "_law_most"] (defScope s_l_pulls) := ⟨rfl, rfl, rfl, by decide +kernel, rfl, by decide +kernel, by decide +kernel⟩
theorem ok_l_pulls (T : Tx K mg) : FnG P w K mg base 2 T.a_l_pulls (spD K 2 [0] G_l_pulls) :=
  okG_of (J := [6]) (Fd := F_l_pulls) T.F_l_pulls T.b_l_pulls sc_l_pulls rfl (fun cdv A outer s H E hr hgu => by
    have hu1 := hu_of hr
    have hu65 := hu65_of hr
    have hu64 := hu64_of hr
    have hu0 := hu0_of hr
    have hu2 := hu2_of hr
    have tk := takes_of (X := (cxOf (L2.CX P w) P w K mg base ["_law_pen_here", "_law_most", "_law_way", "_law_many", "_law_a", "_law_b", "_law_found", "_law_k", "_law_x", "_law_y", "_law_times", "_law_some"] "_law_pulls" (defScope s_l_pulls) T.a_l_pulls cdv A outer s H E)) rfl rfl rfl rfl
    have hp := passes_of (X := (cxOf (L2.CX P w) P w K mg base ["_law_pen_here", "_law_most", "_law_way", "_law_many", "_law_a", "_law_b", "_law_found", "_law_k", "_law_x", "_law_y", "_law_times", "_law_some"] "_law_pulls" (defScope s_l_pulls) T.a_l_pulls cdv A outer s H E)) rfl
    exact (dss_cons (ds_set 2 sc_l_pulls.nd (de_callG ((ok_l_draw T).mono (k := 1) (by decide)) hr hgu T.m_l_draw T.k_l_draw tk (do_own 0 (do_val de_int do_nil))))
      (dss_cons (ds_set 3 sc_l_pulls.nd (de_bin op_addU rv_add de_int (deo (de_callG ((ok_l_draw T).mono (k := 1) (by decide)) hr hgu T.m_l_draw T.k_l_draw tk (do_own 0 (do_val de_int do_nil))))))
      (dss_cons (ds_par 4 5 rfl sc_l_pulls.nd (da_cons (de_bin op_sub rv_sub (de_callG ((ok_l_draw T).mono (k := 1) (by decide)) hr hgu T.m_l_draw T.k_l_draw tk (do_own 0 (do_val (de_bin op_addU rv_add (de_bin op_mulU rv_mul de_int (deo (de_var 1))) (deo de_int)) do_nil))) (deo (de_var 1))) (da_cons (de_bin op_sub rv_sub (de_callG ((ok_l_draw T).mono (k := 1) (by decide)) hr hgu T.m_l_draw T.k_l_draw tk (do_own 0 (do_val (de_bin op_addU rv_add (de_bin op_mulU rv_mul de_int (deo (de_var 1))) (deo de_int)) do_nil))) (deo (de_var 1))) da_nil)))
      (dss_cons (ds_setN 6 sc_l_pulls.nd (dn_lst da_nil))
      (dss_cons (ds_for hp rfl (J := [6]) (di_range1 T.n_range (da_cons (de_var 3) da_nil)) (dg_name 7 sc_l_pulls.nd)
      (dss_cons (ds_par 8 9 rfl sc_l_pulls.nd (da_cons (de_bin op_sub rv_sub (de_callG ((ok_l_draw T).mono (k := 1) (by decide)) hr hgu T.m_l_draw T.k_l_draw tk (do_own 0 (do_val (de_bin op_addU rv_add (de_bin op_mulU rv_mul de_int (deo (de_var 1))) (deo de_int)) do_nil))) (deo (de_var 1))) (da_cons (de_bin op_sub rv_sub (de_callG ((ok_l_draw T).mono (k := 1) (by decide)) hr hgu T.m_l_draw T.k_l_draw tk (do_own 0 (do_val (de_bin op_addU rv_add (de_bin op_mulU rv_mul de_int (deo (de_var 1))) (deo de_int)) do_nil))) (deo (de_var 1))) da_nil)))
      (dss_cons (ds_set 10 sc_l_pulls.nd (de_bin op_sub rv_sub (de_bin op_mulU rv_mul (de_callG ((ok_l_draw T).mono (k := 1) (by decide)) hr hgu T.m_l_draw T.k_l_draw tk (do_own 0 (do_val de_int do_nil))) (deo de_int)) (deo de_int)))
      (dss_cons (ds_set 11 sc_l_pulls.nd (de_ix (ix_U hu1) rv_ix (de_new (dn_lst (da_cons (de_tup (da_cons (de_var 8) (da_cons (de_var 9) da_nil))) (da_cons (de_ix (ix_U hu1) rv_ix (de_new (dn_lst (da_cons (de_tup (da_cons de_int (da_cons de_int da_nil))) (da_cons (de_tup (da_cons de_int (da_cons de_int da_nil))) (da_cons (de_tup (da_cons (de_un un_neg rv_neg (deo de_int)) (da_cons de_int da_nil))) (da_cons (de_tup (da_cons de_int (da_cons de_int da_nil))) da_nil)))))) (deo (de_var 7))) (da_cons (de_tup (da_cons (de_bin op_mulU rv_mul (de_var 10) (deo (de_var 4))) (da_cons (de_bin op_mulU rv_mul (de_var 10) (deo (de_var 5))) da_nil))) (da_cons (de_tup (da_cons (de_var 4) (da_cons (de_var 5) da_nil))) da_nil)))))) (deo (de_var 2))))
      (dss_one (ds_append 6 (de_if (dt_cmp (op_neU hu64) rv_neU (de_var 11) (deo (de_tup (da_cons de_int (da_cons de_int da_nil))))) (de_var 11) (de_tup (da_cons de_int (da_cons (de_bin op_sub rv_sub de_int (deo (de_var 1))) da_nil))))))))))
      (dss_one (ds_ret (J1 := [6]) (de_callTy call_tuple_of rv_tuple T.n_tuple (by rfl) (dao_one (deo_var 6))))))))))) fun _ _ _ _ h => h
theorem sc_is_integer : FnScope ["value"] ["value"] (defScope s_is_integer) := ⟨rfl, rfl, rfl, by decide +kernel, rfl, by decide +kernel, by decide +kernel⟩
theorem ok_is_integer (T : Tx K mg) : FnG P w K mg base 1 T.a_is_integer (spD K 1 [] G_is_integer) :=
  okG_of (J := []) (Fd := F_is_integer) T.F_is_integer T.b_is_integer sc_is_integer rfl (fun cdv A outer s H E hr hgu => by
    have hu1 := hu_of hr
    have hu65 := hu65_of hr
    have hu64 := hu64_of hr
    have hu0 := hu0_of hr
    have hu2 := hu2_of hr
    have tk := takes_of (X := (cxOf (L2.CX P w) P w K mg base ["value"] "is_integer" (defScope s_is_integer) T.a_is_integer cdv A outer s H E)) rfl rfl rfl rfl
    have hp := passes_of (X := (cxOf (L2.CX P w) P w K mg base ["value"] "is_integer" (defScope s_is_integer) T.a_is_integer cdv A outer s H E)) rfl
    exact (dss_one (ds_ret (J1 := []) (de_and (de_callB call_isi (rv_isi .int) T.n_isinstance (by rfl) (dao (da_cons (de_var 0) (da_cons (de_bltn T.n_int (by rfl)) da_nil)))) (de_one (de_not (de_callB call_isi (rv_isi .bool) T.n_isinstance (by rfl) (dao (da_cons (de_var 0) (da_cons (de_bltn T.n_bool (by rfl)) da_nil)))))))))) fun _ _ _ _ h => h
theorem sc_is_pair : FnScope ["value"] ["value"] (defScope s_is_pair) := ⟨rfl, rfl, rfl, by decide +kernel, rfl, by decide +kernel, by decide +kernel⟩
theorem ok_is_pair (T : Tx K mg) : FnG P w K mg base 2 T.a_is_pair (spD K 1 [] G_is_pair) :=
  okG_of (J := []) (Fd := F_is_pair) T.F_is_pair T.b_is_pair sc_is_pair rfl (fun cdv A outer s H E hr hgu => by
    have hu1 := hu_of hr
    have hu65 := hu65_of hr
    have hu64 := hu64_of hr
    have hu0 := hu0_of hr
    have hu2 := hu2_of hr
    have tk := takes_of (X := (cxOf (L2.CX P w) P w K mg base ["value"] "is_pair" (defScope s_is_pair) T.a_is_pair cdv A outer s H E)) rfl rfl rfl rfl
    have hp := passes_of (X := (cxOf (L2.CX P w) P w K mg base ["value"] "is_pair" (defScope s_is_pair) T.a_is_pair cdv A outer s H E)) rfl
    exact (dss_one (ds_ret (J1 := []) (de_and (de_callB call_isi (rv_isi .tuple) T.n_isinstance (by rfl) (dao (da_cons (de_var 0) (da_cons (de_bltn T.n_tuple (by rfl)) da_nil)))) (de_and (de_cmp (op_eqU hu64) rv_eqU (de_callB call_lenU rv_len T.n_len (by rfl) (dao_one (deo (de_var 0)))) (deo de_int)) (de_and (de_callG ((ok_is_integer T).mono (k := 1) (by decide)) hr hgu T.m_is_integer T.k_is_integer tk (do_val (de_ix (ix_U hu1) rv_ix (de_var 0) (deo de_int)) do_nil)) (de_one (de_callG ((ok_is_integer T).mono (k := 1) (by decide)) hr hgu T.m_is_integer T.k_is_integer tk (do_val (de_ix (ix_U hu1) rv_ix (de_var 0) (deo de_int)) do_nil))))))))) fun _ _ _ _ h => h
theorem sc_is_pull : FnScope ["value"] ["value"] (defScope s_is_pull) := ⟨rfl, rfl, rfl, by decide +kernel, rfl, by decide +kernel, by decide +kernel⟩
theorem ok_is_pull (T : Tx K mg) : FnG P w K mg base 3 T.a_is_pull (spD K 1 [] G_is_pull) :=
  okG_of (J := []) (Fd := F_is_pull) T.F_is_pull T.b_is_pull sc_is_pull rfl (fun cdv A outer s H E hr hgu => by
    have hu1 := hu_of hr
    have hu65 := hu65_of hr
    have hu64 := hu64_of hr
    have hu0 := hu0_of hr
    have hu2 := hu2_of hr
    have tk := takes_of (X := (cxOf (L2.CX P w) P w K mg base ["value"] "is_pull" (defScope s_is_pull) T.a_is_pull cdv A outer s H E)) rfl rfl rfl rfl
    have hp := passes_of (X := (cxOf (L2.CX P w) P w K mg base ["value"] "is_pull" (defScope s_is_pull) T.a_is_pull cdv A outer s H E)) rfl
    exact (dss_cons (ds_if (J := []) (dt_w (dw_or (dt_not (dt_val (de_callG ((ok_is_pair T).mono (k := 2) (by decide)) hr hgu T.m_is_pair T.k_is_pair tk (do_val (de_var 0) do_nil)))) (dw_or1 (dt_cmp (op_eqU hu64) rv_eqU (de_var 0) (deo (de_tup (da_cons de_int (da_cons de_int da_nil))))))))
      (dss_one (ds_ret (J1 := []) de_bl))
      dss_nil)
      (dss_one (ds_ret (J1 := []) (de_and (de_cmp (op_leU hu0) rv_le (de_callB call_abs rv_abs T.n_abs (by rfl) (dao_one (deo (de_ix (ix_U hu1) rv_ix (de_var 0) (deo de_int))))) (deo (de_ccon T.mc_Field T.cr_Field T.cv_Field_GREATEST))) (de_one (de_cmp (op_leU hu0) rv_le (de_callB call_abs rv_abs T.n_abs (by rfl) (dao_one (deo (de_ix (ix_U hu1) rv_ix (de_var 0) (deo de_int))))) (deo (de_ccon T.mc_Field T.cr_Field T.cv_Field_GREATEST))))))))) fun _ _ _ _ h => h
theorem sc_Field___init__ : FnScope ["self", "pulls", "value"] ["self", "pulls"] (defScope s_Field___init__) := ⟨rfl, rfl, rfl, by decide +kernel, rfl, by decide +kernel, by decide +kernel⟩
theorem ok_Field___init__ (T : Tx K mg) : FnG P w K mg base 4 T.a_Field___init__ (spStar 1 (spD K 2 [0] G_Field___init__)) :=
  okGS_of (ps := ["self"]) (J := []) (Fd := F_Field___init__) T.F_Field___init__ T.b_Field___init__ sc_Field___init__ (fun cdv A outer s H E hr hgu => by
    have hu1 := hu_of hr
    have hu65 := hu65_of hr
    have hu64 := hu64_of hr
    have hu0 := hu0_of hr
    have hu2 := hu2_of hr
    have tk := takes_of (X := (cxOf (L2.CX P w) P w K mg base ["self", "pulls", "value"] "Field.__init__" (defScope s_Field___init__) T.a_Field___init__ cdv A outer s H E)) rfl rfl rfl rfl
    have hp := passes_of (X := (cxOf (L2.CX P w) P w K mg base ["self", "pulls", "value"] "Field.__init__" (defScope s_Field___init__) T.a_Field___init__ cdv A outer s H E)) rfl
    exact (dss_cons (ds_if (J := []) (dt_w (dw_or (dt_not (dt_chain (op_leU hu0) rv_le (op_leU hu0) rv_le de_int (de_callB call_lenU rv_len T.n_len (by rfl) (dao_one (deo (de_var 1)))) (de_ccon T.mc_Field T.cr_Field T.cv_Field_MOST_KINDS))) (dw_or1 (dt_not (dt_val (de_callB (cr_all (by rfl)) rv_all T.n_all (by rfl) (dao_one (deo (de_new (dn_of (dx_lc ["self", "pulls", "value"] (defScope s_Field___init__) [("value", 2)] [2] rfl sc_Field___init__.nd (di_seq (de_var 1)) (by decide +kernel) (fun _ _ _ _ _ => ⟨_, (dg_name 2 sc_Field___init__.nd)⟩) (fun _ _ _ _ _ => ⟨_, dts_nil⟩) (fun _ _ _ _ _ => ⟨_, (de_callG ((ok_is_pull T).mono (k := 3) (by decide)) hr hgu T.m_is_pull T.k_is_pull takes0 (do_val (de_var 2) do_nil))⟩))))))))))))
      (dss_one (ds_raise0 rfl tk T.xn_InvalidPulls))
      dss_nil)
      (dss_one (ds_fld 0 "Field" T.ic_Field T.cl_Field T.na_Field_vectors (de_var 1))))) fun _ _ _ _ h => h
theorem sc_l_field : FnScope ["_law_pulls_here"] ["_law_pulls_here"] (defScope s_l_field) := ⟨rfl, rfl, rfl, by decide +kernel, rfl, by decide +kernel, by decide +kernel⟩
theorem ok_l_field (T : Tx K mg) : FnG P w K mg base 6 T.a_l_field (spD K 1 [] G_l_field) :=
  okG_of (J := []) (Fd := F_l_field) T.F_l_field T.b_l_field sc_l_field rfl (fun cdv A outer s H E hr hgu => by
    have hu1 := hu_of hr
    have hu65 := hu65_of hr
    have hu64 := hu64_of hr
    have hu0 := hu0_of hr
    have hu2 := hu2_of hr
    have tk := takes_of (X := (cxOf (L2.CX P w) P w K mg base ["_law_pulls_here"] "_law_field" (defScope s_l_field) T.a_l_field cdv A outer s H E)) rfl rfl rfl rfl
    have hp := passes_of (X := (cxOf (L2.CX P w) P w K mg base ["_law_pulls_here"] "_law_field" (defScope s_l_field) T.a_l_field cdv A outer s H E)) rfl
    exact (dss_cons (ds_if (J := []) (dt_cmp (op_eqU hu64) rv_eqU (de_callB call_lenU rv_len T.n_len (by rfl) (dao_one (deo (de_var 0)))) (deo de_int))
      (dss_one (ds_ret (J1 := []) (de_new (dn_makeS T.mk_Field T.ic_Field ((ok_Field___init__ T).mono (k := 4) (by decide)) hr hgu T.mc_Field tk (da_cons (de_ix (ix_U hu1) rv_ix (de_var 0) (deo de_int)) da_nil)))))
      dss_nil)
      (dss_cons (ds_if (J := []) (dt_cmp (op_eqU hu64) rv_eqU (de_callB call_lenU rv_len T.n_len (by rfl) (dao_one (deo (de_var 0)))) (deo de_int))
      (dss_one (ds_ret (J1 := []) (de_new (dn_makeS T.mk_Field T.ic_Field ((ok_Field___init__ T).mono (k := 4) (by decide)) hr hgu T.mc_Field tk (da_cons (de_ix (ix_U hu1) rv_ix (de_var 0) (deo de_int)) (da_cons (de_ix (ix_U hu1) rv_ix (de_var 0) (deo de_int)) da_nil))))))
      dss_nil)
      (dss_cons (ds_if (J := []) (dt_cmp (op_eqU hu64) rv_eqU (de_callB call_lenU rv_len T.n_len (by rfl) (dao_one (deo (de_var 0)))) (deo de_int))
      (dss_one (ds_ret (J1 := []) (de_new (dn_makeS T.mk_Field T.ic_Field ((ok_Field___init__ T).mono (k := 4) (by decide)) hr hgu T.mc_Field tk (da_cons (de_ix (ix_U hu1) rv_ix (de_var 0) (deo de_int)) (da_cons (de_ix (ix_U hu1) rv_ix (de_var 0) (deo de_int)) (da_cons (de_ix (ix_U hu1) rv_ix (de_var 0) (deo de_int)) da_nil)))))))
      dss_nil)
      (dss_one (ds_ret (J1 := []) (de_new (dn_makeS T.mk_Field T.ic_Field ((ok_Field___init__ T).mono (k := 4) (by decide)) hr hgu T.mc_Field tk (da_cons (de_ix (ix_U hu1) rv_ix (de_var 0) (deo de_int)) (da_cons (de_ix (ix_U hu1) rv_ix (de_var 0) (deo de_int)) (da_cons (de_ix (ix_U hu1) rv_ix (de_var 0) (deo de_int)) (da_cons (de_ix (ix_U hu1) rv_ix (de_var 0) (deo de_int)) da_nil)))))))))))) fun _ _ _ _ h => h
theorem sc_l_place : FnScope ["_law_pen_here", "_law_wide", "_law_x", "_law_y", "_law_far"] ["_law_pen_here", "_law_wide"] (defScope s_l_place) := ⟨rfl, rfl, rfl, by decide +kernel, rfl, by decide +kernel, by decide +kernel⟩
theorem ok_l_place (T : Tx K mg) : FnG P w K mg base 2 T.a_l_place (spD K 2 [0] G_l_place) :=
  okG_of (J := []) (Fd := F_l_place) T.F_l_place T.b_l_place sc_l_place rfl (fun cdv A outer s H E hr hgu => by
    have hu1 := hu_of hr
    have hu65 := hu65_of hr
    have hu64 := hu64_of hr
    have hu0 := hu0_of hr
    have hu2 := hu2_of hr
    have tk := takes_of (X := (cxOf (L2.CX P w) P w K mg base ["_law_pen_here", "_law_wide", "_law_x", "_law_y", "_law_far"] "_law_place" (defScope s_l_place) T.a_l_place cdv A outer s H E)) rfl rfl rfl rfl
    have hp := passes_of (X := (cxOf (L2.CX P w) P w K mg base ["_law_pen_here", "_law_wide", "_law_x", "_law_y", "_law_far"] "_law_place" (defScope s_l_place) T.a_l_place cdv A outer s H E)) rfl
    exact (dss_cons (ds_par 2 3 rfl sc_l_place.nd (da_cons (de_bin op_sub rv_sub (de_callG ((ok_l_draw T).mono (k := 1) (by decide)) hr hgu T.m_l_draw T.k_l_draw tk (do_own 0 (do_val (de_bin op_addU rv_add (de_bin op_mulU rv_mul de_int (deo (de_var 1))) (deo de_int)) do_nil))) (deo (de_var 1))) (da_cons (de_bin op_sub rv_sub (de_callG ((ok_l_draw T).mono (k := 1) (by decide)) hr hgu T.m_l_draw T.k_l_draw tk (do_own 0 (do_val (de_bin op_addU rv_add (de_bin op_mulU rv_mul de_int (deo (de_var 1))) (deo de_int)) do_nil))) (deo (de_var 1))) da_nil)))
      (dss_cons (ds_set 4 sc_l_place.nd (de_ix (ix_U hu1) rv_ix (de_new (dn_lst (da_cons de_int (da_cons (de_bin op_fdivG rv_fdiv (de_bin op_pow rv_pow de_int (deo de_int)) (deo (de_callB (call_max2 (by rfl)) rv_max2 T.n_max (by rfl) (dao_cons de_int (dao_one (deo (de_var 1))))))) da_nil)))) (deo (de_callTy call_int1 rv_int T.n_int (by rfl) (dao_one (deo (de_cmp (op_eqU hu64) rv_eqU (de_callG ((ok_l_draw T).mono (k := 1) (by decide)) hr hgu T.m_l_draw T.k_l_draw tk (do_own 0 (do_val de_int do_nil))) (deo de_int))))))))
      (dss_one (ds_ret (J1 := []) (de_tup (da_cons (de_bin op_mulU rv_mul (de_var 2) (deo (de_var 4))) (da_cons (de_bin op_mulU rv_mul (de_var 3) (deo (de_var 4))) da_nil)))))))) fun _ _ _ _ h => h
theorem sc_l_counts : FnScope ["_law_pen_here", "_law_many", "_law_most", "_law_found", "_law_k", "_law_some"] ["_law_pen_here", "_law_many", "_law_most"] (defScope s_l_counts) := ⟨rfl, rfl, rfl, by decide +kernel, rfl, by decide +kernel, by decide +kernel⟩
theorem ok_l_counts (T : Tx K mg) : FnG P w K mg base 2 T.a_l_counts (spD K 3 [0] G_l_counts) :=
  okG_of (J := [3]) (Fd := F_l_counts) T.F_l_counts T.b_l_counts sc_l_counts rfl (fun cdv A outer s H E hr hgu => by
    have hu1 := hu_of hr
    have hu65 := hu65_of hr
    have hu64 := hu64_of hr
    have hu0 := hu0_of hr
    have hu2 := hu2_of hr
    have tk := takes_of (X := (cxOf (L2.CX P w) P w K mg base ["_law_pen_here", "_law_many", "_law_most", "_law_found", "_law_k", "_law_some"] "_law_counts" (defScope s_l_counts) T.a_l_counts cdv A outer s H E)) rfl rfl rfl rfl
    have hp := passes_of (X := (cxOf (L2.CX P w) P w K mg base ["_law_pen_here", "_law_many", "_law_most", "_law_found", "_law_k", "_law_some"] "_law_counts" (defScope s_l_counts) T.a_l_counts cdv A outer s H E)) rfl
    exact (dss_cons (ds_setN 3 sc_l_counts.nd (dn_lst da_nil))
      (dss_cons (ds_for hp rfl (J := [3]) (di_range1 T.n_range (da_cons (de_var 1) da_nil)) (dg_name 4 sc_l_counts.nd)
      (dss_cons (ds_set 5 sc_l_counts.nd (de_new (dn_lst (da_cons de_int (da_cons (de_bin op_sub rv_sub (de_callG ((ok_l_draw T).mono (k := 1) (by decide)) hr hgu T.m_l_draw T.k_l_draw tk (do_own 0 (do_val (de_bin op_addU rv_add (de_bin op_mulU rv_mul de_int (deo (de_var 2))) (deo de_int)) do_nil))) (deo (de_var 2))) da_nil)))))
      (dss_one (ds_append 3 (de_ix (ix_U hu1) rv_ix (de_var 5) (deo (de_callG ((ok_l_draw T).mono (k := 1) (by decide)) hr hgu T.m_l_draw T.k_l_draw tk (do_own 0 (do_val de_int do_nil)))))))))
      (dss_one (ds_ret (J1 := [3]) (de_callTy call_tuple_of rv_tuple T.n_tuple (by rfl) (dao_one (deo_var 3)))))))) fun _ _ _ _ h => h
theorem sc_l_laid : FnScope ["_law_pieces", "_law_found", "_law_place_here", "_law_counts_here", "_law_old", "_law_k"] ["_law_pieces"] (defScope s_l_laid) := ⟨rfl, rfl, rfl, by decide +kernel, rfl, by decide +kernel, by decide +kernel⟩
theorem ok_l_laid (T : Tx K mg) : FnG P w K mg base 1 T.a_l_laid (spD K 1 [] G_l_laid) :=
  okG_of (J := [1]) (Fd := F_l_laid) T.F_l_laid T.b_l_laid sc_l_laid rfl (fun cdv A outer s H E hr hgu => by
    have hu1 := hu_of hr
    have hu65 := hu65_of hr
    have hu64 := hu64_of hr
    have hu0 := hu0_of hr
    have hu2 := hu2_of hr
    have tk := takes_of (X := (cxOf (L2.CX P w) P w K mg base ["_law_pieces", "_law_found", "_law_place_here", "_law_counts_here", "_law_old", "_law_k"] "_law_laid" (defScope s_l_laid) T.a_l_laid cdv A outer s H E)) rfl rfl rfl rfl
    have hp := passes_of (X := (cxOf (L2.CX P w) P w K mg base ["_law_pieces", "_law_found", "_law_place_here", "_law_counts_here", "_law_old", "_law_k"] "_law_laid" (defScope s_l_laid) T.a_l_laid cdv A outer s H E)) rfl
    exact (dss_cons (ds_setN 1 sc_l_laid.nd dn_dict0T)
      (dss_cons (ds_for hp rfl (J := [1]) (di_seq (de_var 0)) (dg_tup rfl (dgs_cons (dg_name 2 sc_l_laid.nd) (dgs_cons (dg_name 3 sc_l_laid.nd) dgs_nil)) (fun ds ρ k h => ((gl_cons gs_nm (gl_cons gs_nm gl_nil)) ds ρ k h).1))
      (dss_cons (ds_set 4 sc_l_laid.nd (de_getO hu1 1 (hk := (de_var 2)) (hz := (de_bin op_mulU rv_mul (de_tup (da_cons de_int da_nil)) (deo (de_callB call_lenU rv_len T.n_len (by rfl) (dao_one (deo (de_var 3)))))))))
      (dss_one (ds_putO 1 hu1 (de_callTy call_tuple_of rv_tuple T.n_tuple (by rfl) (dao_one (deo (de_new (dn_of (dx_lc ["_law_pieces", "_law_found", "_law_place_here", "_law_counts_here", "_law_old", "_law_k"] (defScope s_l_laid) [("_law_k", 5)] [5] rfl sc_l_laid.nd (di_range1 T.n_range (da_cons (de_callB call_lenU rv_len T.n_len (by rfl) (dao_one (deo (de_var 3)))) da_nil)) (by decide +kernel) (fun _ _ _ _ _ => ⟨_, (dg_name 5 sc_l_laid.nd)⟩) (fun _ _ _ _ _ => ⟨_, dts_nil⟩) (fun _ _ _ _ _ => ⟨_, (de_bin op_addU rv_add (de_ix (ix_U hu1) rv_ix (de_var 4) (deo (de_var 5))) (deo (de_ix (ix_U hu1) rv_ix (de_var 3) (deo (de_var 5)))))⟩))))))) (de_var 2)))))
      (dss_one (ds_ret (J1 := [1]) (de_callTy call_tuple_of rv_tuple T.n_tuple (by rfl) (dao_one (deo (de_callB (cr_sortIL hu2) rv_sortI T.n_sorted (by rfl) (dao_one (deo (de_new (dn_of (dx_lc ["_law_pieces", "_law_found", "_law_place_here", "_law_counts_here", "_law_old", "_law_k"] (defScope s_l_laid) [("_law_place_here", 2)] [2] rfl sc_l_laid.nd (di_keys (de_rel (J := []) 1)) (by decide +kernel) (fun _ _ _ _ _ => ⟨_, (dg_name 2 sc_l_laid.nd)⟩) (fun _ _ _ _ _ => ⟨_, (dts_one (dt_cmp (op_neU hu64) rv_neU (de_ix (ix_U hu1) rv_ix (de_var 1) (deo (de_var 2))) (deo (de_bin op_mulU rv_mul (de_tup (da_cons de_int da_nil)) (deo (de_callB call_lenU rv_len T.n_len (by rfl) (dao_one (deo (de_ix (ix_U hu1) rv_ix (de_var 1) (deo (de_var 2)))))))))))⟩) (fun _ _ _ _ _ => ⟨_, (de_tup (da_cons (de_var 2) (da_cons (de_ix (ix_U hu1) rv_ix (de_var 1) (deo (de_var 2))) da_nil)))⟩))))))))))))))) fun _ _ _ _ h => h
theorem sc_l_odd : FnScope ["_law_pen_here"] ["_law_pen_here"] (defScope s_l_odd) := ⟨rfl, rfl, rfl, by decide +kernel, rfl, by decide +kernel, by decide +kernel⟩
theorem ok_l_odd (T : Tx K mg) : FnG P w K mg base 2 T.a_l_odd (spD K 1 [0] G_l_odd) :=
  okG_of (J := []) (Fd := F_l_odd) T.F_l_odd T.b_l_odd sc_l_odd rfl (fun cdv A outer s H E hr hgu => by
    have hu1 := hu_of hr
    have hu65 := hu65_of hr
    have hu64 := hu64_of hr
    have hu0 := hu0_of hr
    have hu2 := hu2_of hr
    have tk := takes_of (X := (cxOf (L2.CX P w) P w K mg base ["_law_pen_here"] "_law_odd" (defScope s_l_odd) T.a_l_odd cdv A outer s H E)) rfl rfl rfl rfl
    have hp := passes_of (X := (cxOf (L2.CX P w) P w K mg base ["_law_pen_here"] "_law_odd" (defScope s_l_odd) T.a_l_odd cdv A outer s H E)) rfl
    exact (dss_one (ds_ret (J1 := []) (de_ix (ix_U hu1) rv_ix (de_new (dn_lst (da_cons de_non (da_cons de_bl (da_cons de_str (da_cons (de_tup (da_cons de_int da_nil)) (da_cons (de_tup (da_cons de_int (da_cons de_int (da_cons de_int da_nil)))) (da_cons (de_new (dn_lst (da_cons de_int (da_cons de_int da_nil)))) (da_cons (de_tup (da_cons de_int (da_cons de_bl da_nil))) (da_cons (de_tup (da_cons de_str (da_cons de_int da_nil))) (da_cons (de_new dn_dict0) (da_cons (de_tup da_nil) (da_cons (de_tup (da_cons (de_tup (da_cons de_int (da_cons de_int da_nil))) (da_cons de_int da_nil))) da_nil))))))))))))) (deo (de_callG ((ok_l_draw T).mono (k := 1) (by decide)) hr hgu T.m_l_draw T.k_l_draw tk (do_own 0 (do_val de_int do_nil)))))))) fun _ _ _ _ h => h
theorem sc_l_spoiled : FnScope ["_law_pen_here", "_law_spot", "_law_rows", "_law_way", "_law_at", "_law_odd_here", "_law_near", "_law_place_here", "_law_counts_here", "_law_far", "_law_row"] ["_law_pen_here", "_law_spot", "_law_rows"] (defScope s_l_spoiled) := ⟨rfl, rfl, rfl, by decide +kernel, rfl, by decide +kernel, by decide +kernel⟩
theorem ok_l_spoiled (T : Tx K mg) : FnG P w K mg base 3 T.a_l_spoiled (spD K 3 [0] G_l_spoiled) :=
  okG_of (J := []) (Fd := F_l_spoiled) T.F_l_spoiled T.b_l_spoiled sc_l_spoiled rfl (fun cdv A outer s H E hr hgu => by
    have hu1 := hu_of hr
    have hu65 := hu65_of hr
    have hu64 := hu64_of hr
    have hu0 := hu0_of hr
    have hu2 := hu2_of hr
    have tk := takes_of (X := (cxOf (L2.CX P w) P w K mg base ["_law_pen_here", "_law_spot", "_law_rows", "_law_way", "_law_at", "_law_odd_here", "_law_near", "_law_place_here", "_law_counts_here", "_law_far", "_law_row"] "_law_spoiled" (defScope s_l_spoiled) T.a_l_spoiled cdv A outer s H E)) rfl rfl rfl rfl
    have hp := passes_of (X := (cxOf (L2.CX P w) P w K mg base ["_law_pen_here", "_law_spot", "_law_rows", "_law_way", "_law_at", "_law_odd_here", "_law_near", "_law_place_here", "_law_counts_here", "_law_far", "_law_row"] "_law_spoiled" (defScope s_l_spoiled) T.a_l_spoiled cdv A outer s H E)) rfl
    exact (dss_cons (ds_par3 3 4 5 rfl sc_l_spoiled.nd (da_cons (de_callG ((ok_l_draw T).mono (k := 2) (by decide)) hr hgu T.m_l_draw T.k_l_draw tk (do_own 0 (do_val de_int do_nil))) (da_cons (de_callG ((ok_l_draw T).mono (k := 2) (by decide)) hr hgu T.m_l_draw T.k_l_draw tk (do_own 0 (do_val de_int do_nil))) (da_cons (de_callG ((ok_l_odd T).mono (k := 2) (by decide)) hr hgu T.m_l_odd T.k_l_odd tk (do_own 0 do_nil)) da_nil))))
      (dss_cons (ds_par3 6 7 8 rfl sc_l_spoiled.nd (da_cons (de_cut (de_var 2) do_none (do_some (de_var 4))) (da_cons (de_tup (da_cons de_int (da_cons de_int da_nil))) (da_cons (de_tup (da_cons de_int da_nil)) da_nil))))
      (dss_cons (ds_if (J := []) (dt_cmp (op_neU hu64) rv_neU (de_cut (de_var 2) (do_some (de_var 4)) do_none) (deo (de_new (dn_lst da_nil))))
      (dss_one (ds_asg (de_ix (ix_U hu1) rv_ix (de_var 2) (deo (de_var 4))) (dg_tup rfl (dgs_cons (dg_name 7 sc_l_spoiled.nd) (dgs_cons (dg_name 8 sc_l_spoiled.nd) dgs_nil)) (fun ds ρ k h => ((gl_cons gs_nm (gl_cons gs_nm gl_nil)) ds ρ k h).1))))
      dss_nil)
      (dss_cons (ds_set 9 sc_l_spoiled.nd (de_cut (de_var 2) (do_some (de_bin op_addU rv_add (de_var 4) (deo de_int))) do_none))
      (dss_cons (ds_set 10 sc_l_spoiled.nd (de_new (dn_lst (da_cons (de_tup (da_cons (de_var 5) (da_cons (de_var 8) da_nil))) (da_cons (de_tup (da_cons (de_var 7) (da_cons (de_var 5) da_nil))) (da_cons (de_tup (da_cons (de_var 7) (da_cons (de_bin op_addU rv_add (de_var 8) (deo (de_tup (da_cons de_int da_nil)))) da_nil))) (da_cons (de_tup (da_cons (de_var 7) (da_cons (de_bin op_addU rv_add (de_cut (de_var 8) do_none (do_some (de_un un_neg rv_neg (deo de_int)))) (deo (de_tup (da_cons (de_var 5) da_nil)))) da_nil))) (da_cons (de_tup (da_cons (de_var 7) (da_cons (de_var 8) (da_cons de_int da_nil)))) (da_cons (de_tup (da_cons (de_var 7) da_nil)) (da_cons (de_new (dn_lst (da_cons (de_var 7) (da_cons (de_var 8) da_nil)))) (da_cons (de_tup (da_cons (de_var 7) (da_cons (de_callTy call_list_of rv_list T.n_list (by rfl) (dao_one (deo (de_var 8)))) da_nil))) (da_cons (de_tup (da_cons (de_var 7) (da_cons (de_bin op_mulU rv_mul (de_tup (da_cons de_int da_nil)) (deo (de_callB call_lenU rv_len T.n_len (by rfl) (dao_one (deo (de_var 8)))))) da_nil))) da_nil))))))))))))
      (dss_cons (ds_if (J := []) (dt_cmp (op_ltU hu0) rv_lt (de_var 3) (deo de_int))
      (dss_one (ds_ret (J1 := []) (de_tup (da_cons (de_var 1) (da_cons (de_callTy call_tuple_of rv_tuple T.n_tuple (by rfl) (dao_one (deo (de_bin op_addU rv_add (de_bin op_addU rv_add (de_var 6) (deo (de_new (dn_lst (da_cons (de_ix (ix_U hu1) rv_ix (de_var 10) (deo (de_var 3))) da_nil))))) (deo (de_var 9)))))) da_nil)))))
      dss_nil)
      (dss_cons (ds_if (J := []) (dt_cmp (op_eqU hu64) rv_eqU (de_var 3) (deo de_int))
      (dss_one (ds_ret (J1 := []) (de_tup (da_cons (de_var 1) (da_cons (de_callTy call_tuple_of rv_tuple T.n_tuple (by rfl) (dao_one (deo (de_bin op_addU rv_add (de_bin op_addU rv_add (de_var 6) (deo (de_new (dn_lst (da_cons (de_tup (da_cons (de_var 7) (da_cons (de_var 8) da_nil))) (da_cons (de_tup (da_cons (de_var 7) (da_cons (de_var 8) da_nil))) da_nil)))))) (deo (de_var 9)))))) da_nil)))))
      dss_nil)
      (dss_cons (ds_if (J := []) (dt_cmp (op_eqU hu64) rv_eqU (de_var 3) (deo de_int))
      (dss_one (ds_ret (J1 := []) (de_tup (da_cons (de_var 5) (da_cons (de_callTy call_tuple_of rv_tuple T.n_tuple (by rfl) (dao_one (deo (de_var 2)))) da_nil)))))
      dss_nil)
      (dss_cons (ds_if (J := []) (dt_cmp (op_eqU hu64) rv_eqU (de_var 3) (deo de_int))
      (dss_one (ds_ret (J1 := []) (de_ix (ix_U hu1) rv_ix (de_new (dn_lst (da_cons (de_tup (da_cons (de_var 1) (da_cons (de_callTy call_tuple_of rv_tuple T.n_tuple (by rfl) (dao_one (deo (de_var 2)))) (da_cons (de_tup da_nil) da_nil)))) (da_cons (de_tup (da_cons (de_var 1) (da_cons (de_callTy call_list_of rv_list T.n_list (by rfl) (dao_one (deo (de_var 2)))) da_nil))) (da_cons (de_new (dn_lst (da_cons (de_var 1) (da_cons (de_callTy call_tuple_of rv_tuple T.n_tuple (by rfl) (dao_one (deo (de_var 2)))) da_nil)))) (da_cons (de_var 5) da_nil)))))) (deo (de_var 4)))))
      dss_nil)
      (dss_cons (ds_if (J := []) (dt_cmp (op_eqU hu64) rv_eqU (de_var 3) (deo de_int))
      (dss_one (ds_ret (J1 := []) (de_tup (da_cons (de_var 1) (da_cons (de_callTy call_tuple_of rv_tuple T.n_tuple (by rfl) (dao_one (deo (de_back (de_var 2) (do_some (de_un un_neg rv_neg (deo de_int))))))) da_nil)))))
      dss_nil)
      (dss_one (ds_ret (J1 := []) (de_tup (da_cons (de_var 1) (da_cons (de_callTy call_tuple_of rv_tuple T.n_tuple (by rfl) (dao_one (deo (de_var 2)))) da_nil)))))))))))))))) fun _ _ _ _ h => h
theorem sc_l_is_pair : FnScope ["_law_thing", "_law_n"] ["_law_thing"] (defScope s_l_is_pair) := ⟨rfl, rfl, rfl, by decide +kernel, rfl, by decide +kernel, by decide +kernel⟩
theorem ok_l_is_pair (T : Tx K mg) : FnG P w K mg base 1 T.a_l_is_pair (spD K 1 [] G_l_is_pair) :=
  okG_of (J := []) (Fd := F_l_is_pair) T.F_l_is_pair T.b_l_is_pair sc_l_is_pair rfl (fun cdv A outer s H E hr hgu => by
    have hu1 := hu_of hr
    have hu65 := hu65_of hr
    have hu64 := hu64_of hr
    have hu0 := hu0_of hr
    have hu2 := hu2_of hr
    have tk := takes_of (X := (cxOf (L2.CX P w) P w K mg base ["_law_thing", "_law_n"] "_law_is_pair" (defScope s_l_is_pair) T.a_l_is_pair cdv A outer s H E)) rfl rfl rfl rfl
    have hp := passes_of (X := (cxOf (L2.CX P w) P w K mg base ["_law_thing", "_law_n"] "_law_is_pair" (defScope s_l_is_pair) T.a_l_is_pair cdv A outer s H E)) rfl
    exact (dss_cons (ds_if (J := []) (dt_w (dw_or (dt_not (dt_val (de_callB call_isi (rv_isi .tuple) T.n_isinstance (by rfl) (dao (da_cons (de_var 0) (da_cons (de_bltn T.n_tuple (by rfl)) da_nil)))))) (dw_or1 (dt_cmp (op_neU hu64) rv_neU (de_callB call_lenU rv_len T.n_len (by rfl) (dao_one (deo (de_var 0)))) (deo de_int)))))
      (dss_one (ds_ret (J1 := []) de_bl))
      dss_nil)
      (dss_one (ds_ret (J1 := []) (de_cmp (op_eqU hu64) rv_eqU (de_new (dn_of (dx_lc ["_law_thing", "_law_n"] (defScope s_l_is_pair) [("_law_n", 1)] [1] rfl sc_l_is_pair.nd (di_seq (de_var 0)) (by decide +kernel) (fun _ _ _ _ _ => ⟨_, (dg_name 1 sc_l_is_pair.nd)⟩) (fun _ _ _ _ _ => ⟨_, (dts_one (dt_w (dw_or (dt_not (dt_val (de_callB call_isi (rv_isi .int) T.n_isinstance (by rfl) (dao (da_cons (de_var 1) (da_cons (de_bltn T.n_int (by rfl)) da_nil)))))) (dw_or1 (dt_val (de_callB call_isi (rv_isi .bool) T.n_isinstance (by rfl) (dao (da_cons (de_var 1) (da_cons (de_bltn T.n_bool (by rfl)) da_nil)))))))))⟩) (fun _ _ _ _ _ => ⟨_, (de_var 1)⟩)))) (deo (de_new (dn_lst da_nil)))))))) fun _ _ _ _ h => h
theorem sc_l_is_row : FnScope ["_law_row", "_law_kinds", "_law_good", "_law_count"] ["_law_row", "_law_kinds"] (defScope s_l_is_row) := ⟨rfl, rfl, rfl, by decide +kernel, rfl, by decide +kernel, by decide +kernel⟩
theorem ok_l_is_row (T : Tx K mg) : FnG P w K mg base 2 T.a_l_is_row (spD K 2 [] G_l_is_row) :=
  okG_of (J := []) (Fd := F_l_is_row) T.F_l_is_row T.b_l_is_row sc_l_is_row rfl (fun cdv A outer s H E hr hgu => by
    have hu1 := hu_of hr
    have hu65 := hu65_of hr
    have hu64 := hu64_of hr
    have hu0 := hu0_of hr
    have hu2 := hu2_of hr
    have tk := takes_of (X := (cxOf (L2.CX P w) P w K mg base ["_law_row", "_law_kinds", "_law_good", "_law_count"] "_law_is_row" (defScope s_l_is_row) T.a_l_is_row cdv A outer s H E)) rfl rfl rfl rfl
    have hp := passes_of (X := (cxOf (L2.CX P w) P w K mg base ["_law_row", "_law_kinds", "_law_good", "_law_count"] "_law_is_row" (defScope s_l_is_row) T.a_l_is_row cdv A outer s H E)) rfl
    exact (dss_cons (ds_if (J := []) (dt_w (dw_or (dt_not (dt_val (de_callB call_isi (rv_isi .tuple) T.n_isinstance (by rfl) (dao (da_cons (de_var 0) (da_cons (de_bltn T.n_tuple (by rfl)) da_nil)))))) (dw_or (dt_cmp (op_neU hu64) rv_neU (de_callB call_lenU rv_len T.n_len (by rfl) (dao_one (deo (de_var 0)))) (deo de_int)) (dw_or (dt_not (dt_val (de_callG ((ok_l_is_pair T).mono (k := 1) (by decide)) hr hgu T.m_l_is_pair T.k_l_is_pair tk (do_val (de_ix (ix_U hu1) rv_ix (de_var 0) (deo de_int)) do_nil)))) (dw_or1 (dt_not (dt_val (de_callB call_isi (rv_isi .tuple) T.n_isinstance (by rfl) (dao (da_cons (de_ix (ix_U hu1) rv_ix (de_var 0) (deo de_int)) (da_cons (de_bltn T.n_tuple (by rfl)) da_nil)))))))))))
      (dss_one (ds_ret (J1 := []) de_bl))
      dss_nil)
      (dss_cons (dx_setLc 2 ["_law_row", "_law_kinds", "_law_good", "_law_count"] (defScope s_l_is_row) [("_law_count", 3)] [3] rfl sc_l_is_row.nd (sw_true rfl rfl rfl (by decide +kernel)) (di_seq (de_ix (ix_U hu1) rv_ix (de_var 0) (deo de_int))) (by decide +kernel) (fun _ _ _ _ _ => ⟨_, (dg_name 3 sc_l_is_row.nd)⟩) (fun _ _ _ _ _ => ⟨_, (dts_one (dt_w (dw_and (dt_val (de_callB call_isi (rv_isi .int) T.n_isinstance (by rfl) (dao (da_cons (de_var 3) (da_cons (de_bltn T.n_int (by rfl)) da_nil))))) (dw_and1 (dt_not (dt_val (de_callB call_isi (rv_isi .bool) T.n_isinstance (by rfl) (dao (da_cons (de_var 3) (da_cons (de_bltn T.n_bool (by rfl)) da_nil))))))))))⟩) (fun _ _ _ _ _ => ⟨_, (de_var 3)⟩))
      (dss_one (ds_ret (J1 := []) (de_and (de_cmp (op_eqU hu64) rv_eqU (de_callB call_lenU rv_len T.n_len (by rfl) (dao_one (deo (de_var 2)))) (deo (de_var 1))) (de_one (de_cmp (op_eqU hu64) rv_eqU (de_callB call_lenU rv_len T.n_len (by rfl) (dao_one (deo (de_ix (ix_U hu1) rv_ix (de_var 0) (deo de_int))))) (deo (de_var 1)))))))))) fun _ _ _ _ h => h
theorem sc_l_fits : FnScope ["_law_thing", "_law_kinds", "_law_last", "_law_row"] ["_law_thing", "_law_kinds"] (defScope s_l_fits) := ⟨rfl, rfl, rfl, by decide +kernel, rfl, by decide +kernel, by decide +kernel⟩
theorem ok_l_fits (T : Tx K mg) : FnG P w K mg base 3 T.a_l_fits (spD K 2 [] G_l_fits) :=
  okG_of (J := []) (Fd := F_l_fits) T.F_l_fits T.b_l_fits sc_l_fits rfl (fun cdv A outer s H E hr hgu => by
    have hu1 := hu_of hr
    have hu65 := hu65_of hr
    have hu64 := hu64_of hr
    have hu0 := hu0_of hr
    have hu2 := hu2_of hr
    have tk := takes_of (X := (cxOf (L2.CX P w) P w K mg base ["_law_thing", "_law_kinds", "_law_last", "_law_row"] "_law_fits" (defScope s_l_fits) T.a_l_fits cdv A outer s H E)) rfl rfl rfl rfl
    have hp := passes_of (X := (cxOf (L2.CX P w) P w K mg base ["_law_thing", "_law_kinds", "_law_last", "_law_row"] "_law_fits" (defScope s_l_fits) T.a_l_fits cdv A outer s H E)) rfl
    exact (dss_cons (ds_if (J := []) (dt_w (dw_or (dt_not (dt_val (de_callB call_isi (rv_isi .tuple) T.n_isinstance (by rfl) (dao (da_cons (de_var 0) (da_cons (de_bltn T.n_tuple (by rfl)) da_nil)))))) (dw_or (dt_cmp (op_neU hu64) rv_neU (de_callB call_lenU rv_len T.n_len (by rfl) (dao_one (deo (de_var 0)))) (deo de_int)) (dw_or (dt_not (dt_val (de_callG ((ok_l_is_pair T).mono (k := 2) (by decide)) hr hgu T.m_l_is_pair T.k_l_is_pair tk (do_val (de_ix (ix_U hu1) rv_ix (de_var 0) (deo de_int)) do_nil)))) (dw_or1 (dt_not (dt_val (de_callB call_isi (rv_isi .tuple) T.n_isinstance (by rfl) (dao (da_cons (de_ix (ix_U hu1) rv_ix (de_var 0) (deo de_int)) (da_cons (de_bltn T.n_tuple (by rfl)) da_nil)))))))))))
      (dss_one (ds_ret (J1 := []) de_bl))
      dss_nil)
      (dss_cons (ds_set 2 sc_l_fits.nd de_non)
      (dss_cons (ds_for hp rfl (J := []) (di_seq (de_ix (ix_U hu1) rv_ix (de_var 0) (deo de_int))) (dg_name 3 sc_l_fits.nd)
      (dss_cons (ds_if (J := []) (dt_w (dw_or (dt_not (dt_val (de_callG ((ok_l_is_row T).mono (k := 2) (by decide)) hr hgu T.m_l_is_row T.k_l_is_row tk (do_val (de_var 3) (do_val (de_var 1) do_nil))))) (dw_or (dt_cmp (op_eqU hu64) rv_eqU (de_ix (ix_U hu1) rv_ix (de_var 3) (deo de_int)) (deo (de_bin op_mulU rv_mul (de_tup (da_cons de_int da_nil)) (deo (de_var 1))))) (dw_or1 (dt_w (dw_and (dt_cmp op_isNotU rv_isNot (de_var 2) (deo de_non)) (dw_and1 (dt_cmp (op_leU hu0) rv_le (de_ix (ix_U hu1) rv_ix (de_var 3) (deo de_int)) (deo (de_var 2))))))))))
      (dss_one (ds_ret (J1 := []) de_bl))
      dss_nil)
      (dss_one (ds_set 2 sc_l_fits.nd (de_ix (ix_U hu1) rv_ix (de_var 3) (deo de_int))))))
      (dss_one (ds_ret (J1 := []) de_bl)))))) fun _ _ _ _ h => h
theorem sc_Field_kinds : FnScope ["self"] ["self"] (defScope s_Field_kinds) := ⟨rfl, rfl, rfl, by decide +kernel, rfl, by decide +kernel, by decide +kernel⟩
theorem ok_Field_kinds (T : Tx K mg) : FnG P w K mg base 1 T.a_Field_kinds (spD K 1 [] G_Field_kinds) :=
  okG_of (J := []) (Fd := F_Field_kinds) T.F_Field_kinds T.b_Field_kinds sc_Field_kinds rfl (fun cdv A outer s H E hr hgu => by
    have hu1 := hu_of hr
    have hu65 := hu65_of hr
    have hu64 := hu64_of hr
    have hu0 := hu0_of hr
    have hu2 := hu2_of hr
    have tk := takes_of (X := (cxOf (L2.CX P w) P w K mg base ["self"] "Field.kinds" (defScope s_Field_kinds) T.a_Field_kinds cdv A outer s H E)) rfl rfl rfl rfl
    have hp := passes_of (X := (cxOf (L2.CX P w) P w K mg base ["self"] "Field.kinds" (defScope s_Field_kinds) T.a_Field_kinds cdv A outer s H E)) rfl
    exact (dss_one (ds_ret (J1 := []) (de_callB call_lenU rv_len T.n_len (by rfl) (dao_one (deo (de_fld "Field" T.ic_Field T.cl_Field T.na_Field_vectors (deo (de_var 0))))))))) fun _ _ _ _ h => h
theorem sc_are_counts : FnScope ["field", "value", "count"] ["field", "value"] (defScope s_are_counts) := ⟨rfl, rfl, rfl, by decide +kernel, rfl, by decide +kernel, by decide +kernel⟩
theorem ok_are_counts (T : Tx K mg) : FnG P w K mg base 3 T.a_are_counts (spD K 2 [] G_are_counts) :=
  okG_of (J := []) (Fd := F_are_counts) T.F_are_counts T.b_are_counts sc_are_counts rfl (fun cdv A outer s H E hr hgu => by
    have hu1 := hu_of hr
    have hu65 := hu65_of hr
    have hu64 := hu64_of hr
    have hu0 := hu0_of hr
    have hu2 := hu2_of hr
    have tk := takes_of (X := (cxOf (L2.CX P w) P w K mg base ["field", "value", "count"] "are_counts" (defScope s_are_counts) T.a_are_counts cdv A outer s H E)) rfl rfl rfl rfl
    have hp := passes_of (X := (cxOf (L2.CX P w) P w K mg base ["field", "value", "count"] "are_counts" (defScope s_are_counts) T.a_are_counts cdv A outer s H E)) rfl
    exact (dss_one (ds_ret (J1 := []) (de_and (de_callB call_isi (rv_isi .tuple) T.n_isinstance (by rfl) (dao (da_cons (de_var 1) (da_cons (de_bltn T.n_tuple (by rfl)) da_nil)))) (de_and (de_cmp (op_eqU hu64) rv_eqU (de_callB call_lenU rv_len T.n_len (by rfl) (dao_one (deo (de_var 1)))) (deo (de_propG T.ic_Field T.cl_Field T.pr_Field_kinds ((ok_Field_kinds T).mono (k := 1) (by decide)) hr hgu (de_var 0)))) (de_one (de_callB (cr_all (by rfl)) rv_all T.n_all (by rfl) (dao_one (deo (de_new (dn_of (dx_lc ["field", "value", "count"] (defScope s_are_counts) [("count", 2)] [2] rfl sc_are_counts.nd (di_seq (de_var 1)) (by decide +kernel) (fun _ _ _ _ _ => ⟨_, (dg_name 2 sc_are_counts.nd)⟩) (fun _ _ _ _ _ => ⟨_, dts_nil⟩) (fun _ _ _ _ _ => ⟨_, (de_callG ((ok_is_integer T).mono (k := 2) (by decide)) hr hgu T.m_is_integer T.k_is_integer takes0 (do_val (de_var 2) do_nil))⟩))))))))))))) fun _ _ _ _ h => h
theorem sc_is_piece : FnScope ["field", "value"] ["field", "value"] (defScope s_is_piece) := ⟨rfl, rfl, rfl, by decide +kernel, rfl, by decide +kernel, by decide +kernel⟩
theorem ok_is_piece (T : Tx K mg) : FnG P w K mg base 4 T.a_is_piece (spD K 2 [] G_is_piece) :=
  okG_of (J := []) (Fd := F_is_piece) T.F_is_piece T.b_is_piece sc_is_piece rfl (fun cdv A outer s H E hr hgu => by
    have hu1 := hu_of hr
    have hu65 := hu65_of hr
    have hu64 := hu64_of hr
    have hu0 := hu0_of hr
    have hu2 := hu2_of hr
    have tk := takes_of (X := (cxOf (L2.CX P w) P w K mg base ["field", "value"] "is_piece" (defScope s_is_piece) T.a_is_piece cdv A outer s H E)) rfl rfl rfl rfl
    have hp := passes_of (X := (cxOf (L2.CX P w) P w K mg base ["field", "value"] "is_piece" (defScope s_is_piece) T.a_is_piece cdv A outer s H E)) rfl
    exact (dss_one (ds_ret (J1 := []) (de_and (de_callB call_isi (rv_isi .tuple) T.n_isinstance (by rfl) (dao (da_cons (de_var 1) (da_cons (de_bltn T.n_tuple (by rfl)) da_nil)))) (de_and (de_cmp (op_eqU hu64) rv_eqU (de_callB call_lenU rv_len T.n_len (by rfl) (dao_one (deo (de_var 1)))) (deo de_int)) (de_and (de_callG ((ok_is_pair T).mono (k := 3) (by decide)) hr hgu T.m_is_pair T.k_is_pair tk (do_val (de_ix (ix_U hu1) rv_ix (de_var 1) (deo de_int)) do_nil)) (de_one (de_callG ((ok_are_counts T).mono (k := 3) (by decide)) hr hgu T.m_are_counts T.k_are_counts tk (do_val (de_var 0) (do_val (de_ix (ix_U hu1) rv_ix (de_var 1) (deo de_int)) do_nil)))))))))) fun _ _ _ _ h => h
theorem sc_are_pieces : FnScope ["field", "value", "piece", "later", "place", "counts"] ["field", "value"] (defScope s_are_pieces) := ⟨rfl, rfl, rfl, by decide +kernel, rfl, by decide +kernel, by decide +kernel⟩
theorem ok_are_pieces (T : Tx K mg) : FnG P w K mg base 5 T.a_are_pieces (spD K 2 [] G_are_pieces) :=
  okG_of (J := []) (Fd := F_are_pieces) T.F_are_pieces T.b_are_pieces sc_are_pieces rfl (fun cdv A outer s H E hr hgu => by
    have hu1 := hu_of hr
    have hu65 := hu65_of hr
    have hu64 := hu64_of hr
    have hu0 := hu0_of hr
    have hu2 := hu2_of hr
    have tk := takes_of (X := (cxOf (L2.CX P w) P w K mg base ["field", "value", "piece", "later", "place", "counts"] "are_pieces" (defScope s_are_pieces) T.a_are_pieces cdv A outer s H E)) rfl rfl rfl rfl
    have hp := passes_of (X := (cxOf (L2.CX P w) P w K mg base ["field", "value", "piece", "later", "place", "counts"] "are_pieces" (defScope s_are_pieces) T.a_are_pieces cdv A outer s H E)) rfl
    exact (dss_cons (ds_if (J := []) (dt_w (dw_or (dt_not (dt_val (de_callB call_isi (rv_isi .tuple) T.n_isinstance (by rfl) (dao (da_cons (de_var 1) (da_cons (de_bltn T.n_tuple (by rfl)) da_nil)))))) (dw_or1 (dt_not (dt_val (de_callB (cr_all (by rfl)) rv_all T.n_all (by rfl) (dao_one (deo (de_new (dn_of (dx_lc ["field", "value", "piece", "later", "place", "counts"] (defScope s_are_pieces) [("piece", 2)] [2] rfl sc_are_pieces.nd (di_seq (de_var 1)) (by decide +kernel) (fun _ _ _ _ _ => ⟨_, (dg_name 2 sc_are_pieces.nd)⟩) (fun _ _ _ _ _ => ⟨_, dts_nil⟩) (fun _ _ _ _ _ => ⟨_, (de_callG ((ok_is_piece T).mono (k := 4) (by decide)) hr hgu T.m_is_piece T.k_is_piece takes0 (do_val (de_var 0) (do_val (de_var 2) do_nil)))⟩))))))))))))
      (dss_one (ds_ret (J1 := []) de_bl))
      dss_nil)
      (dss_cons (ds_if (J := []) (dt_not (dt_val (de_callB (cr_all (by rfl)) rv_all T.n_all (by rfl) (dao_one (deo (de_new (dn_of (dx_lc ["field", "value", "piece", "later", "place", "counts"] (defScope s_are_pieces) [("place", 4), ("counts", 5)] [4, 5] rfl sc_are_pieces.nd (di_seq (de_var 1)) (by decide +kernel) (fun _ _ _ _ _ => ⟨_, (dg_tup rfl (dgs_cons (dg_name 4 sc_are_pieces.nd) (dgs_cons (dg_name 5 sc_are_pieces.nd) dgs_nil)) (fun ds ρ k h => ((gl_cons gs_nm (gl_cons gs_nm gl_nil)) ds ρ k h).1))⟩) (fun _ _ _ _ _ => ⟨_, dts_nil⟩) (fun _ _ _ _ _ => ⟨_, (de_callB (cr_anyI (by rfl)) rv_anyI T.n_any (by rfl) (dao_one (deo (de_callTy call_list_of rv_list T.n_list (by rfl) (dao_one (deo (de_var 5)))))))⟩)))))))))
      (dss_one (ds_ret (J1 := []) de_bl))
      dss_nil)
      (dss_one (ds_ret (J1 := []) (de_callB (cr_all (by rfl)) rv_all T.n_all (by rfl) (dao_one (deo (de_new (dn_of (dx_lc ["field", "value", "piece", "later", "place", "counts"] (defScope s_are_pieces) [("piece", 2), ("later", 3)] [2, 3] rfl sc_are_pieces.nd (di_zip T.n_zip (da_cons (de_var 1) (da_cons (de_cut (de_var 1) (do_some de_int) do_none) da_nil))) (by decide +kernel) (fun _ _ _ _ _ => ⟨_, (dg_tup rfl (dgs_cons (dg_name 2 sc_are_pieces.nd) (dgs_cons (dg_name 3 sc_are_pieces.nd) dgs_nil)) (fun ds ρ k h => ((gl_cons gs_nm (gl_cons gs_nm gl_nil)) ds ρ k h).1))⟩) (fun _ _ _ _ _ => ⟨_, dts_nil⟩) (fun _ _ _ _ _ => ⟨_, (de_cmp (op_ltU hu0) rv_lt (de_ix (ix_U hu1) rv_ix (de_var 2) (deo de_int)) (deo (de_ix (ix_U hu1) rv_ix (de_var 3) (deo de_int))))⟩)))))))))))) fun _ _ _ _ h => h
theorem sc_added : FnScope ["one", "other", "count", "more"] ["one", "other"] (defScope s_added) := ⟨rfl, rfl, rfl, by decide +kernel, rfl, by decide +kernel, by decide +kernel⟩
theorem ok_added (T : Tx K mg) : FnG P w K mg base 1 T.a_added (spD K 2 [] G_added) :=
  okG_of (J := []) (Fd := F_added) T.F_added T.b_added sc_added rfl (fun cdv A outer s H E hr hgu => by
    have hu1 := hu_of hr
    have hu65 := hu65_of hr
    have hu64 := hu64_of hr
    have hu0 := hu0_of hr
    have hu2 := hu2_of hr
    have tk := takes_of (X := (cxOf (L2.CX P w) P w K mg base ["one", "other", "count", "more"] "added" (defScope s_added) T.a_added cdv A outer s H E)) rfl rfl rfl rfl
    have hp := passes_of (X := (cxOf (L2.CX P w) P w K mg base ["one", "other", "count", "more"] "added" (defScope s_added) T.a_added cdv A outer s H E)) rfl
    exact (dss_one (ds_ret (J1 := []) (de_callTy call_tuple_of rv_tuple T.n_tuple (by rfl) (dao_one (deo (de_new (dn_of (dx_lc ["one", "other", "count", "more"] (defScope s_added) [("count", 2), ("more", 3)] [2, 3] rfl sc_added.nd (di_zip T.n_zip (da_cons (de_var 0) (da_cons (de_var 1) da_nil))) (by decide +kernel) (fun _ _ _ _ _ => ⟨_, (dg_tup rfl (dgs_cons (dg_name 2 sc_added.nd) (dgs_cons (dg_name 3 sc_added.nd) dgs_nil)) (fun ds ρ k h => ((gl_cons gs_nm (gl_cons gs_nm gl_nil)) ds ρ k h).1))⟩) (fun _ _ _ _ _ => ⟨_, dts_nil⟩) (fun _ _ _ _ _ => ⟨_, (de_bin op_addU rv_add (de_var 2) (deo (de_var 3)))⟩)))))))))) fun _ _ _ _ h => h
theorem sc_merged : FnScope ["pieces", "found", "place", "counts"] ["pieces"] (defScope s_merged) := ⟨rfl, rfl, rfl, by decide +kernel, rfl, by decide +kernel, by decide +kernel⟩
theorem ok_merged (T : Tx K mg) : FnG P w K mg base 2 T.a_merged (spD K 1 [] G_merged) :=
  okG_of (J := [1]) (Fd := F_merged) T.F_merged T.b_merged sc_merged rfl (fun cdv A outer s H E hr hgu => by
    have hu1 := hu_of hr
    have hu65 := hu65_of hr
    have hu64 := hu64_of hr
    have hu0 := hu0_of hr
    have hu2 := hu2_of hr
    have tk := takes_of (X := (cxOf (L2.CX P w) P w K mg base ["pieces", "found", "place", "counts"] "merged" (defScope s_merged) T.a_merged cdv A outer s H E)) rfl rfl rfl rfl
    have hp := passes_of (X := (cxOf (L2.CX P w) P w K mg base ["pieces", "found", "place", "counts"] "merged" (defScope s_merged) T.a_merged cdv A outer s H E)) rfl
    exact (dss_cons (ds_setN 1 sc_merged.nd dn_dict0T)
      (dss_cons (ds_for hp rfl (J := [1]) (di_seq (de_var 0)) (dg_tup rfl (dgs_cons (dg_name 2 sc_merged.nd) (dgs_cons (dg_name 3 sc_merged.nd) dgs_nil)) (fun ds ρ k h => ((gl_cons gs_nm (gl_cons gs_nm gl_nil)) ds ρ k h).1))
      (dss_one (ds_putO 1 hu1 (de_if (dt_cmp (op_inU hu65) rv_in (de_var 2) (deo_var 1)) (de_callG ((ok_added T).mono (k := 1) (by decide)) hr hgu T.m_added T.k_added tk (do_val (de_ixL 1 (ix_U hu1) rv_ix (deo (de_var 2))) (do_val (de_var 3) do_nil))) (de_var 3)) (de_var 2))))
      (dss_one (ds_ret (J1 := [1]) (de_new (dn_of (dx_dc [("place", 2), ("counts", 3)] [2, 3] hu0 rfl sc_merged.nd (di_itemsT (de_rel (J := []) 1)) (fun _ _ _ _ _ => ⟨_, (dg_tup rfl (dgs_cons (dg_name 2 sc_merged.nd) (dgs_cons (dg_name 3 sc_merged.nd) dgs_nil)) (fun ds ρ k h => ((gl_cons gs_nm (gl_cons gs_nm gl_nil)) ds ρ k h).1))⟩) (fun _ _ _ _ _ => ⟨_, (dts_one (dt_val (de_callB (cr_anyI (by rfl)) rv_anyI T.n_any (by rfl) (dao_one (deo (de_callTy call_list_of rv_list T.n_list (by rfl) (dao_one (deo (de_var 3)))))))))⟩) (fun _ _ _ _ _ => ⟨_, (de_var 2)⟩) (fun _ _ _ _ _ => ⟨_, (de_var 3)⟩))))))))) fun _ _ _ _ h => h
theorem sc_State___init__ : FnScope ["self", "field", "position", "pieces", "piece"] ["self", "field", "position", "pieces"] (defScope s_State___init__) := ⟨rfl, rfl, rfl, by decide +kernel, rfl, by decide +kernel, by decide +kernel⟩
theorem ok_State___init__ (T : Tx K mg) : FnG P w K mg base 5 T.a_State___init__ (spStar 3 (spD K 4 [0] G_State___init__)) :=
  okGS_of (ps := ["self", "field", "position"]) (J := []) (Fd := F_State___init__) T.F_State___init__ T.b_State___init__ sc_State___init__ (fun cdv A outer s H E hr hgu => by
    have hu1 := hu_of hr
    have hu65 := hu65_of hr
    have hu64 := hu64_of hr
    have hu0 := hu0_of hr
    have hu2 := hu2_of hr
    have tk := takes_of (X := (cxOf (L2.CX P w) P w K mg base ["self", "field", "position", "pieces", "piece"] "State.__init__" (defScope s_State___init__) T.a_State___init__ cdv A outer s H E)) rfl rfl rfl rfl
    have hp := passes_of (X := (cxOf (L2.CX P w) P w K mg base ["self", "field", "position", "pieces", "piece"] "State.__init__" (defScope s_State___init__) T.a_State___init__ cdv A outer s H E)) rfl
    exact (dss_cons (ds_if (J := []) (dt_w (dw_or (dt_not (dt_val (de_callG ((ok_is_pair T).mono (k := 4) (by decide)) hr hgu T.m_is_pair T.k_is_pair tk (do_val (de_var 2) do_nil)))) (dw_or1 (dt_not (dt_val (de_callB (cr_all (by rfl)) rv_all T.n_all (by rfl) (dao_one (deo (de_new (dn_of (dx_lc ["self", "field", "position", "pieces", "piece"] (defScope s_State___init__) [("piece", 4)] [4] rfl sc_State___init__.nd (di_seq (de_var 3)) (by decide +kernel) (fun _ _ _ _ _ => ⟨_, (dg_name 4 sc_State___init__.nd)⟩) (fun _ _ _ _ _ => ⟨_, dts_nil⟩) (fun _ _ _ _ _ => ⟨_, (de_callG ((ok_is_piece T).mono (k := 4) (by decide)) hr hgu T.m_is_piece T.k_is_piece takes0 (do_val (de_var 1) (do_val (de_var 4) do_nil)))⟩))))))))))))
      (dss_one (ds_raise0 rfl tk T.xn_InvalidState))
      dss_nil)
      (dss_cons (ds_fld 0 "State" T.ic_State T.cl_State T.na_State_ground (de_var 1))
      (dss_cons (ds_fld 0 "State" T.ic_State T.cl_State T.na_State_stand (de_var 2))
      (dss_cons (ds_fld 0 "State" T.ic_State T.cl_State T.na_State_laid (de_callG ((ok_merged T).mono (k := 4) (by decide)) hr hgu T.m_merged T.k_merged tk (do_val (de_var 3) do_nil)))
      (dss_cons (ds_fld 0 "State" T.ic_State T.cl_State T.na_State_rows (de_callTy call_tuple_of rv_tuple T.n_tuple (by rfl) (dao_one (deo (de_sortIt rfl hu2 T.n_sorted (de_fld "State" T.ic_State T.cl_State T.na_State_laid (deo_var 0)))))))
      (dss_one (ds_fld 0 "State" T.ic_State T.cl_State T.na_State_key (de_tup (da_cons (de_var 2) (da_cons (de_fld "State" T.ic_State T.cl_State T.na_State_rows (deo_var 0)) da_nil))))))))))) fun _ _ _ _ h => h
theorem sc_State_of : FnScope ["cls", "field", "parts", "position", "pieces"] ["cls", "field", "parts"] (defScope s_State_of) := ⟨rfl, rfl, rfl, by decide +kernel, rfl, by decide +kernel, by decide +kernel⟩
theorem ok_State_of (T : Tx K mg) : FnG P w K mg base 7 T.a_State_of (spD K 3 [] G_State_of) :=
  okG_of (J := []) (Fd := F_State_of) T.F_State_of T.b_State_of sc_State_of rfl (fun cdv A outer s H E hr hgu => by
    have hu1 := hu_of hr
    have hu65 := hu65_of hr
    have hu64 := hu64_of hr
    have hu0 := hu0_of hr
    have hu2 := hu2_of hr
    have tk := takes_of (X := (cxOf (L2.CX P w) P w K mg base ["cls", "field", "parts", "position", "pieces"] "State.of" (defScope s_State_of) T.a_State_of cdv A outer s H E)) rfl rfl rfl rfl
    have hp := passes_of (X := (cxOf (L2.CX P w) P w K mg base ["cls", "field", "parts", "position", "pieces"] "State.of" (defScope s_State_of) T.a_State_of cdv A outer s H E)) rfl
    exact (dss_cons (ds_if (J := []) (dt_w (dw_or (dt_not (dt_val (de_callB call_isi (rv_isi .tuple) T.n_isinstance (by rfl) (dao (da_cons (de_var 2) (da_cons (de_bltn T.n_tuple (by rfl)) da_nil)))))) (dw_or (dt_cmp (op_neU hu64) rv_neU (de_callB call_lenU rv_len T.n_len (by rfl) (dao_one (deo (de_var 2)))) (deo de_int)) (dw_or1 (dt_not (dt_val (de_callG ((ok_are_pieces T).mono (k := 6) (by decide)) hr hgu T.m_are_pieces T.k_are_pieces tk (do_val (de_var 1) (do_val (de_ix (ix_U hu1) rv_ix (de_var 2) (deo de_int)) do_nil)))))))))
      (dss_one (ds_raise0 rfl tk T.xn_InvalidState))
      dss_nil)
      (dss_cons (ds_asg (de_var 2) (dg_tup rfl (dgs_cons (dg_name 3 sc_State_of.nd) (dgs_cons (dg_name 4 sc_State_of.nd) dgs_nil)) (fun ds ρ k h => ((gl_cons gs_nm (gl_cons gs_nm gl_nil)) ds ρ k h).1)))
      (dss_one (ds_ret (J1 := []) (de_new (dn_makeLS 0 T.mk_State T.ic_State ((ok_State___init__ T).mono (k := 5) (by decide)) hr hgu tk (da_consS (de_var 1) (da_consS (de_var 3) (da_star (de_var 4))))))))))) fun _ _ _ _ h => h
theorem sc_Field___eq__ : FnScope ["self", "other"] ["self", "other"] (defScope s_Field___eq__) := ⟨rfl, rfl, rfl, by decide +kernel, rfl, by decide +kernel, by decide +kernel⟩
theorem ok_Field___eq__ (T : Tx K mg) : FnG P w K mg base 1 T.a_Field___eq__ (spD K 2 [] G_Field___eq__) :=
  okG_of (J := []) (Fd := F_Field___eq__) T.F_Field___eq__ T.b_Field___eq__ sc_Field___eq__ rfl (fun cdv A outer s H E hr hgu => by
    have hu1 := hu_of hr
    have hu65 := hu65_of hr
    have hu64 := hu64_of hr
    have hu0 := hu0_of hr
    have hu2 := hu2_of hr
    have tk := takes_of (X := (cxOf (L2.CX P w) P w K mg base ["self", "other"] "Field.__eq__" (defScope s_Field___eq__) T.a_Field___eq__ cdv A outer s H E)) rfl rfl rfl rfl
    have hp := passes_of (X := (cxOf (L2.CX P w) P w K mg base ["self", "other"] "Field.__eq__" (defScope s_Field___eq__) T.a_Field___eq__ cdv A outer s H E)) rfl
    exact (dss_one (ds_ret (J1 := []) (de_and (de_isiOwn T.ic_Field T.mc_Field T.if_Field T.n_isinstance (de_var 1)) (de_one (de_cmp (op_eqU hu64) rv_eqU (de_fld "Field" T.ic_Field T.cl_Field T.na_Field_vectors (deo (de_var 0))) (deo (de_fld "Field" T.ic_Field T.cl_Field T.na_Field_vectors (deo (de_var 1)))))))))) fun _ _ _ _ h => h
theorem sc_State_field : FnScope ["self"] ["self"] (defScope s_State_field) := ⟨rfl, rfl, rfl, by decide +kernel, rfl, by decide +kernel, by decide +kernel⟩
theorem ok_State_field (T : Tx K mg) : FnG P w K mg base 1 T.a_State_field (spD K 1 [] G_State_field) :=
  okG_of (J := []) (Fd := F_State_field) T.F_State_field T.b_State_field sc_State_field rfl (fun cdv A outer s H E hr hgu => by
    have hu1 := hu_of hr
    have hu65 := hu65_of hr
    have hu64 := hu64_of hr
    have hu0 := hu0_of hr
    have hu2 := hu2_of hr
    have tk := takes_of (X := (cxOf (L2.CX P w) P w K mg base ["self"] "State.field" (defScope s_State_field) T.a_State_field cdv A outer s H E)) rfl rfl rfl rfl
    have hp := passes_of (X := (cxOf (L2.CX P w) P w K mg base ["self"] "State.field" (defScope s_State_field) T.a_State_field cdv A outer s H E)) rfl
    exact (dss_one (ds_ret (J1 := []) (de_fld "State" T.ic_State T.cl_State T.na_State_ground (deo (de_var 0)))))) fun _ _ _ _ h => h
theorem sc_State_parts : FnScope ["self"] ["self"] (defScope s_State_parts) := ⟨rfl, rfl, rfl, by decide +kernel, rfl, by decide +kernel, by decide +kernel⟩
theorem ok_State_parts (T : Tx K mg) : FnG P w K mg base 1 T.a_State_parts (spD K 1 [] G_State_parts) :=
  okG_of (J := []) (Fd := F_State_parts) T.F_State_parts T.b_State_parts sc_State_parts rfl (fun cdv A outer s H E hr hgu => by
    have hu1 := hu_of hr
    have hu65 := hu65_of hr
    have hu64 := hu64_of hr
    have hu0 := hu0_of hr
    have hu2 := hu2_of hr
    have tk := takes_of (X := (cxOf (L2.CX P w) P w K mg base ["self"] "State.parts" (defScope s_State_parts) T.a_State_parts cdv A outer s H E)) rfl rfl rfl rfl
    have hp := passes_of (X := (cxOf (L2.CX P w) P w K mg base ["self"] "State.parts" (defScope s_State_parts) T.a_State_parts cdv A outer s H E)) rfl
    exact (dss_one (ds_ret (J1 := []) (de_fld "State" T.ic_State T.cl_State T.na_State_key (deo (de_var 0)))))) fun _ _ _ _ h => h
theorem sc_l_told : FnScope ["_law_ground", "_law_thing", "_law_caught", "_law_state", "e", "_law_is_right"] ["_law_ground", "_law_thing"] (defScope s_l_told) := ⟨rfl, rfl, rfl, by decide +kernel, rfl, by decide +kernel, by decide +kernel⟩
theorem ok_l_told (T : Tx K mg) : FnG P w K mg base 8 T.a_l_told (spD K 2 [] G_l_told) :=
  okG_of (J := []) (Fd := F_l_told) T.F_l_told T.b_l_told sc_l_told rfl (fun cdv A outer s H E hr hgu => by
    have hu1 := hu_of hr
    have hu65 := hu65_of hr
    have hu64 := hu64_of hr
    have hu0 := hu0_of hr
    have hu2 := hu2_of hr
    have tk := takes_of (X := (cxOf (L2.CX P w) P w K mg base ["_law_ground", "_law_thing", "_law_caught", "_law_state", "e", "_law_is_right"] "_law_told" (defScope s_l_told) T.a_l_told cdv A outer s H E)) rfl rfl rfl rfl
    have hp := passes_of (X := (cxOf (L2.CX P w) P w K mg base ["_law_ground", "_law_thing", "_law_caught", "_law_state", "e", "_law_is_right"] "_law_told" (defScope s_l_told) T.a_l_told cdv A outer s H E)) rfl
    exact (dss_cons (ds_set 2 sc_l_told.nd de_non)
      (dss_cons (ds_set 3 sc_l_told.nd de_non)
      (dss_cons (ds_tryKeep (ts := [("InvalidPulls", true), ("InvalidState", true)]) 4 2 rfl rfl rfl sc_l_told.nd tk ⟨rfl, by decide, .inl T.mc_PlainError⟩ T.tk_PlainError (fun W pn xe tk hp => (dss_one (ds_set 3 sc_l_told.nd (de_cmeth T.ic_State T.mc_State T.cr_State T.cm_State_of ((ok_State_of T).mono (k := 7) (by decide)) hr hgu tk (do_val (de_var 0) (do_val (de_var 1) do_nil)))))))
      (dss_cons (ds_if (J := []) (dt_cmp op_isU rv_is (de_var 2) (deo de_non))
      (dss_one (ds_ret (J1 := []) (de_if (dt_eqOwn false (op_eqOwn T.ef_Field ((ok_Field___eq__ T).mono (k := 6) (by decide)) hr hgu) T.ic_Field (de_propG T.ic_State T.cl_State T.pr_State_field ((ok_State_field T).mono (k := 6) (by decide)) hr hgu (de_var 3)) (de_var 0)) (de_propG T.ic_State T.cl_State T.pr_State_parts ((ok_State_parts T).mono (k := 6) (by decide)) hr hgu (de_var 3)) de_str)))
      dss_nil)
      (dss_cons (ds_set 5 sc_l_told.nd (de_and (de_isiX (ts := [("InvalidPulls", false), ("InvalidState", true)]) T.mc_InvalidState T.n_isinstance T.isX_InvalidState (de_var 2)) (de_one (de_not (de_isiXT (ts := [("InvalidPulls", true), ("InvalidState", false)]) (cs := [T.C_InvalidDeed, T.C_InvalidPulls]) (.cons T.mc_InvalidDeed rfl (by decide) (.cons T.mc_InvalidPulls rfl (by decide) .nil)) T.n_isinstance T.isT_0 (de_var 2))))))
      (dss_one (ds_ret (J1 := []) (de_if (dt_val (de_var 5)) de_str de_str))))))))) fun _ _ _ _ h => h
theorem sc_l_put : FnScope ["_law_ground", "_law_spot", "_law_row", "_law_caught", "_law_state", "e"] ["_law_ground", "_law_spot", "_law_row"] (defScope s_l_put) := ⟨rfl, rfl, rfl, by decide +kernel, rfl, by decide +kernel, by decide +kernel⟩
theorem ok_l_put (T : Tx K mg) : FnG P w K mg base 7 T.a_l_put (spD K 3 [] G_l_put) :=
  okG_of (J := []) (Fd := F_l_put) T.F_l_put T.b_l_put sc_l_put rfl (fun cdv A outer s H E hr hgu => by
    have hu1 := hu_of hr
    have hu65 := hu65_of hr
    have hu64 := hu64_of hr
    have hu0 := hu0_of hr
    have hu2 := hu2_of hr
    have tk := takes_of (X := (cxOf (L2.CX P w) P w K mg base ["_law_ground", "_law_spot", "_law_row", "_law_caught", "_law_state", "e"] "_law_put" (defScope s_l_put) T.a_l_put cdv A outer s H E)) rfl rfl rfl rfl
    have hp := passes_of (X := (cxOf (L2.CX P w) P w K mg base ["_law_ground", "_law_spot", "_law_row", "_law_caught", "_law_state", "e"] "_law_put" (defScope s_l_put) T.a_l_put cdv A outer s H E)) rfl
    exact (dss_cons (ds_set 3 sc_l_put.nd de_non)
      (dss_cons (ds_set 4 sc_l_put.nd de_non)
      (dss_cons (ds_tryKeep (ts := [("InvalidPulls", false), ("InvalidState", true)]) 5 3 rfl rfl rfl sc_l_put.nd tk ⟨rfl, by decide, .inl T.mc_InvalidState⟩ T.tk_InvalidState (fun W pn xe tk hp => (dss_one (ds_set 4 sc_l_put.nd (de_new (dn_makeSn0 T.mk_State T.ic_State ((ok_State___init__ T).mono (k := 5) (by decide)) hr hgu T.mc_State tk (da_cons (de_var 0) (da_cons (de_var 1) (da_cons (de_var 2) (da_cons (de_var 2) da_nil))))))))))
      (dss_one (ds_ret (J1 := []) (de_if (dt_cmp op_isNotU rv_isNot (de_var 3) (deo de_non)) de_str (de_propG T.ic_State T.cl_State T.pr_State_parts ((ok_State_parts T).mono (k := 5) (by decide)) hr hgu (de_var 4))))))))) fun _ _ _ _ h => h
theorem sc_law : FnScope ["_law_script", "_law_pen_here", "_law_turn", "_law_pulls_here", "_law_ground", "_law_wide", "_law_heap", "_law_rows", "_law_spot", "_law_thing", "_law_due", "_law_odd_here", "_law_row", "_law_k"] ["_law_script"] (defScope s_law) := ⟨rfl, rfl, rfl, by decide +kernel, rfl, by decide +kernel, by decide +kernel⟩
theorem ok_law {f : Addr} {fd : FuncData} (T : Tx K mg) (F : FunG K "law" "law" s_law f fd) (B : Binds K fd ["_law_script"] []) : FnG P w K mg base 9 f (spD K 1 [] G_law) :=
  okG_of (J := [1]) (Fd := F_law) F B sc_law rfl (fun cdv A outer s H E hr hgu => by
    have hu1 := hu_of hr
    have hu65 := hu65_of hr
    have hu64 := hu64_of hr
    have hu0 := hu0_of hr
    have hu2 := hu2_of hr
    have tk := takes_of (X := (cxOf (L2.CX P w) P w K mg base ["_law_script", "_law_pen_here", "_law_turn", "_law_pulls_here", "_law_ground", "_law_wide", "_law_heap", "_law_rows", "_law_spot", "_law_thing", "_law_due", "_law_odd_here", "_law_row", "_law_k"] "law" (defScope s_law) f cdv A outer s H E)) rfl rfl rfl rfl
    have hp := passes_of (X := (cxOf (L2.CX P w) P w K mg base ["_law_script", "_law_pen_here", "_law_turn", "_law_pulls_here", "_law_ground", "_law_wide", "_law_heap", "_law_rows", "_law_spot", "_law_thing", "_law_due", "_law_odd_here", "_law_row", "_law_k"] "law" (defScope s_law) f cdv A outer s H E)) rfl
    exact (dss_cons (ds_setN 1 sc_law.nd (dn_callG ((ok_l_pen T).mono (k := 8) (by decide)) hr hgu T.m_l_pen T.k_l_pen tk (do_val (de_var 0) do_nil)))
      (dss_cons (ds_for hp rfl (J := [1]) (di_range1 T.n_range (da_cons de_int da_nil)) (dg_name 2 sc_law.nd)
      (dss_cons (ds_set 3 sc_law.nd (de_callG ((ok_l_pulls T).mono (k := 8) (by decide)) hr hgu T.m_l_pulls T.k_l_pulls tk (do_own 1 (do_val de_int do_nil))))
      (dss_cons (ds_asg (de_tup (da_cons (de_callG ((ok_l_field T).mono (k := 8) (by decide)) hr hgu T.m_l_field T.k_l_field tk (do_val (de_var 3) do_nil)) (da_cons (de_bin op_addU rv_add de_int (deo (de_callG ((ok_l_draw T).mono (k := 8) (by decide)) hr hgu T.m_l_draw T.k_l_draw tk (do_own 1 (do_val de_int do_nil))))) da_nil))) (dg_tup rfl (dgs_cons (dg_name 4 sc_law.nd) (dgs_cons (dg_name 5 sc_law.nd) dgs_nil)) (fun ds ρ k h => ((gl_cons gs_nm (gl_cons gs_nm gl_nil)) ds ρ k h).1)))
      (dss_cons (dx_setLc 6 ["_law_script", "_law_pen_here", "_law_turn", "_law_pulls_here", "_law_ground", "_law_wide", "_law_heap", "_law_rows", "_law_spot", "_law_thing", "_law_due", "_law_odd_here", "_law_row", "_law_k"] (defScope s_law) [("_law_k", 13)] [13] rfl sc_law.nd (sw_true rfl rfl rfl (by decide +kernel)) (di_range1 T.n_range (da_cons (de_callG ((ok_l_draw T).mono (k := 8) (by decide)) hr hgu T.m_l_draw T.k_l_draw tk (do_own 1 (do_val de_int do_nil))) da_nil)) (by decide +kernel) (fun _ _ _ _ _ => ⟨_, (dg_name 13 sc_law.nd)⟩) (fun _ _ _ _ _ => ⟨_, dts_nil⟩) (fun _ _ _ _ _ => ⟨_, (de_tup (da_cons (de_callG ((ok_l_place T).mono (k := 8) (by decide)) hr hgu T.m_l_place T.k_l_place takes0 (do_own 1 (do_val (de_var 5) do_nil))) (da_cons (de_callG ((ok_l_counts T).mono (k := 8) (by decide)) hr hgu T.m_l_counts T.k_l_counts takes0 (do_own 1 (do_val (de_callB call_lenU rv_len T.n_len (by rfl) (dao_one (deo (de_var 3)))) (do_val de_int do_nil)))) da_nil)))⟩))
      (dss_cons (ds_set 7 sc_law.nd (de_callTy call_list_of rv_list T.n_list (by rfl) (dao_one (deo (de_callG ((ok_l_laid T).mono (k := 8) (by decide)) hr hgu T.m_l_laid T.k_l_laid tk (do_val (de_var 6) do_nil))))))
      (dss_cons (ds_set 8 sc_law.nd (de_callG ((ok_l_place T).mono (k := 8) (by decide)) hr hgu T.m_l_place T.k_l_place tk (do_own 1 (do_val (de_var 5) do_nil))))
      (dss_cons (ds_set 9 sc_law.nd (de_callG ((ok_l_spoiled T).mono (k := 8) (by decide)) hr hgu T.m_l_spoiled T.k_l_spoiled tk (do_own 1 (do_val (de_var 8) (do_val (de_var 7) do_nil)))))
      (dss_cons (ds_set 10 sc_law.nd (de_if (dt_val (de_callG ((ok_l_fits T).mono (k := 8) (by decide)) hr hgu T.m_l_fits T.k_l_fits tk (do_val (de_var 9) (do_val (de_callB call_lenU rv_len T.n_len (by rfl) (dao_one (deo (de_var 3)))) do_nil)))) (de_var 9) de_str))
      (dss_cons (ds_if (J := [1]) (dt_cmp (op_neU hu64) rv_neU (de_callB (call_reprD hgu hu65) rv_repr T.n_repr (by rfl) (dao_one (deo (de_callG ((ok_l_told T).mono (k := 8) (by decide)) hr hgu T.m_l_told T.k_l_told tk (do_val (de_var 4) (do_val (de_var 9) do_nil)))))) (deo (de_callB (call_reprD hgu hu65) rv_repr T.n_repr (by rfl) (dao_one (deo (de_var 10))))))
      (dss_one (ds_ret (J1 := [1]) de_bl))
      dss_nil)
      (dss_cons (ds_set 11 sc_law.nd (de_callG ((ok_l_odd T).mono (k := 8) (by decide)) hr hgu T.m_l_odd T.k_l_odd tk (do_own 1 do_nil)))
      (dss_cons (ds_for hp rfl (J := [1]) (di_seq (de_new (dn_lst (da_cons (de_tup (da_cons (de_var 8) (da_cons (de_var 11) da_nil))) (da_cons (de_tup (da_cons (de_var 11) (da_cons (de_bin op_mulU rv_mul (de_tup (da_cons de_int da_nil)) (deo (de_callB call_lenU rv_len T.n_len (by rfl) (dao_one (deo (de_var 3)))))) da_nil))) (da_cons (de_var 11) (da_cons (de_tup (da_cons (de_var 8) (da_cons (de_bin op_mulU rv_mul (de_tup (da_cons de_int da_nil)) (deo (de_callB call_lenU rv_len T.n_len (by rfl) (dao_one (deo (de_var 3)))))) da_nil))) (da_cons (de_tup (da_cons (de_var 8) (da_cons (de_bin op_mulU rv_mul (de_tup (da_cons de_int da_nil)) (deo (de_callB call_lenU rv_len T.n_len (by rfl) (dao_one (deo (de_var 3)))))) da_nil))) da_nil)))))))) (dg_name 12 sc_law.nd)
      (dss_cons (ds_set 10 sc_law.nd (de_if (dt_val (de_callG ((ok_l_is_row T).mono (k := 8) (by decide)) hr hgu T.m_l_is_row T.k_l_is_row tk (do_val (de_var 12) (do_val (de_callB call_lenU rv_len T.n_len (by rfl) (dao_one (deo (de_var 3)))) do_nil)))) (de_tup (da_cons (de_var 8) (da_cons (de_callG ((ok_l_laid T).mono (k := 8) (by decide)) hr hgu T.m_l_laid T.k_l_laid tk (do_val (de_new (dn_lst (da_cons (de_var 12) (da_cons (de_var 12) da_nil)))) do_nil)) da_nil))) de_str))
      (dss_one (ds_if (J := [1]) (dt_cmp (op_neU hu64) rv_neU (de_callB (call_reprD hgu hu65) rv_repr T.n_repr (by rfl) (dao_one (deo (de_callG ((ok_l_put T).mono (k := 8) (by decide)) hr hgu T.m_l_put T.k_l_put tk (do_val (de_var 4) (do_val (de_var 8) (do_val (de_var 12) do_nil))))))) (deo (de_callB (call_reprD hgu hu65) rv_repr T.n_repr (by rfl) (dao_one (deo (de_var 10))))))
      (dss_one (ds_ret (J1 := [1]) de_bl))
      dss_nil))))
      (dss_one (ds_if (J := [1]) (dt_cmp (op_neU hu64) rv_neU (de_callG ((ok_l_put T).mono (k := 8) (by decide)) hr hgu T.m_l_put T.k_l_put tk (do_val (de_var 4) (do_val (de_var 11) (do_val (de_tup (da_cons (de_var 8) (da_cons (de_bin op_mulU rv_mul (de_tup (da_cons de_int da_nil)) (deo (de_callB call_lenU rv_len T.n_len (by rfl) (dao_one (deo (de_var 3)))))) da_nil))) do_nil)))) (deo de_str))
      (dss_one (ds_ret (J1 := [1]) de_bl))
      dss_nil)))))))))))))
      (dss_one (ds_ret (J1 := [1]) de_bl))))) fun _ _ _ _ h => h
end
theorem all_mk {l : PySem.W.OpenLaw} {w : World} {K : PySem.W.Frag} {h : Heap} {mg : Str → Option Value} {fa : Addr} (X : K.In h) (G : h.Ns mainGlobals mg) (hfa : mg "law" = some (.ref fa))
    {C0 : Addr}
    {C1 : Addr}
    {f0 : Addr} {od0 an0 : Option Addr} {sl0 : Array (Option Value)} {oc0 kV0 dc0 pm0 cd0 ct0 : Value}
    {f1 : Addr} {od1 an1 : Option Addr} {sl1 : Array (Option Value)} {oc1 kV1 dc1 pm1 cd1 ct1 : Value}
    {f2 : Addr} {od2 an2 : Option Addr} {sl2 : Array (Option Value)} {oc2 kV2 dc2 pm2 cd2 ct2 : Value}
    {f3 : Addr} {od3 an3 : Option Addr} {sl3 : Array (Option Value)} {oc3 kV3 dc3 pm3 cd3 ct3 : Value}
    {f4 : Addr} {od4 an4 : Option Addr} {sl4 : Array (Option Value)} {oc4 kV4 dc4 pm4 cd4 ct4 : Value}
    {f5 : Addr} {od5 an5 : Option Addr} {sl5 : Array (Option Value)} {oc5 kV5 dc5 pm5 cd5 ct5 : Value}
    {f6 : Addr} {od6 an6 : Option Addr} {sl6 : Array (Option Value)} {oc6 kV6 dc6 pm6 cd6 ct6 : Value}
    {f7 : Addr} {od7 an7 : Option Addr} {sl7 : Array (Option Value)} {oc7 kV7 dc7 pm7 cd7 ct7 : Value}
    {f8 : Addr} {od8 an8 : Option Addr} {sl8 : Array (Option Value)} {oc8 kV8 dc8 pm8 cd8 ct8 : Value}
    {f9 : Addr} {od9 an9 : Option Addr} {sl9 : Array (Option Value)} {oc9 kV9 dc9 pm9 cd9 ct9 : Value}
    {f10 : Addr} {od10 an10 : Option Addr} {sl10 : Array (Option Value)} {oc10 kV10 dc10 pm10 cd10 ct10 : Value}
    {f11 : Addr} {od11 an11 : Option Addr} {sl11 : Array (Option Value)} {oc11 kV11 dc11 pm11 cd11 ct11 : Value}
    {f12 : Addr} {od12 an12 : Option Addr} {sl12 : Array (Option Value)} {oc12 kV12 dc12 pm12 cd12 ct12 : Value}
    {f13 : Addr} {od13 an13 : Option Addr} {sl13 : Array (Option Value)} {oc13 kV13 dc13 pm13 cd13 ct13 : Value}
    {f14 : Addr} {od14 an14 : Option Addr} {sl14 : Array (Option Value)} {oc14 kV14 dc14 pm14 cd14 ct14 : Value}
    {f15 : Addr} {od15 an15 : Option Addr} {sl15 : Array (Option Value)} {oc15 kV15 dc15 pm15 cd15 ct15 : Value}
    {f16 : Addr} {od16 an16 : Option Addr} {sl16 : Array (Option Value)} {oc16 kV16 dc16 pm16 cd16 ct16 : Value}
    {q16 : Addr} {rr16 : List Value}
    {f17 : Addr} {od17 an17 : Option Addr} {sl17 : Array (Option Value)} {oc17 kV17 dc17 pm17 cd17 ct17 : Value}
    {f18 : Addr} {od18 an18 : Option Addr} {sl18 : Array (Option Value)} {oc18 kV18 dc18 pm18 cd18 ct18 : Value}
    {f19 : Addr} {od19 an19 : Option Addr} {sl19 : Array (Option Value)} {oc19 kV19 dc19 pm19 cd19 ct19 : Value}
    {f20 : Addr} {od20 an20 : Option Addr} {sl20 : Array (Option Value)} {oc20 kV20 dc20 pm20 cd20 ct20 : Value}
    {f21 : Addr} {od21 an21 : Option Addr} {sl21 : Array (Option Value)} {oc21 kV21 dc21 pm21 cd21 ct21 : Value}
    {f22 : Addr} {od22 an22 : Option Addr} {sl22 : Array (Option Value)} {oc22 kV22 dc22 pm22 cd22 ct22 : Value}
    {f23 : Addr} {od23 an23 : Option Addr} {sl23 : Array (Option Value)} {oc23 kV23 dc23 pm23 cd23 ct23 : Value}
    {q23 : Addr} {rr23 : List Value}
    {f24 : Addr} {od24 an24 : Option Addr} {sl24 : Array (Option Value)} {oc24 kV24 dc24 pm24 cd24 ct24 : Value}
    {f25 : Addr} {od25 an25 : Option Addr} {sl25 : Array (Option Value)} {oc25 kV25 dc25 pm25 cd25 ct25 : Value}
    {q25 : Addr} {rr25 : List Value}
    {f26 : Addr} {od26 an26 : Option Addr} {sl26 : Array (Option Value)} {oc26 kV26 dc26 pm26 cd26 ct26 : Value}
    {q26 : Addr} {rr26 : List Value}
    {f27 : Addr} {od27 an27 : Option Addr} {sl27 : Array (Option Value)} {oc27 kV27 dc27 pm27 cd27 ct27 : Value}
    {f28 : Addr} {od28 an28 : Option Addr} {sl28 : Array (Option Value)} {oc28 kV28 dc28 pm28 cd28 ct28 : Value}
    {f29 : Addr} {od29 an29 : Option Addr} {sl29 : Array (Option Value)} {oc29 kV29 dc29 pm29 cd29 ct29 : Value}
    (aC0 : PySem.W.nsIn K mainGlobals "Field" = some (some (.ref C0)))
    (pg0 : PySem.W.plainGet K C0 Str.empty = true)
    (hd0 : PySem.W.hasDictIn K C0 = true)
    (po0 : PySem.W.plainOver K C0 = true)
    (sa0 : PySem.W.findIn K (.ref C0) "__setattr__" = some (some (.builtin "object.__setattr__")))
    (mk0 : PySem.W.makesIn K C0 = true)
    (kc0 : PySem.W.keepIn K (.ref C0) = true)
    (rd0 : PySem.W.readsIn K C0 (.type "type") = true)
    (gt0 : PySem.W.specialIn K (.ref C0) "__getattribute__" = some (some (.builtin "type.__getattribute__")))
    {tk0_GREATEST : Tok}
    (cv0_GREATEST : PySem.W.findCls K (.ref C0) (.type "type") "GREATEST" = some (.val (.int 9 tk0_GREATEST)))
    {tk0_MOST_KINDS : Tok}
    (cv0_MOST_KINDS : PySem.W.findCls K (.ref C0) (.type "type") "MOST_KINDS" = some (.val (.int 4 tk0_MOST_KINDS)))
    (mo0 : PySem.W.mroIn K C0 (.type "object") = some true)
    (ne0 : PySem.W.findIn K (.ref C0) "__ne__" = some (some (.builtin "object.__ne__")))
    (mN0 : PySem.W.mroIn K C0 (.type "NoneType") = some false)
    (mI0 : PySem.W.mroIn K C0 (.type "int") = some false)
    (mT0 : PySem.W.mroIn K C0 (.type "tuple") = some false)
    (qa0 : PySem.W.findIn K (.ref C0) "__class__" = some (some (.builtin "object.__class__")))
    (qn0 : PySem.W.specialIn K (.builtin "object.__class__") "__get__" = some (some (.builtin "getset_descriptor.__get__")))
    (qt0 : PySem.W.takesIn K (.builtin "object.__class__") = some true)
    (kN0 : PySem.W.kitOne K (.type "NoneType") (.ref C0) = some false)
    (kI0 : PySem.W.kitOne K (.type "int") (.ref C0) = some false)
    (kT0 : PySem.W.kitOne K (.type "tuple") (.ref C0) = some false)
    (na0_vectors : PySem.W.findIn K (.ref C0) "vectors" = some none)
    (aC1 : PySem.W.nsIn K mainGlobals "State" = some (some (.ref C1)))
    (pg1 : PySem.W.plainGet K C1 Str.empty = true)
    (hd1 : PySem.W.hasDictIn K C1 = true)
    (po1 : PySem.W.plainOver K C1 = true)
    (sa1 : PySem.W.findIn K (.ref C1) "__setattr__" = some (some (.builtin "object.__setattr__")))
    (mk1 : PySem.W.makesIn K C1 = true)
    (kc1 : PySem.W.keepIn K (.ref C1) = true)
    (rd1 : PySem.W.readsIn K C1 (.type "type") = true)
    (gt1 : PySem.W.specialIn K (.ref C1) "__getattribute__" = some (some (.builtin "type.__getattribute__")))
    (na1_ground : PySem.W.findIn K (.ref C1) "ground" = some none)
    (na1_key : PySem.W.findIn K (.ref C1) "key" = some none)
    (na1_laid : PySem.W.findIn K (.ref C1) "laid" = some none)
    (na1_rows : PySem.W.findIn K (.ref C1) "rows" = some none)
    (na1_stand : PySem.W.findIn K (.ref C1) "stand" = some none)
    {E0 : Addr}
    {E1 : Addr}
    {E2 : Addr}
    {E3 : Addr}
    (eC0 : PySem.W.nsIn K mainGlobals "PlainError" = some (some (.ref E0)))
    (eC1 : PySem.W.nsIn K mainGlobals "InvalidPulls" = some (some (.ref E1)))
    (eC2 : PySem.W.nsIn K mainGlobals "InvalidState" = some (some (.ref E2)))
    (eC3 : PySem.W.nsIn K mainGlobals "InvalidDeed" = some (some (.ref E3)))
    (eqn : PySem.W.specialIn K (.builtin "object.__class__") "__get__" = some (some (.builtin "getset_descriptor.__get__")))
    (eqt : PySem.W.takesIn K (.builtin "object.__class__") = some true)
    (es0 : PySem.W.subIn K (.ref E0) (.type "BaseException") = some true)
    (et0 : PySem.W.typeIn K (.ref E0) = some (.type "type"))
    (ed0 : PySem.W.hasDictIn K E0 = true)
    (es1 : PySem.W.subIn K (.ref E1) (.type "BaseException") = some true)
    (et1 : PySem.W.typeIn K (.ref E1) = some (.type "type"))
    (ek1 : PySem.W.keepIn K (.ref E1) = true)
    (ex1 : PySem.W.excIn K E1 PySem.HandSPX.veTail "ValueError.__new__" = true)
    (ed1 : PySem.W.hasDictIn K E1 = true)
    (eg1 : PySem.W.findIn K (.ref E1) "__getattribute__" = some (some (.builtin "BaseException.__getattribute__")))
    (eh1 : PySem.W.findIn K (.ref E1) "__getattr__" = some none)
    (eq1 : PySem.W.findIn K (.ref E1) "__class__" = some (some (.builtin "object.__class__")))
    (eo1 : PySem.W.mroIn K E1 (.type "object") = some true)
    (es2 : PySem.W.subIn K (.ref E2) (.type "BaseException") = some true)
    (et2 : PySem.W.typeIn K (.ref E2) = some (.type "type"))
    (ek2 : PySem.W.keepIn K (.ref E2) = true)
    (ex2 : PySem.W.excIn K E2 PySem.HandSPX.veTail "ValueError.__new__" = true)
    (ed2 : PySem.W.hasDictIn K E2 = true)
    (eg2 : PySem.W.findIn K (.ref E2) "__getattribute__" = some (some (.builtin "BaseException.__getattribute__")))
    (eh2 : PySem.W.findIn K (.ref E2) "__getattr__" = some none)
    (eq2 : PySem.W.findIn K (.ref E2) "__class__" = some (some (.builtin "object.__class__")))
    (eo2 : PySem.W.mroIn K E2 (.type "object") = some true)
    (eu1_PlainError : PySem.W.subIn K (.ref E1) (.ref E0) = some true)
    (eu2_PlainError : PySem.W.subIn K (.ref E2) (.ref E0) = some true)
    (eu1_InvalidState : PySem.W.subIn K (.ref E1) (.ref E2) = some false)
    (eu2_InvalidState : PySem.W.subIn K (.ref E2) (.ref E2) = some true)
    (kX1_InvalidState : PySem.W.kitOne K (.ref E1) (.ref E2) = some false)
    (kX2_InvalidState : PySem.W.kitOne K (.ref E2) (.ref E2) = some true)
    (kX1_InvalidDeed : PySem.W.kitOne K (.ref E1) (.ref E3) = some false)
    (kX2_InvalidDeed : PySem.W.kitOne K (.ref E2) (.ref E3) = some false)
    (kX1_InvalidPulls : PySem.W.kitOne K (.ref E1) (.ref E1) = some true)
    (kX2_InvalidPulls : PySem.W.kitOne K (.ref E2) (.ref E1) = some false)
    (a0 : PySem.W.nsIn K mainGlobals "_law_pen" = some (some (.ref f0)))
    (l0 : K.lookup f0 = some ⟨oc0, od0, .func (PySem.W.fnOf "_law_pen" "_law_pen" (defArgs s_l_pen) (defBody s_l_pen) (defScope s_l_pen) .none kV0 dc0 pm0 an0 cd0 ct0), sl0⟩)
    (c0 : PySem.W.codeIn K cd0 "_law_pen" = true)
    (k0 : PySem.W.keepIn K (.ref f0) = true)
    (a1 : PySem.W.nsIn K mainGlobals "_law_draw" = some (some (.ref f1)))
    (l1 : K.lookup f1 = some ⟨oc1, od1, .func (PySem.W.fnOf "_law_draw" "_law_draw" (defArgs s_l_draw) (defBody s_l_draw) (defScope s_l_draw) .none kV1 dc1 pm1 an1 cd1 ct1), sl1⟩)
    (c1 : PySem.W.codeIn K cd1 "_law_draw" = true)
    (k1 : PySem.W.keepIn K (.ref f1) = true)
    (a2 : PySem.W.nsIn K mainGlobals "_law_pulls" = some (some (.ref f2)))
    (l2 : K.lookup f2 = some ⟨oc2, od2, .func (PySem.W.fnOf "_law_pulls" "_law_pulls" (defArgs s_l_pulls) (defBody s_l_pulls) (defScope s_l_pulls) .none kV2 dc2 pm2 an2 cd2 ct2), sl2⟩)
    (c2 : PySem.W.codeIn K cd2 "_law_pulls" = true)
    (k2 : PySem.W.keepIn K (.ref f2) = true)
    (a3 : PySem.W.nsIn K mainGlobals "is_integer" = some (some (.ref f3)))
    (l3 : K.lookup f3 = some ⟨oc3, od3, .func (PySem.W.fnOf "is_integer" "is_integer" (defArgs s_is_integer) (defBody s_is_integer) (defScope s_is_integer) .none kV3 dc3 pm3 an3 cd3 ct3), sl3⟩)
    (c3 : PySem.W.codeIn K cd3 "is_integer" = true)
    (k3 : PySem.W.keepIn K (.ref f3) = true)
    (a4 : PySem.W.nsIn K mainGlobals "is_pair" = some (some (.ref f4)))
    (l4 : K.lookup f4 = some ⟨oc4, od4, .func (PySem.W.fnOf "is_pair" "is_pair" (defArgs s_is_pair) (defBody s_is_pair) (defScope s_is_pair) .none kV4 dc4 pm4 an4 cd4 ct4), sl4⟩)
    (c4 : PySem.W.codeIn K cd4 "is_pair" = true)
    (k4 : PySem.W.keepIn K (.ref f4) = true)
    (a5 : PySem.W.nsIn K mainGlobals "is_pull" = some (some (.ref f5)))
    (l5 : K.lookup f5 = some ⟨oc5, od5, .func (PySem.W.fnOf "is_pull" "is_pull" (defArgs s_is_pull) (defBody s_is_pull) (defScope s_is_pull) .none kV5 dc5 pm5 an5 cd5 ct5), sl5⟩)
    (c5 : PySem.W.codeIn K cd5 "is_pull" = true)
    (k5 : PySem.W.keepIn K (.ref f5) = true)
    (a6 : PySem.W.findIn K (.ref C0) "__init__" = some (some (.ref f6)))
    (i6 : PySem.W.isFn K (.ref f6) = true)
    (l6 : K.lookup f6 = some ⟨oc6, od6, .func (PySem.W.fnOf "__init__" "Field.__init__" (defArgs s_Field___init__) (defBody s_Field___init__) (defScope s_Field___init__) .none kV6 dc6 pm6 an6 cd6 ct6), sl6⟩)
    (c6 : PySem.W.codeIn K cd6 "Field.__init__" = true)
    (k6 : PySem.W.keepIn K (.ref f6) = true)
    (a7 : PySem.W.nsIn K mainGlobals "_law_field" = some (some (.ref f7)))
    (l7 : K.lookup f7 = some ⟨oc7, od7, .func (PySem.W.fnOf "_law_field" "_law_field" (defArgs s_l_field) (defBody s_l_field) (defScope s_l_field) .none kV7 dc7 pm7 an7 cd7 ct7), sl7⟩)
    (c7 : PySem.W.codeIn K cd7 "_law_field" = true)
    (k7 : PySem.W.keepIn K (.ref f7) = true)
    (a8 : PySem.W.nsIn K mainGlobals "_law_place" = some (some (.ref f8)))
    (l8 : K.lookup f8 = some ⟨oc8, od8, .func (PySem.W.fnOf "_law_place" "_law_place" (defArgs s_l_place) (defBody s_l_place) (defScope s_l_place) .none kV8 dc8 pm8 an8 cd8 ct8), sl8⟩)
    (c8 : PySem.W.codeIn K cd8 "_law_place" = true)
    (k8 : PySem.W.keepIn K (.ref f8) = true)
    (a9 : PySem.W.nsIn K mainGlobals "_law_counts" = some (some (.ref f9)))
    (l9 : K.lookup f9 = some ⟨oc9, od9, .func (PySem.W.fnOf "_law_counts" "_law_counts" (defArgs s_l_counts) (defBody s_l_counts) (defScope s_l_counts) .none kV9 dc9 pm9 an9 cd9 ct9), sl9⟩)
    (c9 : PySem.W.codeIn K cd9 "_law_counts" = true)
    (k9 : PySem.W.keepIn K (.ref f9) = true)
    (a10 : PySem.W.nsIn K mainGlobals "_law_laid" = some (some (.ref f10)))
    (l10 : K.lookup f10 = some ⟨oc10, od10, .func (PySem.W.fnOf "_law_laid" "_law_laid" (defArgs s_l_laid) (defBody s_l_laid) (defScope s_l_laid) .none kV10 dc10 pm10 an10 cd10 ct10), sl10⟩)
    (c10 : PySem.W.codeIn K cd10 "_law_laid" = true)
    (k10 : PySem.W.keepIn K (.ref f10) = true)
    (a11 : PySem.W.nsIn K mainGlobals "_law_odd" = some (some (.ref f11)))
    (l11 : K.lookup f11 = some ⟨oc11, od11, .func (PySem.W.fnOf "_law_odd" "_law_odd" (defArgs s_l_odd) (defBody s_l_odd) (defScope s_l_odd) .none kV11 dc11 pm11 an11 cd11 ct11), sl11⟩)
    (c11 : PySem.W.codeIn K cd11 "_law_odd" = true)
    (k11 : PySem.W.keepIn K (.ref f11) = true)
    (a12 : PySem.W.nsIn K mainGlobals "_law_spoiled" = some (some (.ref f12)))
    (l12 : K.lookup f12 = some ⟨oc12, od12, .func (PySem.W.fnOf "_law_spoiled" "_law_spoiled" (defArgs s_l_spoiled) (defBody s_l_spoiled) (defScope s_l_spoiled) .none kV12 dc12 pm12 an12 cd12 ct12), sl12⟩)
    (c12 : PySem.W.codeIn K cd12 "_law_spoiled" = true)
    (k12 : PySem.W.keepIn K (.ref f12) = true)
    (a13 : PySem.W.nsIn K mainGlobals "_law_is_pair" = some (some (.ref f13)))
    (l13 : K.lookup f13 = some ⟨oc13, od13, .func (PySem.W.fnOf "_law_is_pair" "_law_is_pair" (defArgs s_l_is_pair) (defBody s_l_is_pair) (defScope s_l_is_pair) .none kV13 dc13 pm13 an13 cd13 ct13), sl13⟩)
    (c13 : PySem.W.codeIn K cd13 "_law_is_pair" = true)
    (k13 : PySem.W.keepIn K (.ref f13) = true)
    (a14 : PySem.W.nsIn K mainGlobals "_law_is_row" = some (some (.ref f14)))
    (l14 : K.lookup f14 = some ⟨oc14, od14, .func (PySem.W.fnOf "_law_is_row" "_law_is_row" (defArgs s_l_is_row) (defBody s_l_is_row) (defScope s_l_is_row) .none kV14 dc14 pm14 an14 cd14 ct14), sl14⟩)
    (c14 : PySem.W.codeIn K cd14 "_law_is_row" = true)
    (k14 : PySem.W.keepIn K (.ref f14) = true)
    (a15 : PySem.W.nsIn K mainGlobals "_law_fits" = some (some (.ref f15)))
    (l15 : K.lookup f15 = some ⟨oc15, od15, .func (PySem.W.fnOf "_law_fits" "_law_fits" (defArgs s_l_fits) (defBody s_l_fits) (defScope s_l_fits) .none kV15 dc15 pm15 an15 cd15 ct15), sl15⟩)
    (c15 : PySem.W.codeIn K cd15 "_law_fits" = true)
    (k15 : PySem.W.keepIn K (.ref f15) = true)
    (a16 : PySem.W.findIn K (.ref C0) "kinds" = some (some (.ref q16)))
    (g16 : PySem.W.specialIn K (.ref q16) "__get__" = some (some (.builtin "property.__get__")))
    (t16 : PySem.W.takesIn K (.ref q16) = some true)
    (r16 : PySem.W.recIn K q16 "property" = some (.ref f16 :: rr16))
    (l16 : K.lookup f16 = some ⟨oc16, od16, .func (PySem.W.fnOf "kinds" "Field.kinds" (defArgs s_Field_kinds) (defBody s_Field_kinds) (defScope s_Field_kinds) .none kV16 dc16 pm16 an16 cd16 ct16), sl16⟩)
    (c16 : PySem.W.codeIn K cd16 "Field.kinds" = true)
    (k16 : PySem.W.keepIn K (.ref f16) = true)
    (a17 : PySem.W.nsIn K mainGlobals "are_counts" = some (some (.ref f17)))
    (l17 : K.lookup f17 = some ⟨oc17, od17, .func (PySem.W.fnOf "are_counts" "are_counts" (defArgs s_are_counts) (defBody s_are_counts) (defScope s_are_counts) .none kV17 dc17 pm17 an17 cd17 ct17), sl17⟩)
    (c17 : PySem.W.codeIn K cd17 "are_counts" = true)
    (k17 : PySem.W.keepIn K (.ref f17) = true)
    (a18 : PySem.W.nsIn K mainGlobals "is_piece" = some (some (.ref f18)))
    (l18 : K.lookup f18 = some ⟨oc18, od18, .func (PySem.W.fnOf "is_piece" "is_piece" (defArgs s_is_piece) (defBody s_is_piece) (defScope s_is_piece) .none kV18 dc18 pm18 an18 cd18 ct18), sl18⟩)
    (c18 : PySem.W.codeIn K cd18 "is_piece" = true)
    (k18 : PySem.W.keepIn K (.ref f18) = true)
    (a19 : PySem.W.nsIn K mainGlobals "are_pieces" = some (some (.ref f19)))
    (l19 : K.lookup f19 = some ⟨oc19, od19, .func (PySem.W.fnOf "are_pieces" "are_pieces" (defArgs s_are_pieces) (defBody s_are_pieces) (defScope s_are_pieces) .none kV19 dc19 pm19 an19 cd19 ct19), sl19⟩)
    (c19 : PySem.W.codeIn K cd19 "are_pieces" = true)
    (k19 : PySem.W.keepIn K (.ref f19) = true)
    (a20 : PySem.W.nsIn K mainGlobals "added" = some (some (.ref f20)))
    (l20 : K.lookup f20 = some ⟨oc20, od20, .func (PySem.W.fnOf "added" "added" (defArgs s_added) (defBody s_added) (defScope s_added) .none kV20 dc20 pm20 an20 cd20 ct20), sl20⟩)
    (c20 : PySem.W.codeIn K cd20 "added" = true)
    (k20 : PySem.W.keepIn K (.ref f20) = true)
    (a21 : PySem.W.nsIn K mainGlobals "merged" = some (some (.ref f21)))
    (l21 : K.lookup f21 = some ⟨oc21, od21, .func (PySem.W.fnOf "merged" "merged" (defArgs s_merged) (defBody s_merged) (defScope s_merged) .none kV21 dc21 pm21 an21 cd21 ct21), sl21⟩)
    (c21 : PySem.W.codeIn K cd21 "merged" = true)
    (k21 : PySem.W.keepIn K (.ref f21) = true)
    (a22 : PySem.W.findIn K (.ref C1) "__init__" = some (some (.ref f22)))
    (i22 : PySem.W.isFn K (.ref f22) = true)
    (l22 : K.lookup f22 = some ⟨oc22, od22, .func (PySem.W.fnOf "__init__" "State.__init__" (defArgs s_State___init__) (defBody s_State___init__) (defScope s_State___init__) .none kV22 dc22 pm22 an22 cd22 ct22), sl22⟩)
    (c22 : PySem.W.codeIn K cd22 "State.__init__" = true)
    (k22 : PySem.W.keepIn K (.ref f22) = true)
    (w23 : PySem.W.findCls K (.ref C1) (.type "type") "of" = some (.get (.builtin "classmethod.__get__") (.ref q23) .none (.ref C1)))
    (r23 : PySem.W.recIn K q23 "classmethod" = some (.ref f23 :: rr23))
    (n23 : PySem.W.fnIn K f23 = true)
    (l23 : K.lookup f23 = some ⟨oc23, od23, .func (PySem.W.fnOf "of" "State.of" (defArgs s_State_of) (defBody s_State_of) (defScope s_State_of) .none kV23 dc23 pm23 an23 cd23 ct23), sl23⟩)
    (c23 : PySem.W.codeIn K cd23 "State.of" = true)
    (k23 : PySem.W.keepIn K (.ref f23) = true)
    (a24 : PySem.W.findIn K (.ref C0) "__eq__" = some (some (.ref f24)))
    (i24 : PySem.W.isFn K (.ref f24) = true)
    (l24 : K.lookup f24 = some ⟨oc24, od24, .func (PySem.W.fnOf "__eq__" "Field.__eq__" (defArgs s_Field___eq__) (defBody s_Field___eq__) (defScope s_Field___eq__) .none kV24 dc24 pm24 an24 cd24 ct24), sl24⟩)
    (c24 : PySem.W.codeIn K cd24 "Field.__eq__" = true)
    (k24 : PySem.W.keepIn K (.ref f24) = true)
    (a25 : PySem.W.findIn K (.ref C1) "field" = some (some (.ref q25)))
    (g25 : PySem.W.specialIn K (.ref q25) "__get__" = some (some (.builtin "property.__get__")))
    (t25 : PySem.W.takesIn K (.ref q25) = some true)
    (r25 : PySem.W.recIn K q25 "property" = some (.ref f25 :: rr25))
    (l25 : K.lookup f25 = some ⟨oc25, od25, .func (PySem.W.fnOf "field" "State.field" (defArgs s_State_field) (defBody s_State_field) (defScope s_State_field) .none kV25 dc25 pm25 an25 cd25 ct25), sl25⟩)
    (c25 : PySem.W.codeIn K cd25 "State.field" = true)
    (k25 : PySem.W.keepIn K (.ref f25) = true)
    (a26 : PySem.W.findIn K (.ref C1) "parts" = some (some (.ref q26)))
    (g26 : PySem.W.specialIn K (.ref q26) "__get__" = some (some (.builtin "property.__get__")))
    (t26 : PySem.W.takesIn K (.ref q26) = some true)
    (r26 : PySem.W.recIn K q26 "property" = some (.ref f26 :: rr26))
    (l26 : K.lookup f26 = some ⟨oc26, od26, .func (PySem.W.fnOf "parts" "State.parts" (defArgs s_State_parts) (defBody s_State_parts) (defScope s_State_parts) .none kV26 dc26 pm26 an26 cd26 ct26), sl26⟩)
    (c26 : PySem.W.codeIn K cd26 "State.parts" = true)
    (k26 : PySem.W.keepIn K (.ref f26) = true)
    (a27 : PySem.W.nsIn K mainGlobals "_law_told" = some (some (.ref f27)))
    (l27 : K.lookup f27 = some ⟨oc27, od27, .func (PySem.W.fnOf "_law_told" "_law_told" (defArgs s_l_told) (defBody s_l_told) (defScope s_l_told) .none kV27 dc27 pm27 an27 cd27 ct27), sl27⟩)
    (c27 : PySem.W.codeIn K cd27 "_law_told" = true)
    (k27 : PySem.W.keepIn K (.ref f27) = true)
    (a28 : PySem.W.nsIn K mainGlobals "_law_put" = some (some (.ref f28)))
    (l28 : K.lookup f28 = some ⟨oc28, od28, .func (PySem.W.fnOf "_law_put" "_law_put" (defArgs s_l_put) (defBody s_l_put) (defScope s_l_put) .none kV28 dc28 pm28 an28 cd28 ct28), sl28⟩)
    (c28 : PySem.W.codeIn K cd28 "_law_put" = true)
    (k28 : PySem.W.keepIn K (.ref f28) = true)
    (a29 : PySem.W.nsIn K mainGlobals "law" = some (some (.ref f29)))
    (l29 : K.lookup f29 = some ⟨oc29, od29, .func (PySem.W.fnOf "law" "law" (defArgs s_law) (defBody s_law) (defScope s_law) .none kV29 dc29 pm29 an29 cd29 ct29), sl29⟩)
    (c29 : PySem.W.codeIn K cd29 "law" = true)
    (k29 : PySem.W.keepIn K (.ref f29) = true)
    (z_abs : PySem.W.nsIn K mainGlobals "abs" = some none)
    (z_all : PySem.W.nsIn K mainGlobals "all" = some none)
    (z_any : PySem.W.nsIn K mainGlobals "any" = some none)
    (z_bool : PySem.W.nsIn K mainGlobals "bool" = some none)
    (z_int : PySem.W.nsIn K mainGlobals "int" = some none)
    (z_isinstance : PySem.W.nsIn K mainGlobals "isinstance" = some none)
    (z_len : PySem.W.nsIn K mainGlobals "len" = some none)
    (z_list : PySem.W.nsIn K mainGlobals "list" = some none)
    (z_max : PySem.W.nsIn K mainGlobals "max" = some none)
    (z_range : PySem.W.nsIn K mainGlobals "range" = some none)
    (z_repr : PySem.W.nsIn K mainGlobals "repr" = some none)
    (z_sorted : PySem.W.nsIn K mainGlobals "sorted" = some none)
    (z_tuple : PySem.W.nsIn K mainGlobals "tuple" = some none)
    (z_zip : PySem.W.nsIn K mainGlobals "zip" = some none)
    (hlaw : ∀ ns : List Int, ns.length ≤ 63 → G_law [some (.slst (ns.map D.int))] (fun d _ => d = .bl true) fun _ _ => False) :
    ∀ base : Heap, K.In base → base.Ns mainGlobals mg → FnG l.prog w K mg base 9 fa (spLaw K) := by
  have e := hfa.symm.trans (PySem.W.mg_of X G a29)
  cases e
  have F0 := funG_mk (st := s_l_pen) l0 c0 k0
  have b0 := binds_none (K := K) (ps := ["_law_script"]) (fd := PySem.W.fnOf "_law_pen" "_law_pen" (defArgs s_l_pen) (defBody s_l_pen) (defScope s_l_pen) .none kV0 dc0 pm0 an0 cd0 ct0) fun us hl => match us, hl with | [_], _ => rfl
  have F1 := funG_mk (st := s_l_draw) l1 c1 k1
  have b1 := binds_none (K := K) (ps := ["_law_pen_here", "_law_many"]) (fd := PySem.W.fnOf "_law_draw" "_law_draw" (defArgs s_l_draw) (defBody s_l_draw) (defScope s_l_draw) .none kV1 dc1 pm1 an1 cd1 ct1) fun us hl => match us, hl with | [_, _], _ => rfl
  have F2 := funG_mk (st := s_l_pulls) l2 c2 k2
  have b2 := binds_none (K := K) (ps := ["_law_pen_here", "_law_most"]) (fd := PySem.W.fnOf "_law_pulls" "_law_pulls" (defArgs s_l_pulls) (defBody s_l_pulls) (defScope s_l_pulls) .none kV2 dc2 pm2 an2 cd2 ct2) fun us hl => match us, hl with | [_, _], _ => rfl
  have F3 := funG_mk (st := s_is_integer) l3 c3 k3
  have b3 := binds_none (K := K) (ps := ["value"]) (fd := PySem.W.fnOf "is_integer" "is_integer" (defArgs s_is_integer) (defBody s_is_integer) (defScope s_is_integer) .none kV3 dc3 pm3 an3 cd3 ct3) fun us hl => match us, hl with | [_], _ => rfl
  have F4 := funG_mk (st := s_is_pair) l4 c4 k4
  have b4 := binds_none (K := K) (ps := ["value"]) (fd := PySem.W.fnOf "is_pair" "is_pair" (defArgs s_is_pair) (defBody s_is_pair) (defScope s_is_pair) .none kV4 dc4 pm4 an4 cd4 ct4) fun us hl => match us, hl with | [_], _ => rfl
  have F5 := funG_mk (st := s_is_pull) l5 c5 k5
  have b5 := binds_none (K := K) (ps := ["value"]) (fd := PySem.W.fnOf "is_pull" "is_pull" (defArgs s_is_pull) (defBody s_is_pull) (defScope s_is_pull) .none kV5 dc5 pm5 an5 cd5 ct5) fun us hl => match us, hl with | [_], _ => rfl
  have F6 := funG_mk (st := s_Field___init__) l6 c6 k6
  have b6 : ∀ us rest : List Value, us.length = (["self"] : List Str).length → bindArgs (PySem.W.fnOf "__init__" "Field.__init__" (defArgs s_Field___init__) (defBody s_Field___init__) (defScope s_Field___init__) .none kV6 dc6 pm6 an6 cd6 ct6) ⟨us ++ rest, []⟩ = (newTuple rest >>= fun t => pure (List.zip (["self"] : List Str) us ++ [(("pulls" : Str), t)])) := fun us rest hl => match us, rest, hl with | [_], [], _ => rfl | [_], _ :: _, _ => rfl
  have F7 := funG_mk (st := s_l_field) l7 c7 k7
  have b7 := binds_none (K := K) (ps := ["_law_pulls_here"]) (fd := PySem.W.fnOf "_law_field" "_law_field" (defArgs s_l_field) (defBody s_l_field) (defScope s_l_field) .none kV7 dc7 pm7 an7 cd7 ct7) fun us hl => match us, hl with | [_], _ => rfl
  have F8 := funG_mk (st := s_l_place) l8 c8 k8
  have b8 := binds_none (K := K) (ps := ["_law_pen_here", "_law_wide"]) (fd := PySem.W.fnOf "_law_place" "_law_place" (defArgs s_l_place) (defBody s_l_place) (defScope s_l_place) .none kV8 dc8 pm8 an8 cd8 ct8) fun us hl => match us, hl with | [_, _], _ => rfl
  have F9 := funG_mk (st := s_l_counts) l9 c9 k9
  have b9 := binds_none (K := K) (ps := ["_law_pen_here", "_law_many", "_law_most"]) (fd := PySem.W.fnOf "_law_counts" "_law_counts" (defArgs s_l_counts) (defBody s_l_counts) (defScope s_l_counts) .none kV9 dc9 pm9 an9 cd9 ct9) fun us hl => match us, hl with | [_, _, _], _ => rfl
  have F10 := funG_mk (st := s_l_laid) l10 c10 k10
  have b10 := binds_none (K := K) (ps := ["_law_pieces"]) (fd := PySem.W.fnOf "_law_laid" "_law_laid" (defArgs s_l_laid) (defBody s_l_laid) (defScope s_l_laid) .none kV10 dc10 pm10 an10 cd10 ct10) fun us hl => match us, hl with | [_], _ => rfl
  have F11 := funG_mk (st := s_l_odd) l11 c11 k11
  have b11 := binds_none (K := K) (ps := ["_law_pen_here"]) (fd := PySem.W.fnOf "_law_odd" "_law_odd" (defArgs s_l_odd) (defBody s_l_odd) (defScope s_l_odd) .none kV11 dc11 pm11 an11 cd11 ct11) fun us hl => match us, hl with | [_], _ => rfl
  have F12 := funG_mk (st := s_l_spoiled) l12 c12 k12
  have b12 := binds_none (K := K) (ps := ["_law_pen_here", "_law_spot", "_law_rows"]) (fd := PySem.W.fnOf "_law_spoiled" "_law_spoiled" (defArgs s_l_spoiled) (defBody s_l_spoiled) (defScope s_l_spoiled) .none kV12 dc12 pm12 an12 cd12 ct12) fun us hl => match us, hl with | [_, _, _], _ => rfl
  have F13 := funG_mk (st := s_l_is_pair) l13 c13 k13
  have b13 := binds_none (K := K) (ps := ["_law_thing"]) (fd := PySem.W.fnOf "_law_is_pair" "_law_is_pair" (defArgs s_l_is_pair) (defBody s_l_is_pair) (defScope s_l_is_pair) .none kV13 dc13 pm13 an13 cd13 ct13) fun us hl => match us, hl with | [_], _ => rfl
  have F14 := funG_mk (st := s_l_is_row) l14 c14 k14
  have b14 := binds_none (K := K) (ps := ["_law_row", "_law_kinds"]) (fd := PySem.W.fnOf "_law_is_row" "_law_is_row" (defArgs s_l_is_row) (defBody s_l_is_row) (defScope s_l_is_row) .none kV14 dc14 pm14 an14 cd14 ct14) fun us hl => match us, hl with | [_, _], _ => rfl
  have F15 := funG_mk (st := s_l_fits) l15 c15 k15
  have b15 := binds_none (K := K) (ps := ["_law_thing", "_law_kinds"]) (fd := PySem.W.fnOf "_law_fits" "_law_fits" (defArgs s_l_fits) (defBody s_l_fits) (defScope s_l_fits) .none kV15 dc15 pm15 an15 cd15 ct15) fun us hl => match us, hl with | [_, _], _ => rfl
  have F16 := funG_mk (st := s_Field_kinds) l16 c16 k16
  have b16 := binds_none (K := K) (ps := ["self"]) (fd := PySem.W.fnOf "kinds" "Field.kinds" (defArgs s_Field_kinds) (defBody s_Field_kinds) (defScope s_Field_kinds) .none kV16 dc16 pm16 an16 cd16 ct16) fun us hl => match us, hl with | [_], _ => rfl
  have F17 := funG_mk (st := s_are_counts) l17 c17 k17
  have b17 := binds_none (K := K) (ps := ["field", "value"]) (fd := PySem.W.fnOf "are_counts" "are_counts" (defArgs s_are_counts) (defBody s_are_counts) (defScope s_are_counts) .none kV17 dc17 pm17 an17 cd17 ct17) fun us hl => match us, hl with | [_, _], _ => rfl
  have F18 := funG_mk (st := s_is_piece) l18 c18 k18
  have b18 := binds_none (K := K) (ps := ["field", "value"]) (fd := PySem.W.fnOf "is_piece" "is_piece" (defArgs s_is_piece) (defBody s_is_piece) (defScope s_is_piece) .none kV18 dc18 pm18 an18 cd18 ct18) fun us hl => match us, hl with | [_, _], _ => rfl
  have F19 := funG_mk (st := s_are_pieces) l19 c19 k19
  have b19 := binds_none (K := K) (ps := ["field", "value"]) (fd := PySem.W.fnOf "are_pieces" "are_pieces" (defArgs s_are_pieces) (defBody s_are_pieces) (defScope s_are_pieces) .none kV19 dc19 pm19 an19 cd19 ct19) fun us hl => match us, hl with | [_, _], _ => rfl
  have F20 := funG_mk (st := s_added) l20 c20 k20
  have b20 := binds_none (K := K) (ps := ["one", "other"]) (fd := PySem.W.fnOf "added" "added" (defArgs s_added) (defBody s_added) (defScope s_added) .none kV20 dc20 pm20 an20 cd20 ct20) fun us hl => match us, hl with | [_, _], _ => rfl
  have F21 := funG_mk (st := s_merged) l21 c21 k21
  have b21 := binds_none (K := K) (ps := ["pieces"]) (fd := PySem.W.fnOf "merged" "merged" (defArgs s_merged) (defBody s_merged) (defScope s_merged) .none kV21 dc21 pm21 an21 cd21 ct21) fun us hl => match us, hl with | [_], _ => rfl
  have F22 := funG_mk (st := s_State___init__) l22 c22 k22
  have b22 : ∀ us rest : List Value, us.length = (["self", "field", "position"] : List Str).length → bindArgs (PySem.W.fnOf "__init__" "State.__init__" (defArgs s_State___init__) (defBody s_State___init__) (defScope s_State___init__) .none kV22 dc22 pm22 an22 cd22 ct22) ⟨us ++ rest, []⟩ = (newTuple rest >>= fun t => pure (List.zip (["self", "field", "position"] : List Str) us ++ [(("pieces" : Str), t)])) := fun us rest hl => match us, rest, hl with | [_, _, _], [], _ => rfl | [_, _, _], _ :: _, _ => rfl
  have F23 := funG_mk (st := s_State_of) l23 c23 k23
  have b23 := binds_none (K := K) (ps := ["cls", "field", "parts"]) (fd := PySem.W.fnOf "of" "State.of" (defArgs s_State_of) (defBody s_State_of) (defScope s_State_of) .none kV23 dc23 pm23 an23 cd23 ct23) fun us hl => match us, hl with | [_, _, _], _ => rfl
  have F24 := funG_mk (st := s_Field___eq__) l24 c24 k24
  have b24 := binds_none (K := K) (ps := ["self", "other"]) (fd := PySem.W.fnOf "__eq__" "Field.__eq__" (defArgs s_Field___eq__) (defBody s_Field___eq__) (defScope s_Field___eq__) .none kV24 dc24 pm24 an24 cd24 ct24) fun us hl => match us, hl with | [_, _], _ => rfl
  have F25 := funG_mk (st := s_State_field) l25 c25 k25
  have b25 := binds_none (K := K) (ps := ["self"]) (fd := PySem.W.fnOf "field" "State.field" (defArgs s_State_field) (defBody s_State_field) (defScope s_State_field) .none kV25 dc25 pm25 an25 cd25 ct25) fun us hl => match us, hl with | [_], _ => rfl
  have F26 := funG_mk (st := s_State_parts) l26 c26 k26
  have b26 := binds_none (K := K) (ps := ["self"]) (fd := PySem.W.fnOf "parts" "State.parts" (defArgs s_State_parts) (defBody s_State_parts) (defScope s_State_parts) .none kV26 dc26 pm26 an26 cd26 ct26) fun us hl => match us, hl with | [_], _ => rfl
  have F27 := funG_mk (st := s_l_told) l27 c27 k27
  have b27 := binds_none (K := K) (ps := ["_law_ground", "_law_thing"]) (fd := PySem.W.fnOf "_law_told" "_law_told" (defArgs s_l_told) (defBody s_l_told) (defScope s_l_told) .none kV27 dc27 pm27 an27 cd27 ct27) fun us hl => match us, hl with | [_, _], _ => rfl
  have F28 := funG_mk (st := s_l_put) l28 c28 k28
  have b28 := binds_none (K := K) (ps := ["_law_ground", "_law_spot", "_law_row"]) (fd := PySem.W.fnOf "_law_put" "_law_put" (defArgs s_l_put) (defBody s_l_put) (defScope s_l_put) .none kV28 dc28 pm28 an28 cd28 ct28) fun us hl => match us, hl with | [_, _, _], _ => rfl
  have F29 := funG_mk (st := s_law) l29 c29 k29
  have b29 := binds_none (K := K) (ps := ["_law_script"]) (fd := PySem.W.fnOf "law" "law" (defArgs s_law) (defBody s_law) (defScope s_law) .none kV29 dc29 pm29 an29 cd29 ct29) fun us hl => match us, hl with | [_], _ => rfl
  have T : Tx K mg := ⟨C0, aC0, ⟨pg0, hd0, po0, sa0⟩, PySem.W.mg_of X G aC0, ⟨rd0, gt0⟩, _, ⟨cv0_GREATEST, ⟨_, rfl⟩⟩, _, ⟨cv0_MOST_KINDS, ⟨_, rfl⟩⟩, ⟨fun _ _ _ _ e => .base (.ins e ⟨pg0, hd0, po0, sa0⟩ qa0 qn0 qt0 mo0), kN0, kI0, kT0⟩, na0_vectors, C1, aC1, ⟨pg1, hd1, po1, sa1⟩, PySem.W.mg_of X G aC1, ⟨rd1, gt1⟩, na1_ground, na1_key, na1_laid, na1_rows, na1_stand, E0, eC0, PySem.W.mg_of X G eC0, E1, eC1, PySem.W.mg_of X G eC1, E2, eC2, PySem.W.mg_of X G eC2, E3, eC3, PySem.W.mg_of X G eC3, ⟨⟨eC1, PySem.W.mg_of X G eC1, ek1, es1, et1⟩, ex1⟩, ⟨⟨eC2, PySem.W.mg_of X G eC2, ek2, es2, et2⟩, ex2⟩, ⟨eg1, eh1, es1, ed1, eq1, eqn, eqt, eo1⟩, ⟨eg2, eh2, es2, ed2, eq2, eqn, eqt, eo2⟩, (ts_cons eC1 (PySem.W.exm_ref es0 ed0 et0 eu1_PlainError) (ts_cons eC2 (PySem.W.exm_ref es0 ed0 et0 eu2_PlainError) ts_nil)), (ts_cons eC1 (PySem.W.exm_ref es2 ed2 et2 eu1_InvalidState) (ts_cons eC2 (PySem.W.exm_ref es2 ed2 et2 eu2_InvalidState) ts_nil)), (ts_cons eC1 ⟨⟨eg1, eh1, es1, ed1, eq1, eqn, eqt, eo1⟩, kX1_InvalidState⟩ (ts_cons eC2 ⟨⟨eg2, eh2, es2, ed2, eq2, eqn, eqt, eo2⟩, kX2_InvalidState⟩ ts_nil)), (ts_cons eC1 ⟨⟨eg1, eh1, es1, ed1, eq1, eqn, eqt, eo1⟩, (kitAny_cons kX1_InvalidDeed (fun h => (kitAny_cons kX1_InvalidPulls (fun h => by cases h) (fun h => rfl))) (fun h => by cases h))⟩ (ts_cons eC2 ⟨⟨eg2, eh2, es2, ed2, eq2, eqn, eqt, eo2⟩, (kitAny_cons kX2_InvalidDeed (fun h => (kitAny_cons kX2_InvalidPulls (fun h => kitAny_nil) (fun h => by cases h))) (fun h => by cases h))⟩ ts_nil)), f0, _, F0, b0, PySem.W.mg_of X G a0, k0, f1, _, F1, b1, PySem.W.mg_of X G a1, k1, f2, _, F2, b2, PySem.W.mg_of X G a2, k2, f3, _, F3, b3, PySem.W.mg_of X G a3, k3, f4, _, F4, b4, PySem.W.mg_of X G a4, k4, f5, _, F5, b5, PySem.W.mg_of X G a5, k5, f6, _, F6, b6, ⟨mk0, a6, i6, kc0⟩, f7, _, F7, b7, PySem.W.mg_of X G a7, k7, f8, _, F8, b8, PySem.W.mg_of X G a8, k8, f9, _, F9, b9, PySem.W.mg_of X G a9, k9, f10, _, F10, b10, PySem.W.mg_of X G a10, k10, f11, _, F11, b11, PySem.W.mg_of X G a11, k11, f12, _, F12, b12, PySem.W.mg_of X G a12, k12, f13, _, F13, b13, PySem.W.mg_of X G a13, k13, f14, _, F14, b14, PySem.W.mg_of X G a14, k14, f15, _, F15, b15, PySem.W.mg_of X G a15, k15, f16, _, F16, b16, q16, ⟨a16, g16, t16, _, r16⟩, f17, _, F17, b17, PySem.W.mg_of X G a17, k17, f18, _, F18, b18, PySem.W.mg_of X G a18, k18, f19, _, F19, b19, PySem.W.mg_of X G a19, k19, f20, _, F20, b20, PySem.W.mg_of X G a20, k20, f21, _, F21, b21, PySem.W.mg_of X G a21, k21, f22, _, F22, b22, ⟨mk1, a22, i22, kc1⟩, f23, _, F23, b23, q23, ⟨w23, ⟨_, r23⟩, n23⟩, f24, _, F24, b24, ⟨a24, i24, k24⟩, ⟨a24, i24, ne0, mo0, mN0, mI0, mT0⟩, f25, _, F25, b25, q25, ⟨a25, g25, t25, _, r25⟩, f26, _, F26, b26, q26, ⟨a26, g26, t26, _, r26⟩, f27, _, F27, b27, PySem.W.mg_of X G a27, k27, f28, _, F28, b28, PySem.W.mg_of X G a28, k28, PySem.W.mg_none_of X G z_abs, PySem.W.mg_none_of X G z_all, PySem.W.mg_none_of X G z_any, PySem.W.mg_none_of X G z_bool, PySem.W.mg_none_of X G z_int, PySem.W.mg_none_of X G z_isinstance, PySem.W.mg_none_of X G z_len, PySem.W.mg_none_of X G z_list, PySem.W.mg_none_of X G z_max, PySem.W.mg_none_of X G z_range, PySem.W.mg_none_of X G z_repr, PySem.W.mg_none_of X G z_sorted, PySem.W.mg_none_of X G z_tuple, PySem.W.mg_none_of X G z_zip⟩
  exact fun base _ _ => okG_law (ok_law T F29 b29) hlaw
theorem walk {l : PySem.W.OpenLaw} {q : Program} {loose : List Str} {XP : (Str → Option Value) → Heap → Prop} {YP : World → Heap → Prop} {d : DefRec} {K : Params → PySem.W.Frag} (hn : l.most = some 63) (hdf : d.params.defaults = []) (hY : ∀ (w : World) (h : Heap), YP w h → (K w.params).In h)
    (F : ∀ (w : World) (mg : Str → Option Value) (fa : Addr) (h : Heap), (K w.params).In h → h.Ns mainGlobals mg → mg d.name = some (.ref fa) → ∀ base : Heap, (K w.params).In base → base.Ns mainGlobals mg → FnG l.prog w (K w.params) mg base 9 fa (spLaw (K w.params))) :
    PySem.W.WalkO q loose XP YP l.row.toRowW d [] (fun f vs => PySem.call f vs) :=
  walk_ofG (n := 63) (k := 9) (sp := fun w => spLaw (K w.params)) hn (by decide) hdf ⟨rfl, by decide, by decide⟩ hY F fun _ _ a ns hl _ hS => ⟨a, ns, rfl, hS, hl, fun _ => rfl⟩
end LAW
open PySem PySem.W PyProof.Rows in
set_option maxRecDepth 100000 in
set_option maxHeartbeats 0 in
theorem PySem.Challenge.cw_pullplain_k04_states_of_parts_holds : PySem.Challenge.rw_pullplain_k04_states_of_parts.Holds := by
  w_on; o_law; k_head; (case hw => w_witness2)
  k_fill
  refine LAW.walk (l := PySem.Challenge.rw_pullplain_k04_states_of_parts) rfl rfl (fun w h Y => PySem.W.kIn_of Y) ?F
  case F =>
    intro w mg fa h KX G hmg
    refine' LAW.all_mk KX G hmg ?aC0 ?pg0 ?hd0 ?po0 ?sa0 ?mk0 ?kc0 ?rd0 ?gt0 ?cv0_GREATEST ?cv0_MOST_KINDS ?mo0 ?ne0 ?mN0 ?mI0 ?mT0 ?qa0 ?qn0 ?qt0 ?kN0 ?kI0 ?kT0 ?na0_vectors ?aC1 ?pg1 ?hd1 ?po1 ?sa1 ?mk1 ?kc1 ?rd1 ?gt1 ?na1_ground ?na1_key ?na1_laid ?na1_rows ?na1_stand ?eC0 ?eC1 ?eC2 ?eC3 ?eqn ?eqt ?es0 ?et0 ?ed0 ?es1 ?et1 ?ek1 ?ex1 ?ed1 ?eg1 ?eh1 ?eq1 ?eo1 ?es2 ?et2 ?ek2 ?ex2 ?ed2 ?eg2 ?eh2 ?eq2 ?eo2 ?eu1_PlainError ?eu2_PlainError ?eu1_InvalidState ?eu2_InvalidState ?kX1_InvalidState ?kX2_InvalidState ?kX1_InvalidDeed ?kX2_InvalidDeed ?kX1_InvalidPulls ?kX2_InvalidPulls ?a0 ?l0 ?c0 ?k0 ?a1 ?l1 ?c1 ?k1 ?a2 ?l2 ?c2 ?k2 ?a3 ?l3 ?c3 ?k3 ?a4 ?l4 ?c4 ?k4 ?a5 ?l5 ?c5 ?k5 ?a6 ?i6 ?l6 ?c6 ?k6 ?a7 ?l7 ?c7 ?k7 ?a8 ?l8 ?c8 ?k8 ?a9 ?l9 ?c9 ?k9 ?a10 ?l10 ?c10 ?k10 ?a11 ?l11 ?c11 ?k11 ?a12 ?l12 ?c12 ?k12 ?a13 ?l13 ?c13 ?k13 ?a14 ?l14 ?c14 ?k14 ?a15 ?l15 ?c15 ?k15 ?a16 ?g16 ?t16 ?r16 ?l16 ?c16 ?k16 ?a17 ?l17 ?c17 ?k17 ?a18 ?l18 ?c18 ?k18 ?a19 ?l19 ?c19 ?k19 ?a20 ?l20 ?c20 ?k20 ?a21 ?l21 ?c21 ?k21 ?a22 ?i22 ?l22 ?c22 ?k22 ?w23 ?r23 ?n23 ?l23 ?c23 ?k23 ?a24 ?i24 ?l24 ?c24 ?k24 ?a25 ?g25 ?t25 ?r25 ?l25 ?c25 ?k25 ?a26 ?g26 ?t26 ?r26 ?l26 ?c26 ?k26 ?a27 ?l27 ?c27 ?k27 ?a28 ?l28 ?c28 ?k28 ?a29 ?l29 ?c29 ?k29 ?z_abs ?z_all ?z_any ?z_bool ?z_int ?z_isinstance ?z_len ?z_list ?z_max ?z_range ?z_repr ?z_sorted ?z_tuple ?z_zip LAW.law_ok
    (case aC0 => k_is)
    (case pg0 => k_is)
    (case hd0 => k_is)
    (case po0 => k_is)
    (case sa0 => k_is)
    (case mk0 => k_is)
    (case kc0 => k_is)
    (case rd0 => k_is)
    (case gt0 => k_is)
    (case cv0_GREATEST => k_is)
    (case cv0_MOST_KINDS => k_is)
    (case mo0 => k_is)
    (case ne0 => k_is)
    (case mN0 => k_is)
    (case mI0 => k_is)
    (case mT0 => k_is)
    (case qa0 => k_is)
    (case qn0 => k_is)
    (case qt0 => k_is)
    (case kN0 => kit_is)
    (case kI0 => kit_is)
    (case kT0 => kit_is)
    (case na0_vectors => k_is)
    (case aC1 => k_is)
    (case pg1 => k_is)
    (case hd1 => k_is)
    (case po1 => k_is)
    (case sa1 => k_is)
    (case mk1 => k_is)
    (case kc1 => k_is)
    (case rd1 => k_is)
    (case gt1 => k_is)
    (case na1_ground => k_is)
    (case na1_key => k_is)
    (case na1_laid => k_is)
    (case na1_rows => k_is)
    (case na1_stand => k_is)
    (case eC0 => k_is)
    (case eC1 => k_is)
    (case eC2 => k_is)
    (case eC3 => k_is)
    (case eqn => k_is)
    (case eqt => k_is)
    (case es0 => k_is)
    (case et0 => k_is)
    (case ed0 => k_is)
    (case es1 => k_is)
    (case et1 => k_is)
    (case ek1 => k_is)
    (case ex1 => k_exc)
    (case ed1 => k_is)
    (case eg1 => k_is)
    (case eh1 => k_is)
    (case eq1 => k_is)
    (case eo1 => k_is)
    (case es2 => k_is)
    (case et2 => k_is)
    (case ek2 => k_is)
    (case ex2 => k_exc)
    (case ed2 => k_is)
    (case eg2 => k_is)
    (case eh2 => k_is)
    (case eq2 => k_is)
    (case eo2 => k_is)
    (case eu1_PlainError => k_is)
    (case eu2_PlainError => k_is)
    (case eu1_InvalidState => k_is)
    (case eu2_InvalidState => k_is)
    (case kX1_InvalidState => kit_is)
    (case kX2_InvalidState => kit_is)
    (case kX1_InvalidDeed => kit_is)
    (case kX2_InvalidDeed => kit_is)
    (case kX1_InvalidPulls => kit_is)
    (case kX2_InvalidPulls => kit_is)
    (case a0 => k_is)
    (case l0 => k_is)
    (case c0 => k_is)
    (case k0 => k_is)
    (case a1 => k_is)
    (case l1 => k_is)
    (case c1 => k_is)
    (case k1 => k_is)
    (case a2 => k_is)
    (case l2 => k_is)
    (case c2 => k_is)
    (case k2 => k_is)
    (case a3 => k_is)
    (case l3 => k_is)
    (case c3 => k_is)
    (case k3 => k_is)
    (case a4 => k_is)
    (case l4 => k_is)
    (case c4 => k_is)
    (case k4 => k_is)
    (case a5 => k_is)
    (case l5 => k_is)
    (case c5 => k_is)
    (case k5 => k_is)
    (case a6 => k_is)
    (case i6 => k_is)
    (case l6 => k_is)
    (case c6 => k_is)
    (case k6 => k_is)
    (case a7 => k_is)
    (case l7 => k_is)
    (case c7 => k_is)
    (case k7 => k_is)
    (case a8 => k_is)
    (case l8 => k_is)
    (case c8 => k_is)
    (case k8 => k_is)
    (case a9 => k_is)
    (case l9 => k_is)
    (case c9 => k_is)
    (case k9 => k_is)
    (case a10 => k_is)
    (case l10 => k_is)
    (case c10 => k_is)
    (case k10 => k_is)
    (case a11 => k_is)
    (case l11 => k_is)
    (case c11 => k_is)
    (case k11 => k_is)
    (case a12 => k_is)
    (case l12 => k_is)
    (case c12 => k_is)
    (case k12 => k_is)
    (case a13 => k_is)
    (case l13 => k_is)
    (case c13 => k_is)
    (case k13 => k_is)
    (case a14 => k_is)
    (case l14 => k_is)
    (case c14 => k_is)
    (case k14 => k_is)
    (case a15 => k_is)
    (case l15 => k_is)
    (case c15 => k_is)
    (case k15 => k_is)
    (case a16 => k_is)
    (case g16 => k_is)
    (case t16 => k_is)
    (case r16 => k_is)
    (case l16 => k_is)
    (case c16 => k_is)
    (case k16 => k_is)
    (case a17 => k_is)
    (case l17 => k_is)
    (case c17 => k_is)
    (case k17 => k_is)
    (case a18 => k_is)
    (case l18 => k_is)
    (case c18 => k_is)
    (case k18 => k_is)
    (case a19 => k_is)
    (case l19 => k_is)
    (case c19 => k_is)
    (case k19 => k_is)
    (case a20 => k_is)
    (case l20 => k_is)
    (case c20 => k_is)
    (case k20 => k_is)
    (case a21 => k_is)
    (case l21 => k_is)
    (case c21 => k_is)
    (case k21 => k_is)
    (case a22 => k_is)
    (case i22 => k_is)
    (case l22 => k_is)
    (case c22 => k_is)
    (case k22 => k_is)
    (case w23 => k_is)
    (case r23 => k_is)
    (case n23 => k_is)
    (case l23 => k_is)
    (case c23 => k_is)
    (case k23 => k_is)
    (case a24 => k_is)
    (case i24 => k_is)
    (case l24 => k_is)
    (case c24 => k_is)
    (case k24 => k_is)
    (case a25 => k_is)
    (case g25 => k_is)
    (case t25 => k_is)
    (case r25 => k_is)
    (case l25 => k_is)
    (case c25 => k_is)
    (case k25 => k_is)
    (case a26 => k_is)
    (case g26 => k_is)
    (case t26 => k_is)
    (case r26 => k_is)
    (case l26 => k_is)
    (case c26 => k_is)
    (case k26 => k_is)
    (case a27 => k_is)
    (case l27 => k_is)
    (case c27 => k_is)
    (case k27 => k_is)
    (case a28 => k_is)
    (case l28 => k_is)
    (case c28 => k_is)
    (case k28 => k_is)
    (case a29 => k_is)
    (case l29 => k_is)
    (case c29 => k_is)
    (case k29 => k_is)
    (case z_abs => k_is)
    (case z_all => k_is)
    (case z_any => k_is)
    (case z_bool => k_is)
    (case z_int => k_is)
    (case z_isinstance => k_is)
    (case z_len => k_is)
    (case z_list => k_is)
    (case z_max => k_is)
    (case z_range => k_is)
    (case z_repr => k_is)
    (case z_sorted => k_is)
    (case z_tuple => k_is)
    (case z_zip => k_is)
