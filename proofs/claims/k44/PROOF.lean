import PyProof.Rows.All
import HandS.Base
import HandS.Call
import HandS.List
import HandS.Comp
import HandS.Dict
import HandS.Exc
import HandS.Wide
import HandS.TupLe
import HandS.TupAny
import HandS.IsInst
import HandS.Deep
import HandS.TupMul
import HandS.TupLen
import HandS.WordsDict
import HandS.Text
import HandS.ForExc
import HandS.Small
import HandS.Ends
import HandS.RaiseMore
import HandS.More
import HandS.Star
import HandS.Property
import OpenK.KMeth
import HandS.ClsMeth
import HandS.OwnEq
import HandS.WordsExc
import HandS.ForMost
import Wide.FinOn
import KE.RegKIsAll
import PySem.Challenge.RW_pullplain_k44_whole_one_lattice_by_many
set_option Elab.async false
set_option linter.all false
set_option maxRecDepth 100000
set_option maxHeartbeats 4000000
/-! DL0: data over the abstract heap: D, Is, the environment's invariant EnvOk, how it is carried. -/
namespace DL
open PySem L2

/-- the class of that name -/
def IsCl (K : PySem.W.Frag) (n : Str) (C : Addr) : Prop := PySem.W.nsIn K mainGlobals n = some (some (.ref C))
theorem IsCl.eq {K : PySem.W.Frag} {n : Str} {C C' : Addr} (h : IsCl K n C) (h' : IsCl K n C') : C = C' := by
  unfold IsCl at h h'
  rw [h] at h'
  cases h'; rfl
/-- plain data -/
inductive D where
  | non | bl (b : Bool) | int (i : Int) | str (s : Str) | ty (n : String) | fn (a : Addr)
  | tup (ds : List D) | lst (ds : List D)
  /-- a tuple of the module's own, the script: read only -/
  | ktp (ds : List D) | slst (ds : List D)
  | dk (kvs : List (Key × D)) | dt (kvs : List (List Key × D))
  | obj (C : Str) (fs : List (Str × D))

mutual
/-- the value v stands for the data d, read in H -/
inductive Is (K : PySem.W.Frag) (H : Hp) : V → D → Prop
  | non : Is K H .non .non
  | bl (b : Bool) : Is K H (.bl b) (.bl b)
  | int (i : Int) : Is K H (.int i) (.int i)
  | str (s : Str) : Is K H (.str s) (.str s)
  | ty (n : String) : Is K H (.ty n) (.ty n)
  | fn (a : Addr) : Is K H (.ref a) (.fn a)
  | tup {a : Addr} {vs : List V} {ds : List D} : H a = some (.tup vs) → IsL K H vs ds → Is K H (.ref a) (.tup ds)
  | lst {a : Addr} {vs : List V} {ds : List D} : H a = some (.lst vs) → IsL K H vs ds → Is K H (.ref a) (.lst ds)
  | ktp {a : Addr} {vs : List V} {ds : List D} : SqT K H a vs → IsL K H vs ds → Is K H (.ref a) (.ktp ds)
  | slst {a : Addr} {vs : List V} {ds : List D} : SqL K H a vs → IsL K H vs ds → Is K H (.ref a) (.slst ds)
  | dk {a : Addr} {vs : List (Key × V)} {kvs : List (Key × D)} : H a = some (.dK vs) → vs.map (·.1) = kvs.map (·.1) → IsL K H (vs.map (·.2)) (kvs.map (·.2)) → Is K H (.ref a) (.dk kvs)
  | dt {a : Addr} {vs : List (List Key × V)} {kvs : List (List Key × D)} : H a = some (.dT vs) → vs.map (·.1) = kvs.map (·.1) → IsL K H (vs.map (·.2)) (kvs.map (·.2)) → Is K H (.ref a) (.dt kvs)
  | obj {a C dx : Addr} {n : Str} {vs : List (Str × V)} {fs : List (Str × D)} : IsCl K n C → H a = some (.ins C dx vs) → vs.map (·.1) = fs.map (·.1) → IsL K H (vs.map (·.2)) (fs.map (·.2)) → Is K H (.ref a) (.obj n fs)
inductive IsL (K : PySem.W.Frag) (H : Hp) : List V → List D → Prop
  | nil : IsL K H [] []
  | cons {v : V} {d : D} {vs : List V} {ds : List D} : Is K H v d → IsL K H vs ds → IsL K H (v :: vs) (d :: ds)
end

def Sub (H H' : Hp) : Prop := ∀ a o, H a = some o → H' a = some o
theorem Sub.refl (H : Hp) : Sub H H := fun _ _ h => h
theorem Sub.trans {H H1 H2 : Hp} (a : Sub H H1) (b : Sub H1 H2) : Sub H H2 := fun x o h => b x o (a x o h)
theorem Sub.new {H : Hp} {p : Addr} {o : HO} (h : H p = none) : Sub H (upd H p o) := fun a u e => by
  rw [upd_ne (ne_of_none e h)]; exact e
theorem Sub.rd {H H' : Hp} {a : Addr} {u : HO} (s : Sub H H') (h : Rd H a u) : Rd H' a u := by
  rcases h with h | ⟨o, h⟩
  · exact .inl (s _ _ h)
  · exact .inr ⟨o, s _ _ h⟩
theorem Sub.sqL {K : PySem.W.Frag} {H H' : Hp} {a : Addr} {xs : List V} (s : Sub H H') (h : SqL K H a xs) : SqL K H' a xs := by
  rcases h with h | h
  · exact .inl (s.rd h)
  · exact .inr h
theorem Sub.sqT {K : PySem.W.Frag} {H H' : Hp} {a : Addr} {xs : List V} (s : Sub H H') (h : SqT K H a xs) : SqT K H' a xs := by
  rcases h with h | h
  · exact .inl (s.rd h)
  · exact .inr h
theorem Sub.none {H H' : Hp} (s : Sub H H') {p : Addr} (h : H' p = none) : H p = none := by
  cases e : H p with
  | none => rfl
  | some o => rw [s p o e] at h; cases h

mutual
theorem Is.mono {K : PySem.W.Frag} {H H' : Hp} (s : Sub H H') : ∀ {v : V} {d : D}, Is K H v d → Is K H' v d
  | _, _, .non => .non
  | _, _, .bl b => .bl b
  | _, _, .int i => .int i
  | _, _, .str x => .str x
  | _, _, .ty n => .ty n
  | _, _, .fn a => .fn a
  | _, _, .tup h l => .tup (s _ _ h) (IsL.mono s l)
  | _, _, .lst h l => .lst (s _ _ h) (IsL.mono s l)
  | _, _, .ktp h l => .ktp (s.sqT h) (IsL.mono s l)
  | _, _, .slst h l => .slst (s.sqL h) (IsL.mono s l)
  | _, _, .dk h e l => .dk (s _ _ h) e (IsL.mono s l)
  | _, _, .dt h e l => .dt (s _ _ h) e (IsL.mono s l)
  | _, _, .obj c h e l => .obj c (s _ _ h) e (IsL.mono s l)
theorem IsL.mono {K : PySem.W.Frag} {H H' : Hp} (s : Sub H H') : ∀ {vs : List V} {ds : List D}, IsL K H vs ds → IsL K H' vs ds
  | _, _, .nil => .nil
  | _, _, .cons a l => .cons (Is.mono s a) (IsL.mono s l)
end
section
variable {K : PySem.W.Frag} {H : Hp}
theorem IsL.length : ∀ {vs : List V} {ds : List D}, IsL K H vs ds → vs.length = ds.length
  | _, _, .nil => rfl
  | _, _, .cons _ l => congrArg (· + 1) (IsL.length l)
theorem IsL.get : ∀ {vs : List V} {ds : List D} {i : Nat} {d : D}, IsL K H vs ds → ds[i]? = some d → ∃ v, vs[i]? = some v ∧ Is K H v d
  | _, _, _, _, .nil, e => by simp at e
  | _, _, 0, _, .cons a l, e => by simp at e; subst e; exact ⟨_, rfl, a⟩
  | _, _, i + 1, _, .cons a l, e => by
    obtain ⟨v, h1, h2⟩ := IsL.get (i := i) l (by simpa using e)
    exact ⟨v, by simpa using h1, h2⟩
theorem IsL.getV : ∀ {vs : List V} {ds : List D} {i : Nat} {v : V}, IsL K H vs ds → vs[i]? = some v → ∃ d, ds[i]? = some d ∧ Is K H v d
  | _, _, _, _, .nil, e => by simp at e
  | _, _, 0, _, .cons a l, e => by simp at e; subst e; exact ⟨_, rfl, a⟩
  | _, _, i + 1, _, .cons a l, e => by
    obtain ⟨v, h1, h2⟩ := IsL.getV (i := i) l (by simpa using e)
    exact ⟨v, by simpa using h1, h2⟩
theorem IsL.append : ∀ {vs ws : List V} {ds es : List D}, IsL K H vs ds → IsL K H ws es → IsL K H (vs ++ ws) (ds ++ es)
  | _, _, _, _, .nil, l => l
  | _, _, _, _, .cons a l, m => .cons a (IsL.append l m)
theorem IsL.take : ∀ {vs : List V} {ds : List D} (n : Nat), IsL K H vs ds → IsL K H (vs.take n) (ds.take n)
  | _, _, 0, _ => .nil
  | _, _, _ + 1, .nil => .nil
  | _, _, n + 1, .cons a l => .cons a (IsL.take n l)
theorem IsL.drop : ∀ {vs : List V} {ds : List D} (n : Nat), IsL K H vs ds → IsL K H (vs.drop n) (ds.drop n)
  | _, _, 0, l => l
  | _, _, _ + 1, .nil => .nil
  | _, _, n + 1, .cons a l => IsL.drop n l
theorem IsL.reverse : ∀ {vs : List V} {ds : List D}, IsL K H vs ds → IsL K H vs.reverse ds.reverse
  | _, _, .nil => .nil
  | _, _, .cons a l => by rw [List.reverse_cons, List.reverse_cons]; exact IsL.append (IsL.reverse l) (.cons a .nil)
theorem IsL.set : ∀ {vs : List V} {ds : List D} {v : V} {d : D} (i : Nat), IsL K H vs ds → Is K H v d → IsL K H (vs.set i v) (ds.set i d)
  | _, _, _, _, _, .nil, _ => .nil
  | _, _, _, _, 0, .cons a l, b => .cons b l
  | _, _, _, _, i + 1, .cons a l, b => .cons a (IsL.set i l b)
theorem IsL.snoc {vs : List V} {ds : List D} {v : V} {d : D} (l : IsL K H vs ds) (a : Is K H v d) : IsL K H (vs ++ [v]) (ds ++ [d]) := l.append (.cons a .nil)
end

/-! ### environments of data -/
abbrev Env := List (Option D)
def get : Env → Nat → Option D
  | [], _ => none
  | x :: _, 0 => x
  | _ :: r, n + 1 => get r n
def put : Env → Nat → Option D → Env
  | [], _, _ => []
  | _ :: r, 0, d => d :: r
  | x :: r, n + 1, d => x :: put r n d
theorem put_length : ∀ (ρ : Env) (i : Nat) (d : Option D), (put ρ i d).length = ρ.length
  | [], _, _ => rfl
  | _ :: _, 0, _ => rfl
  | _ :: r, n + 1, d => congrArg (· + 1) (put_length r n d)
theorem get_put_ne : ∀ (ρ : Env) (i j : Nat) (d : Option D), i ≠ j → get (put ρ i d) j = get ρ j
  | [], _, _, _, _ => rfl
  | _ :: _, 0, 0, _, h => absurd rfl h
  | _ :: _, 0, _ + 1, _, _ => rfl
  | _ :: _, _ + 1, 0, _, _ => rfl
  | _ :: r, i + 1, j + 1, d, h => get_put_ne r i j d (fun e => h (congrArg (· + 1) e))
theorem get_put_same : ∀ (ρ : Env) (i : Nat) (d : Option D), i < ρ.length → get (put ρ i d) i = d
  | [], _, _, h => absurd h (by simp)
  | _ :: _, 0, _, _ => rfl
  | _ :: r, i + 1, d, h => get_put_same r i d (by simpa using h)
theorem get_lt : ∀ {ρ : Env} {i : Nat} {d : D}, get ρ i = some d → i < ρ.length
  | [], _, _, h => by simp [get] at h
  | _ :: _, 0, _, _ => by simp
  | _ :: r, i + 1, d, h => by have := get_lt (ρ := r) (i := i) (d := d) h; simp; omega
theorem get_put {ρ : Env} {i j : Nat} {d : Option D} {x : D} (h : get (put ρ i d) j = some x) : (j = i ∧ d = some x) ∨ (j ≠ i ∧ get ρ j = some x) := by
  by_cases e : i = j
  · subst e
    have hl : i < ρ.length := by have := get_lt h; rw [put_length] at this; exact this
    rw [get_put_same _ _ _ hl] at h
    exact .inl ⟨rfl, h⟩
  · rw [get_put_ne _ _ _ _ e] at h
    exact .inr ⟨fun q => e q.symm, h⟩

/-! ### a cell that one slot owns -/
def Cell (K : PySem.W.Frag) (Hb H : Hp) (p : Addr) : D → Prop
  | .lst ds => ∃ vs, H p = some (.lst vs) ∧ IsL K Hb vs ds
  | .dk kvs => ∃ vs : List (Key × V), H p = some (.dK vs) ∧ vs.map (·.1) = kvs.map (·.1) ∧ IsL K Hb (vs.map (·.2)) (kvs.map (·.2))
  | .dt kvs => ∃ vs : List (List Key × V), H p = some (.dT vs) ∧ vs.map (·.1) = kvs.map (·.1) ∧ IsL K Hb (vs.map (·.2)) (kvs.map (·.2))
  | .obj n fs => ∃ (C dx : Addr) (vs : List (Str × V)), IsCl K n C ∧ H p = some (.ins C dx vs) ∧ vs.map (·.1) = fs.map (·.1) ∧ IsL K Hb (vs.map (·.2)) (fs.map (·.2))
  | _ => False
theorem Cell.mono {K : PySem.W.Frag} {Hb Hb' H H' : Hp} {p : Addr} (s : Sub Hb Hb') (e : ∀ o, H p = some o → H' p = some o) : ∀ {d : D}, Cell K Hb H p d → Cell K Hb' H' p d
  | .lst _, ⟨vs, h, l⟩ => ⟨vs, e _ h, l.mono s⟩
  | .dk _, ⟨vs, h, k, l⟩ => ⟨vs, e _ h, k, l.mono s⟩
  | .dt _, ⟨vs, h, k, l⟩ => ⟨vs, e _ h, k, l.mono s⟩
  | .obj _ _, ⟨C, dx, vs, c, h, k, l⟩ => ⟨C, dx, vs, c, e _ h, k, l.mono s⟩
theorem Cell.some {K : PySem.W.Frag} {Hb H : Hp} {p : Addr} : ∀ {d : D}, Cell K Hb H p d → ∃ o, H p = Option.some o
  | .lst _, ⟨_, h, _⟩ => ⟨_, h⟩
  | .dk _, ⟨_, h, _⟩ => ⟨_, h⟩
  | .dt _, ⟨_, h, _⟩ => ⟨_, h⟩
  | .obj _ _, ⟨_, _, _, _, h, _⟩ => ⟨_, h⟩
/-- frozen: what a cell holds as plain data -/
theorem Cell.is {K : PySem.W.Frag} {Hb H : Hp} {p : Addr} (s : Sub Hb H) : ∀ {d : D}, Cell K Hb H p d → Is K H (.ref p) d
  | .lst _, ⟨_, h, l⟩ => .lst h (l.mono s)
  | .dk _, ⟨_, h, k, l⟩ => .dk h k (l.mono s)
  | .dt _, ⟨_, h, k, l⟩ => .dt h k (l.mono s)
  | .obj _ _, ⟨_, _, _, c, h, k, l⟩ => .obj c h k (l.mono s)

/-! ### the world at an entry; steps from it -/
structure Wd where
  Hb : Hp
  H : Hp
  ps : Nat → Addr → Prop
structure Stp (W : Wd) (Hb H : Hp) : Prop where
  hb : Sub W.Hb Hb
  fr : ∀ a o, W.H a = some o → (∀ i, ¬ W.ps i a) → H a = some o
  fs : ∀ a o, Hb a = some o → W.Hb a = some o ∨ W.H a = none
  al : ∀ a, H a = none → W.H a = none

structure EnvOk (K : PySem.W.Frag) (W : Wd) (P I : List Nat) (ρ : Env) (σ : St) (Hb H : Hp) : Prop where
  sub : Sub Hb H
  stp : Stp W Hb H
  len : σ.length = ρ.length
  val : ∀ i d, get ρ i = some d → i ∉ P → i ∉ I → ∃ v, σ[i]? = some (some v) ∧ Is K Hb v d
  cel : ∀ i d, (i ∈ P ∨ i ∈ I) → get ρ i = some d → ∃ p, σ[i]? = some (some (.ref p)) ∧ Hb p = none ∧ Cell K Hb H p d ∧ (i ∈ P → W.ps i p) ∧ (i ∈ I → W.H p = none)
  sep : ∀ i j p, (i ∈ P ∨ i ∈ I) → (j ∈ P ∨ j ∈ I) → get ρ i ≠ none → get ρ j ≠ none → σ[i]? = some (some (.ref p)) → σ[j]? = some (some (.ref p)) → i = j

section
variable {K : PySem.W.Frag} {W : Wd} {P I : List Nat} {ρ : Env} {σ : St} {Hb H : Hp}
theorem Stp.refl (Hb H : Hp) (ps : Nat → Addr → Prop) : Stp ⟨Hb, H, ps⟩ Hb H := ⟨Sub.refl _, fun _ _ h _ => h, fun _ _ h => .inl h, fun _ h => h⟩

/-- the owned addresses as they stand -/
def owned (P I : List Nat) (ρ : Env) (σ : St) : Nat → Addr → Prop := fun i p => (i ∈ P ∨ i ∈ I) ∧ get ρ i ≠ none ∧ σ[i]? = some (some (.ref p))
/-- the world as it stands here: all owned cells are lent -/
def here (P I : List Nat) (ρ : Env) (σ : St) (Hb H : Hp) : Wd := ⟨Hb, H, owned P I ρ σ⟩
theorem EnvOk.lent (E : EnvOk K W P I ρ σ Hb H) : EnvOk K (here P I ρ σ Hb H) (P ++ I) [] ρ σ Hb H where
  sub := E.sub
  stp := Stp.refl _ _ _
  len := E.len
  val := fun i d h n _ => E.val i d h (fun q => n (List.mem_append_left _ q)) fun q => n (List.mem_append_right _ q)
  cel := fun i d h g => by
    have hi : i ∈ P ∨ i ∈ I := by
      rcases h with h | h
      · exact List.mem_append.mp h
      · cases h
    obtain ⟨p, e, n, c, _, _⟩ := E.cel i d hi g
    exact ⟨p, e, n, c, fun _ => ⟨hi, by rw [g]; simp, e⟩, fun q => by cases q⟩
  sep := fun i j p hi hj => E.sep i j p (by simpa using hi) (by simpa using hj)
/-- two steps -/
theorem Stp.trans {W : Wd} {Hb1 H1 Hb2 H2 : Hp} {ps : Nat → Addr → Prop} (a : Stp W Hb1 H1) (b : Stp ⟨Hb1, H1, ps⟩ Hb2 H2) (hps : ∀ i p, ps i p → (∃ j, W.ps j p) ∨ W.H p = none) : Stp W Hb2 H2 where
  hb := a.hb.trans b.hb
  fr := fun x o h n => b.fr x o (a.fr x o h n) fun i q => by
    rcases hps i x q with ⟨j, r⟩ | r
    · exact n j r
    · rw [h] at r; cases r
  fs := fun x o h => by
    rcases b.fs x o h with q | q
    · exact a.fs x o q
    · exact .inr (a.al x q)
  al := fun x h => a.al x (b.al x h)
theorem EnvOk.ownedW (E : EnvOk K W P I ρ σ Hb H) : ∀ i p, owned P I ρ σ i p → (∃ j, W.ps j p) ∨ W.H p = none := fun i p ⟨hi, g, e⟩ => by
  cases q : get ρ i with
  | none => exact absurd q g
  | some d =>
    obtain ⟨p', e', _, _, h1, h2⟩ := E.cel i d hi q
    rw [e] at e'; cases e'
    rcases hi with hi | hi
    · exact .inl ⟨i, h1 hi⟩
    · exact .inr (h2 hi)
/-- back from the lent world: nothing was assigned (the slots are as they were) -/
theorem EnvOk.back {ρ' : Env} {Hb' H' : Hp} (E : EnvOk K W P I ρ σ Hb H) (E' : EnvOk K (here P I ρ σ Hb H) (P ++ I) [] ρ' σ Hb' H') : EnvOk K W P I ρ' σ Hb' H' where
  sub := E'.sub
  stp := E.stp.trans E'.stp E.ownedW
  len := E'.len
  val := fun i d h n m => E'.val i d h (fun q => (List.mem_append.mp q).elim n m) (by simp)
  cel := fun i d h g => by
    obtain ⟨p, e, n, c, h1, _⟩ := E'.cel i d (.inl (List.mem_append.mpr h)) g
    obtain ⟨_, g0, _⟩ := h1 (List.mem_append.mpr h)
    refine ⟨p, e, n, c, fun hi => ?_, fun hi => ?_⟩
    · cases q : get ρ i with
      | none => exact absurd q g0
      | some d0 =>
        obtain ⟨p', e', _, _, k1, _⟩ := E.cel i d0 (.inl hi) q
        rw [e] at e'; cases e'
        exact k1 hi
    · cases q : get ρ i with
      | none => exact absurd q g0
      | some d0 =>
        obtain ⟨p', e', _, _, _, k2⟩ := E.cel i d0 (.inr hi) q
        rw [e] at e'; cases e'
        exact k2 hi
  sep := fun i j p hi hj => E'.sep i j p (.inl (List.mem_append.mpr hi)) (.inl (List.mem_append.mpr hj))

/-- a new frozen object -/
theorem EnvOk.alloc {p : Addr} {o : HO} (E : EnvOk K W P I ρ σ Hb H) (h : H p = none) : EnvOk K W P I ρ σ (upd Hb p o) (upd H p o) := by
  have hb : Hb p = none := E.sub.none h
  have sb : Sub Hb (upd Hb p o) := Sub.new hb
  refine ⟨fun a u e => ?_, ⟨E.stp.hb.trans sb, fun a u e n => Sub.new h _ _ (E.stp.fr a u e n), fun a u e => ?_, fun a e => ?_⟩, E.len, fun i d g n m => ?_, fun i d hi g => ?_, E.sep⟩
  · by_cases ha : a = p
    · subst ha; rw [upd_same] at e ⊢; exact e
    · rw [upd_ne ha] at e ⊢; exact E.sub a u e
  · by_cases ha : a = p
    · subst ha; exact .inr (E.stp.al a h)
    · rw [upd_ne ha] at e; exact E.stp.fs a u e
  · by_cases ha : a = p
    · subst ha; rw [upd_same] at e; cases e
    · rw [upd_ne ha] at e; exact E.stp.al a e
  · obtain ⟨v, e, q⟩ := E.val i d g n m
    exact ⟨v, e, q.mono sb⟩
  · obtain ⟨q, e, n, c, h1, h2⟩ := E.cel i d hi g
    obtain ⟨u, hu⟩ := c.some
    have nqp : q ≠ p := ne_of_none hu h
    exact ⟨q, e, by rw [upd_ne nqp]; exact n, c.mono sb fun u e => by rw [upd_ne nqp]; exact e, h1, h2⟩
/-- the heap may know more (a new object that nothing here speaks of) -/
theorem EnvOk.more {p : Addr} {o : HO} (E : EnvOk K W P I ρ σ Hb H) (h : H p = none) : EnvOk K W P I ρ σ Hb (upd H p o) := by
  refine ⟨E.sub.trans (Sub.new h), ⟨E.stp.hb, fun a u e n => Sub.new h _ _ (E.stp.fr a u e n), E.stp.fs, fun a e => ?_⟩, E.len, E.val, fun i d hi g => ?_, E.sep⟩
  · by_cases ha : a = p
    · subst ha; rw [upd_same] at e; cases e
    · rw [upd_ne ha] at e; exact E.stp.al a e
  · obtain ⟨q, e, n, c, h1, h2⟩ := E.cel i d hi g
    exact ⟨q, e, n, c.mono (Sub.refl _) fun u e => Sub.new h _ _ e, h1, h2⟩
end
end DL

/-! DL1: the judgements over data; names, constants, operators, tests, displays, subscripts. -/
namespace DL
open PySem L2

/-- an own exception: its class, its fields -/
structure Exc where
  C : Str
  fs : List (Str × D)
abbrev Post := D → Env → Prop
abbrev XP := Exc → Env → Prop
abbrev FE := Env → Post → XP → Prop
abbrev FT := Env → (Bool → Env → Prop) → XP → Prop
abbrev FA := Env → (List D → Env → Prop) → XP → Prop
abbrev G1 := D → (D → Prop) → Prop
abbrev G2 := D → D → (D → Prop) → Prop
abbrev GN := List D → (D → Prop) → Prop

def XIs (K : PySem.W.Frag) (Hb : Hp) (cls : Value) (dx : Option Addr) (c : Exc) : Prop :=
  (∃ C, IsCl K c.C C ∧ cls = .ref C) ∧ ((c.fs = [] ∧ dx = none) ∨ ∃ (d : Addr) (vs : List (Str × V)), dx = some d ∧ Hb d = some (.xd vs) ∧ vs.map (·.1) = c.fs.map (·.1) ∧ IsL K Hb (vs.map (·.2)) (c.fs.map (·.2)))
/-- what is wanted of an exception follows -/
def XOk (X : Cx) (Wx : WX) (W : Wd) (P : List Nat) (σ : St) (xp : XP) : Prop :=
  ∀ c ρ' cls dx Hb' H', xp c ρ' → EnvOk X.K W P [] ρ' σ Hb' H' → XIs X.K Hb' cls dx c → Wx cls dx σ H'

/-- an expression over data: from I (the slots that own their cells) to J -/
structure DE (X : Cx) (Wx : WX) (P I : List Nat) (e : Expr) (t : TE) (F : FE) (J : List Nat) : Prop where
  pe : PE X e t
  ev : ∀ (W : Wd) (ρ : Env) (σ : St) (Hb H : Hp) (Q : VK) (post : Post) (xp : XP), EnvOk X.K W P I ρ σ Hb H → F ρ post xp → XOk X Wx W P σ xp →
    (∀ d ρ' v Hb' H', post d ρ' → EnvOk X.K W P J ρ' σ Hb' H' → Sub Hb Hb' → Is X.K Hb' v d → Q v H') → t σ H Q
/-- a test -/
structure DT (X : Cx) (Wx : WX) (P I : List Nat) (e : Expr) (t : TT) (F : FT) (J : List Nat) : Prop where
  pe : PT X e t
  ev : ∀ (W : Wd) (ρ : Env) (σ : St) (Hb H : Hp) (Q : Bool → Hp → Prop) (post : Bool → Env → Prop) (xp : XP), EnvOk X.K W P I ρ σ Hb H → F ρ post xp → XOk X Wx W P σ xp →
    (∀ b ρ' Hb' H', post b ρ' → EnvOk X.K W P J ρ' σ Hb' H' → Sub Hb Hb' → Q b H') → t σ H Q
/-- a part of and, or -/
structure DW (X : Cx) (Wx : WX) (P I : List Nat) (e : Expr) (t : TT) (F : FT) (J : List Nat) : Prop where
  pe : PW X e t
  ev : ∀ (W : Wd) (ρ : Env) (σ : St) (Hb H : Hp) (Q : Bool → Hp → Prop) (post : Bool → Env → Prop) (xp : XP), EnvOk X.K W P I ρ σ Hb H → F ρ post xp → XOk X Wx W P σ xp →
    (∀ b ρ' Hb' H', post b ρ' → EnvOk X.K W P J ρ' σ Hb' H' → Sub Hb Hb' → Q b H') → t σ H Q
/-- arguments -/
structure DA (X : Cx) (Wx : WX) (P I : List Nat) (es : List Expr) (t : TA) (F : FA) (J : List Nat) : Prop where
  pe : PA X es t
  ev : ∀ (W : Wd) (ρ : Env) (σ : St) (Hb H : Hp) (Q : List V → Hp → Prop) (post : List D → Env → Prop) (xp : XP), EnvOk X.K W P I ρ σ Hb H → F ρ post xp → XOk X Wx W P σ xp →
    (∀ ds ρ' vs Hb' H', post ds ρ' → EnvOk X.K W P J ρ' σ Hb' H' → Sub Hb Hb' → IsL X.K Hb' vs ds → Q vs H') → t σ H Q
/-- an expression whose value may be a cell that a slot owns: it is only looked at -/
structure DEo (X : Cx) (Wx : WX) (P I : List Nat) (e : Expr) (t : TE) (F : FE) (J : List Nat) : Prop where
  pe : PE X e t
  ev : ∀ (W : Wd) (ρ : Env) (σ : St) (Hb H : Hp) (Q : VK) (post : Post) (xp : XP), EnvOk X.K W P I ρ σ Hb H → F ρ post xp → XOk X Wx W P σ xp →
    (∀ d ρ' v Hb' H', post d ρ' → EnvOk X.K W P J ρ' σ Hb' H' → Sub Hb Hb' → (Is X.K Hb' v d ∨ ∃ p, v = .ref p ∧ Cell X.K Hb' H' p d) → Q v H') → t σ H Q
structure DAo (X : Cx) (Wx : WX) (P I : List Nat) (es : List Expr) (t : TA) (F : FA) (J : List Nat) : Prop where
  pe : PA X es t
  ev : ∀ (W : Wd) (ρ : Env) (σ : St) (Hb H : Hp) (Q : List V → Hp → Prop) (post : List D → Env → Prop) (xp : XP), EnvOk X.K W P I ρ σ Hb H → F ρ post xp → XOk X Wx W P σ xp →
    (∀ ds ρ' vs Hb' H', post ds ρ' → EnvOk X.K W P J ρ' σ Hb' H' → Sub Hb Hb' → Paired (fun v d => Is X.K Hb' v d ∨ ∃ p, v = .ref p ∧ Cell X.K Hb' H' p d) vs ds → Q vs H') → t σ H Q

/-! ### heaps that grow by frozen objects -/
inductive Grow (Hb H : Hp) : Hp → Hp → Prop
  | refl : Grow Hb H Hb H
  | step {Hb' H' : Hp} {p : Addr} {o : HO} : Grow Hb H Hb' H' → H' p = none → Grow Hb H (upd Hb' p o) (upd H' p o)
theorem Grow.one {Hb H : Hp} {p : Addr} {o : HO} (h : H p = none) : Grow Hb H (upd Hb p o) (upd H p o) := .step .refl h
theorem Grow.env {K : PySem.W.Frag} {W : Wd} {P I : List Nat} {ρ : Env} {σ : St} {Hb H Hb' H' : Hp} (E : EnvOk K W P I ρ σ Hb H) (g : Grow Hb H Hb' H') : EnvOk K W P I ρ σ Hb' H' ∧ Sub Hb Hb' := by
  induction g with
  | refl => exact ⟨E, Sub.refl _⟩
  | step g h ih => exact ⟨ih.1.alloc h, ih.2.trans (Sub.new (ih.1.sub.none h))⟩

/-- a value whose parts are frozen: data, or a cell that stands -/
def IsO (K : PySem.W.Frag) (Hb H : Hp) (v : V) (d : D) : Prop := Is K Hb v d ∨ ∃ p, v = .ref p ∧ Cell K Hb H p d
theorem IsO.is {K : PySem.W.Frag} {Hb H : Hp} {v : V} {d : D} (h : IsO K Hb H v d) (s : Sub Hb H) : Is K H v d := by
  rcases h with h | ⟨p, rfl, c⟩
  · exact h.mono s
  · exact c.is s
abbrev IsOL (K : PySem.W.Frag) (Hb H : Hp) : List V → List D → Prop := Paired (IsO K Hb H)
theorem IsL.o {K : PySem.W.Frag} {Hb H : Hp} : ∀ {vs : List V} {ds : List D}, IsL K Hb vs ds → IsOL K Hb H vs ds
  | _, _, .nil => .nil
  | _, _, .cons a l => .cons (.inl a) (IsL.o l)
/-- operations on values, over data -/
def RV1 (K : PySem.W.Frag) (r : V → Hp → VK → Prop) (G : G1) : Prop := ∀ (Hb H : Hp) (x : V) (dx : D) (k : D → Prop) (Q : VK), Sub Hb H → IsO K Hb H x dx → G dx k →
  (∀ v d Hb' H', k d → Grow Hb H Hb' H' → Is K Hb' v d → Q v H') → r x H Q
def RV2 (K : PySem.W.Frag) (r : R2) (G : G2) : Prop := ∀ (Hb H : Hp) (x y : V) (dx dy : D) (k : D → Prop) (Q : VK), Sub Hb H → IsO K Hb H x dx → IsO K Hb H y dy → G dx dy k →
  (∀ v d Hb' H', k d → Grow Hb H Hb' H' → Is K Hb' v d → Q v H') → r x y H Q
def RVN (K : PySem.W.Frag) (r : List V → Hp → VK → Prop) (G : GN) : Prop := ∀ (Hb H : Hp) (xs : List V) (ds : List D) (k : D → Prop) (Q : VK), Sub Hb H → IsOL K Hb H xs ds → G ds k →
  (∀ v d Hb' H', k d → Grow Hb H Hb' H' → Is K Hb' v d → Q v H') → r xs H Q
theorem RV2.or {K : PySem.W.Frag} {r r' : R2} {g g' : G2} (h : RV2 K r g) (h' : RV2 K r' g') : RV2 K (fun x y H Q => r x y H Q ∨ r' x y H Q) (fun x y k => g x y k ∨ g' x y k) :=
  fun Hb H x y dx dy k Q s ix iy g q => g.elim (fun g => .inl (h Hb H x y dx dy k Q s ix iy g q)) fun g => .inr (h' Hb H x y dx dy k Q s ix iy g q)
theorem RV2.imp {K : PySem.W.Frag} {r : R2} {g g' : G2} (h : RV2 K r g) (i : ∀ x y k, g' x y k → g x y k) : RV2 K r g' :=
  fun Hb H x y dx dy k Q s ix iy g q => h Hb H x y dx dy k Q s ix iy (i _ _ _ g) q
theorem RVN.or {K : PySem.W.Frag} {r r' : List V → Hp → VK → Prop} {g g' : GN} (h : RVN K r g) (h' : RVN K r' g') : RVN K (fun xs H Q => r xs H Q ∨ r' xs H Q) (fun xs k => g xs k ∨ g' xs k) :=
  fun Hb H xs ds k Q s l g q => g.elim (fun g => .inl (h Hb H xs ds k Q s l g q)) fun g => .inr (h' Hb H xs ds k Q s l g q)
theorem RVN.imp {K : PySem.W.Frag} {r : List V → Hp → VK → Prop} {g g' : GN} (h : RVN K r g) (i : ∀ x k, g' x k → g x k) : RVN K r g' :=
  fun Hb H xs ds k Q s l g q => h Hb H xs ds k Q s l (i _ _ g) q

/-! ### data-level readings -/
@[simp ↓] def fVar (i : Nat) : FE := fun ρ post _ => match get ρ i with
  | some d => post d ρ
  | none => False
@[simp ↓] def fC (d : D) : FE := fun ρ post _ => post d ρ
@[simp ↓] def fUn (G : G1) (a : FE) : FE := fun ρ post xp => a ρ (fun x ρ1 => G x fun z => post z ρ1) xp
@[simp ↓] def fBin (G : G2) (a b : FE) : FE := fun ρ post xp => a ρ (fun x ρ1 => b ρ1 (fun y ρ2 => G x y fun z => post z ρ2) xp) xp
/-- the left operand a slot's own cell, looked at once the right one is known -/
@[simp ↓] def fBinL (G : G2) (i : Nat) (b : FE) : FE := fun ρ post xp => (match get ρ i with
    | some _ => True
    | none => False) ∧ b ρ (fun y ρ1 => match get ρ1 i with
    | some x => G x y fun z => post z ρ1
    | none => False) xp
@[simp ↓] def fNil : FA := fun ρ post _ => post [] ρ
@[simp ↓] def fCons (a : FE) (b : FA) : FA := fun ρ post xp => a ρ (fun x ρ1 => b ρ1 (fun xs ρ2 => post (x :: xs) ρ2) xp) xp
@[simp ↓] def fN (G : GN) (a : FA) : FE := fun ρ post xp => a ρ (fun xs ρ1 => G xs fun z => post z ρ1) xp
def fTup (a : FA) : FE := fun ρ post xp => a ρ (fun xs ρ1 => post (.tup xs) ρ1) xp
def fLst (a : FA) : FE := fun ρ post xp => a ρ (fun xs ρ1 => post (.lst xs) ρ1) xp
/-- a value that is True or False -/
@[simp ↓] def gB (d : D) (k : Bool → Prop) : Prop := match d with
  | .bl b => k b
  | _ => False
@[simp ↓] def fTest (a : FE) : FT := fun ρ post xp => a ρ (fun x ρ1 => gB x fun b => post b ρ1) xp
@[simp ↓] def fAnd (a b : FT) : FT := fun ρ post xp => a ρ (fun c ρ1 => if c = true then b ρ1 post xp else post false ρ1) xp
@[simp ↓] def fOr (a b : FT) : FT := fun ρ post xp => a ρ (fun c ρ1 => if c = true then post true ρ1 else b ρ1 post xp) xp
@[simp ↓] def fNot (a : FT) : FT := fun ρ post xp => a ρ (fun c ρ1 => post (!c) ρ1) xp
@[simp ↓] def fAndV (a b : FE) : FE := fun ρ post xp => a ρ (fun x ρ1 => gB x fun c => if c = true then b ρ1 post xp else post (.bl false) ρ1) xp
@[simp ↓] def fOrV (a b : FE) : FE := fun ρ post xp => a ρ (fun x ρ1 => gB x fun c => if c = true then post (.bl true) ρ1 else b ρ1 post xp) xp
@[simp ↓] def fNotV (a : FE) : FE := fun ρ post xp => a ρ (fun x ρ1 => gB x fun c => post (.bl (!c)) ρ1) xp
@[simp ↓] def fIf (c : FT) (a b : FE) : FE := fun ρ post xp => c ρ (fun t ρ1 => if t = true then a ρ1 post xp else b ρ1 post xp) xp

section
variable {X : Cx} {Wx : WX} {P I J J1 J2 J3 : List Nat} {e a b c : Expr} {es : List Expr} {F G : FE} {T U : FT} {A : FA} {pos p2 : Pos} {ta tb : TE} {tA : TA}

theorem de_of {t : TE} (h : PE X e t) (k : ∀ (W : Wd) (ρ : Env) (σ : St) (Hb H : Hp) (Q : VK) (post : Post) (xp : XP), EnvOk X.K W P I ρ σ Hb H → F ρ post xp → XOk X Wx W P σ xp →
    (∀ d ρ' v Hb' H', post d ρ' → EnvOk X.K W P J ρ' σ Hb' H' → Sub Hb Hb' → Is X.K Hb' v d → Q v H') → t σ H Q) : DE X Wx P I e t F J := ⟨h, k⟩
theorem dt_of {t : TT} (h : PT X e t) (k : ∀ (W : Wd) (ρ : Env) (σ : St) (Hb H : Hp) (Q : Bool → Hp → Prop) (post : Bool → Env → Prop) (xp : XP), EnvOk X.K W P I ρ σ Hb H → T ρ post xp → XOk X Wx W P σ xp →
    (∀ b ρ' Hb' H', post b ρ' → EnvOk X.K W P J ρ' σ Hb' H' → Sub Hb Hb' → Q b H') → t σ H Q) : DT X Wx P I e t T J := ⟨h, k⟩

theorem de_var (i : Nat) {x : Str} (hp : i ∉ P := by decide) (hi : i ∉ I := by decide) (hN : X.N[i]? = some x := by rfl) (hv : Vis X.env.scope x := by first | exact Or.inl rfl | exact Or.inr (Or.inl rfl) | exact Or.inr (Or.inr rfl)) (hd : (x == ("__debug__" : Str)) = false := by decide)
    (hcd : (x == ("__classdict__" : Str)) = false := by decide) : DE X Wx P I (.Name x pos) (tVar i) (fVar i) I :=
  de_of (pe_var hN hv hd hcd) fun W ρ σ Hb H Q post xp E f _ q => by
    unfold fVar at f
    split at f
    · rename_i d g
      obtain ⟨v, e, is⟩ := E.val i d g hp hi
      exact ⟨v, e, q _ _ _ _ _ f E (Sub.refl _) is⟩
    · exact f.elim
theorem de_int {i : Int} {j} : DE X Wx P I (.Constant (.int i) j pos) (tC (.int i)) (fC (.int i)) I := de_of pe_int fun W ρ σ Hb H Q post xp E f _ q => q _ _ _ _ _ f E (Sub.refl _) (.int i)
theorem de_bl {b : Bool} {j} : DE X Wx P I (.Constant (.bool b) j pos) (tC (.bl b)) (fC (.bl b)) I := de_of pe_bl fun W ρ σ Hb H Q post xp E f _ q => q _ _ _ _ _ f E (Sub.refl _) (.bl b)
theorem de_non {j} : DE X Wx P I (.Constant .none j pos) (tC .non) (fC .non) I := de_of pe_non fun W ρ σ Hb H Q post xp E f _ q => q _ _ _ _ _ f E (Sub.refl _) .non
theorem de_str {x : Str} {j} : DE X Wx P I (.Constant (.str x) j pos) (tC (.str x)) (fC (.str x)) I := de_of pe_str fun W ρ σ Hb H Q post xp E f _ q => q _ _ _ _ _ f E (Sub.refl _) (.str x)
/-- a module's name: a class, a def, a constant -/
theorem de_glob {x : Str} {v : V} {u : Value} {d : D} (hm : X.mg x = some u) (r : RelV v u) (is : ∀ H, Is X.K H v d) (hg : Gl X x := by rfl) (hd : (x == ("__debug__" : Str)) = false := by decide) : DE X Wx P I (.Name x pos) (tC v) (fC d) I :=
  de_of (pe_glob hg hm r hd) fun W ρ σ Hb H Q post xp E f _ q => q _ _ _ _ _ f E (Sub.refl _) (is _)
theorem de_bltn {x : Str} {n : String} (hm : X.mg x = none) (hv : bootBuiltins x = some (.type n)) (hg : Gl X x := by rfl) (hn : x ≠ "__name__" := by decide) (hd : (x == ("__debug__" : Str)) = false := by decide) : DE X Wx P I (.Name x pos) (tC (.ty n)) (fC (.ty n)) I :=
  de_of (pe_bltn hg hm hv (v := .ty n) rfl hn hd) fun W ρ σ Hb H Q post xp E f _ q => q _ _ _ _ _ f E (Sub.refl _) (.ty n)

theorem deo (h : DE X Wx P I e ta F J) : DEo X Wx P I e ta F J := ⟨h.pe, fun W ρ σ Hb H Q post xp E f x q => h.ev W ρ σ Hb H Q post xp E f x fun d ρ' v Hb' H' a E' s i => q d ρ' v Hb' H' a E' s (.inl i)⟩
theorem deo_var (i : Nat) {x : Str} (hi : i ∈ P ∨ i ∈ I := by decide) (hN : X.N[i]? = some x := by rfl) (hv : Vis X.env.scope x := by first | exact Or.inl rfl | exact Or.inr (Or.inl rfl) | exact Or.inr (Or.inr rfl)) (hd : (x == ("__debug__" : Str)) = false := by decide)
    (hcd : (x == ("__classdict__" : Str)) = false := by decide) : DEo X Wx P I (.Name x pos) (tVar i) (fVar i) I :=
  ⟨pe_var hN hv hd hcd, fun W ρ σ Hb H Q post xp E f _ q => by
    unfold fVar at f
    split at f
    · rename_i d g
      obtain ⟨p, e, _, c, _⟩ := E.cel i d hi g
      exact ⟨_, e, q _ _ _ _ _ f E (Sub.refl _) (.inr ⟨p, rfl, c⟩)⟩
    · exact f.elim⟩
theorem de_un {op : UnaryOp} {r : V → Hp → VK → Prop} {g : G1} (ho : UnR X (unaryOp op) r) (hr : RV1 X.K r g) (ha : DEo X Wx P I a ta F J) : DE X Wx P I (.UnaryOp op a pos) (tUn r ta) (fUn g F) J := by
  obtain ⟨pa, ka⟩ := ha
  refine de_of (pe_un ho pa) fun W ρ σ Hb H Q post xp E f x q => ka W ρ σ Hb H _ _ xp E f x fun d ρ1 v Hb1 H1 f1 E1 s1 i1 => ?_
  refine hr Hb1 H1 v d _ _ E1.sub i1 f1 fun w dz Hb2 H2 kz g iz => ?_
  obtain ⟨E2, s2⟩ := g.env E1
  exact q _ _ _ _ _ kz E2 (s1.trans s2) iz
theorem bin_core {r : R2} {g : G2} (hr : RV2 X.K r g) (ha : DE X Wx P I a ta F J1) (hb : DEo X Wx P J1 b tb G J) :
    ∀ (W : Wd) (ρ : Env) (σ : St) (Hb H : Hp) (Q : VK) (post : Post) (xp : XP), EnvOk X.K W P I ρ σ Hb H → fBin g F G ρ post xp → XOk X Wx W P σ xp →
    (∀ d ρ' v Hb' H', post d ρ' → EnvOk X.K W P J ρ' σ Hb' H' → Sub Hb Hb' → Is X.K Hb' v d → Q v H') → tOp r ta tb σ H Q := by
  intro W ρ σ Hb H Q post xp E f x q
  refine ha.ev W ρ σ Hb H _ _ xp E f x fun d ρ1 v Hb1 H1 f1 E1 s1 i1 => ?_
  refine hb.ev W ρ1 σ Hb1 H1 _ _ xp E1 f1 x fun d2 ρ2 v2 Hb2 H2 f2 E2 s2 i2 => ?_
  refine hr Hb2 H2 v v2 d d2 _ _ E2.sub (.inl (i1.mono s2)) i2 f2 fun w dz Hb3 H3 kz g iz => ?_
  obtain ⟨E3, s3⟩ := g.env E2
  exact q _ _ _ _ _ kz E3 ((s1.trans s2).trans s3) iz
theorem binL_core {r : R2} {g : G2} (i : Nat) (hr : RV2 X.K r g) (hb : DEo X Wx P I b tb G J) (hi : i ∈ P ∨ i ∈ I) (hj : i ∈ P ∨ i ∈ J) :
    ∀ (W : Wd) (ρ : Env) (σ : St) (Hb H : Hp) (Q : VK) (post : Post) (xp : XP), EnvOk X.K W P I ρ σ Hb H → fBinL g i G ρ post xp → XOk X Wx W P σ xp →
    (∀ d ρ' v Hb' H', post d ρ' → EnvOk X.K W P J ρ' σ Hb' H' → Sub Hb Hb' → Is X.K Hb' v d → Q v H') → tOp r (tVar i) tb σ H Q := by
  intro W ρ σ Hb H Q post xp E f x q
  obtain ⟨f0, f⟩ := f
  cases g0 : get ρ i with
  | none => rw [g0] at f0; exact f0.elim
  | some d0 =>
    obtain ⟨p, ep, _⟩ := E.cel i d0 hi g0
    refine ⟨_, ep, hb.ev W ρ σ Hb H _ _ xp E f x fun d2 ρ2 v2 Hb2 H2 f2 E2 s2 i2 => ?_⟩
    cases g2 : get ρ2 i with
    | none => rw [g2] at f2; exact f2.elim
    | some d =>
      rw [g2] at f2
      obtain ⟨p', ep', _, c, _⟩ := E2.cel i d hj g2
      rw [ep] at ep'; cases ep'
      refine hr Hb2 H2 _ v2 d d2 _ _ E2.sub (.inr ⟨p, rfl, c⟩) i2 f2 fun w dz Hb3 H3 kz g iz => ?_
      obtain ⟨E3, s3⟩ := g.env E2
      exact q _ _ _ _ _ kz E3 (s2.trans s3) iz
theorem de_bin {op : Operator} {r : R2} {g : G2} (ho : OpR X (binaryOp op) r) (hr : RV2 X.K r g) (ha : DE X Wx P I a ta F J1) (hb : DEo X Wx P J1 b tb G J) : DE X Wx P I (.BinOp a op b pos) (tOp r ta tb) (fBin g F G) J :=
  de_of (pe_op ho ha.pe hb.pe) (bin_core hr ha hb)
theorem de_binL {op : Operator} {r : R2} {g : G2} (i : Nat) {x : Str} (ho : OpR X (binaryOp op) r) (hr : RV2 X.K r g) (hb : DEo X Wx P I b tb G J) (hi : i ∈ P ∨ i ∈ I := by decide) (hj : i ∈ P ∨ i ∈ J := by decide) (hN : X.N[i]? = some x := by rfl) (hv : Vis X.env.scope x := by first | exact Or.inl rfl | exact Or.inr (Or.inl rfl) | exact Or.inr (Or.inr rfl)) (hd : (x == ("__debug__" : Str)) = false := by decide)
    (hcd : (x == ("__classdict__" : Str)) = false := by decide) : DE X Wx P I (.BinOp (.Name x p2) op b pos) (tOp r (tVar i) tb) (fBinL g i G) J :=
  de_of (pe_op ho (pe_var hN hv hd hcd) hb.pe) (binL_core i hr hb hi hj)
theorem de_cmp {op : CmpOp} {r : R2} {g : G2} (ho : OpR X (compareOp op) r) (hr : RV2 X.K r g) (ha : DE X Wx P I a ta F J1) (hb : DEo X Wx P J1 b tb G J) (hm : behindInMarks op b = false := by first | exact nomark _ | rfl) : DE X Wx P I (.Compare a [op] [b] pos) (tOp r ta tb) (fBin g F G) J :=
  de_of (pe_cmpR ho ha.pe hb.pe hm) (bin_core hr ha hb)
theorem de_cmpL {op : CmpOp} {r : R2} {g : G2} (i : Nat) {x : Str} (ho : OpR X (compareOp op) r) (hr : RV2 X.K r g) (hb : DEo X Wx P I b tb G J) (hm : behindInMarks op b = false := by first | exact nomark _ | rfl) (hi : i ∈ P ∨ i ∈ I := by decide) (hj : i ∈ P ∨ i ∈ J := by decide) (hN : X.N[i]? = some x := by rfl) (hv : Vis X.env.scope x := by first | exact Or.inl rfl | exact Or.inr (Or.inl rfl) | exact Or.inr (Or.inr rfl)) (hd : (x == ("__debug__" : Str)) = false := by decide)
    (hcd : (x == ("__classdict__" : Str)) = false := by decide) : DE X Wx P I (.Compare (.Name x p2) [op] [b] pos) (tOp r (tVar i) tb) (fBinL g i G) J :=
  de_of (pe_cmpR ho (pe_var hN hv hd hcd) hb.pe hm) (binL_core i hr hb hi hj)
theorem de_ix {r : R2} {g : G2} (ho : IxR X r) (hr : RV2 X.K r g) (ha : DE X Wx P I a ta F J1) (hb : DEo X Wx P J1 b tb G J) (hs : PlainIx b := by exact fun _ _ => rfl) : DE X Wx P I (.Subscript a b pos) (tOp r ta tb) (fBin g F G) J :=
  de_of (pe_ix ho ha.pe hb.pe hs) (bin_core hr ha hb)
theorem de_ixL {r : R2} {g : G2} (i : Nat) {x : Str} (ho : IxR X r) (hr : RV2 X.K r g) (hb : DEo X Wx P I b tb G J) (hs : PlainIx b := by exact fun _ _ => rfl) (hi : i ∈ P ∨ i ∈ I := by decide) (hj : i ∈ P ∨ i ∈ J := by decide) (hN : X.N[i]? = some x := by rfl) (hv : Vis X.env.scope x := by first | exact Or.inl rfl | exact Or.inr (Or.inl rfl) | exact Or.inr (Or.inr rfl)) (hd : (x == ("__debug__" : Str)) = false := by decide)
    (hcd : (x == ("__classdict__" : Str)) = false := by decide) : DE X Wx P I (.Subscript (.Name x p2) b pos) (tOp r (tVar i) tb) (fBinL g i G) J :=
  de_of (pe_ix ho (pe_var hN hv hd hcd) hb.pe hs) (binL_core i hr hb hi hj)

theorem da_nil : DA X Wx P I [] tNil fNil I := ⟨pa_nil, fun W ρ σ Hb H Q post xp E f _ q => q _ _ _ _ _ f E (Sub.refl _) .nil⟩
theorem da_cons (ha : DE X Wx P I e ta F J1) (hb : DA X Wx P J1 es tA A J) (hs : starEach (e :: es) X.env = (false, eval e X.env) :: starEach es X.env := by rfl) : DA X Wx P I (e :: es) (tCons ta tA) (fCons F A) J := by
  obtain ⟨pa, ka⟩ := ha
  obtain ⟨pb, kb⟩ := hb
  refine ⟨pa_cons pa pb hs, fun W ρ σ Hb H Q post xp E f x q => ka W ρ σ Hb H _ _ xp E f x fun d ρ1 v Hb1 H1 f1 E1 s1 i1 => ?_⟩
  exact kb W ρ1 σ Hb1 H1 _ _ xp E1 f1 x fun ds ρ2 vs Hb2 H2 f2 E2 s2 i2 => q _ _ _ _ _ f2 E2 (s1.trans s2) (.cons (i1.mono s2) i2)
/-- arguments that are only looked at: the last one may be a slot's own cell -/
theorem dao (h : DA X Wx P I es tA A J) : DAo X Wx P I es tA A J := ⟨h.pe, fun W ρ σ Hb H Q post xp E f x q => h.ev W ρ σ Hb H Q post xp E f x fun ds ρ' vs Hb' H' a E' s i => q ds ρ' vs Hb' H' a E' s i.o⟩
theorem dao_one (ha : DEo X Wx P I e ta F J) (hs : starEach [e] X.env = (false, eval e X.env) :: starEach [] X.env := by rfl) : DAo X Wx P I [e] (tCons ta tNil) (fCons F fNil) J :=
  ⟨pa_cons ha.pe pa_nil hs, fun W ρ σ Hb H Q post xp E f x q => ha.ev W ρ σ Hb H _ _ xp E f x fun d ρ1 v Hb1 H1 f1 E1 s1 i1 => q _ _ _ _ _ f1 E1 s1 (.cons i1 .nil)⟩
theorem dao_cons (ha : DE X Wx P I e ta F J1) (hb : DAo X Wx P J1 es tA A J) (hs : starEach (e :: es) X.env = (false, eval e X.env) :: starEach es X.env := by rfl) : DAo X Wx P I (e :: es) (tCons ta tA) (fCons F A) J :=
  ⟨pa_cons ha.pe hb.pe hs, fun W ρ σ Hb H Q post xp E f x q => ha.ev W ρ σ Hb H _ _ xp E f x fun d ρ1 v Hb1 H1 f1 E1 s1 i1 => hb.ev W ρ1 σ Hb1 H1 _ _ xp E1 f1 x fun ds ρ2 vs Hb2 H2 f2 E2 s2 i2 => q _ _ _ _ _ f2 E2 (s1.trans s2) (.cons (.inl (i1.mono s2)) i2)⟩
theorem de_tup {x1} (h : DA X Wx P I es tA A J) (hz : es.length ≤ 1000 := by exact by decide) : DE X Wx P I (.Tuple es x1 pos) (tTup tA) (fun ρ post xp => A ρ (fun xs ρ1 => xs.length ≤ 1000 ∧ post (.tup xs) ρ1) xp) J := by
  obtain ⟨pa, ka⟩ := h
  refine de_of (pe_tup pa) fun W ρ σ Hb H Q post xp E f x q => ka W ρ σ Hb H _ _ xp E f x fun ds ρ1 vs Hb1 H1 f1 E1 s1 i1 => ⟨?_, fun p hp => ?_⟩
  · rw [i1.length]; exact Nat.le_trans f1.1 (by decide)
  · have hn : Hb1 p = none := E1.sub.none hp
    exact q _ _ _ _ _ f1.2 (E1.alloc hp) (s1.trans (Sub.new hn)) (.tup upd_same (i1.mono (Sub.new hn)))
end
end DL

/-! DL2: operators and built-ins over data. -/
namespace DL
open PySem L2 PyProof.Rows

/-! ### plain data for == -/
mutual
def pd : D → Option PyData
  | .non => some .none
  | .bl b => some (.bool b)
  | .int i => some (.int i)
  | .str s => some (.str s)
  | .tup ds => (pdL ds).map .tuple
  | .lst ds => (pdL ds).map .list
  | .ktp ds => (pdL ds).map .tuple
  | .slst ds => (pdL ds).map .list
  | _ => none
def pdL : List D → Option (List PyData)
  | [] => some []
  | d :: ds => match pd d with
    | some x => (pdL ds).map (x :: ·)
    | none => none
end
mutual
theorem Is.dp {K : PySem.W.Frag} {H : Hp} : ∀ {v : V} {d : D} {x : PyData}, Is K H v d → pd d = some x → Dp K H v x
  | _, _, _, .non, e => by simp [pd] at e; subst e; exact .non
  | _, _, _, .bl b, e => by simp [pd] at e; subst e; exact .bl b
  | _, _, _, .int i, e => by simp [pd] at e; subst e; exact .int i
  | _, _, _, .str s, e => by simp [pd] at e; subst e; exact .str s
  | _, _, _, .ty n, e => by simp [pd] at e
  | _, _, _, .fn n, e => by simp [pd] at e
  | _, .tup ds, _, .tup h l, e => by
    simp only [pd] at e
    cases q : pdL ds with
    | none => rw [q] at e; cases e
    | some xs => rw [q] at e; cases e; exact .tup (SqT.of h) (IsL.dp l q)
  | _, .lst ds, _, .lst h l, e => by
    simp only [pd] at e
    cases q : pdL ds with
    | none => rw [q] at e; cases e
    | some xs => rw [q] at e; cases e; exact .lst (SqL.of h) (IsL.dp l q)
  | _, .ktp ds, _, .ktp h l, e => by
    simp only [pd] at e
    cases q : pdL ds with
    | none => rw [q] at e; cases e
    | some xs => rw [q] at e; cases e; exact .tup h (IsL.dp l q)
  | _, .slst ds, _, .slst h l, e => by
    simp only [pd] at e
    cases q : pdL ds with
    | none => rw [q] at e; cases e
    | some xs => rw [q] at e; cases e; exact .lst h (IsL.dp l q)
  | _, _, _, .dk _ _ _, e => by simp [pd] at e
  | _, _, _, .dt _ _ _, e => by simp [pd] at e
  | _, _, _, .obj _ _ _ _, e => by simp [pd] at e
theorem IsL.dp {K : PySem.W.Frag} {H : Hp} : ∀ {vs : List V} {ds : List D} {xs : List PyData}, IsL K H vs ds → pdL ds = some xs → DpAll K H vs xs
  | _, _, _, .nil, e => by simp [pdL] at e; subst e; exact .nil
  | _, d :: ds, _, .cons a l, e => by
    simp only [pdL] at e
    cases q : pd d with
    | none => rw [q] at e; cases e
    | some x =>
      rw [q] at e
      cases r : pdL ds with
      | none => rw [r] at e; cases e
      | some xs => rw [r] at e; cases e; exact .cons (Is.dp a q) (IsL.dp l r)
end

/-! ### items, keys -/
/-- the items of a tuple, of a list -/
def tupD : D → Option (List D)
  | .tup ds => some ds
  | .ktp ds => some ds
  | _ => none
def lstD : D → Option (List D)
  | .lst ds => some ds
  | .slst ds => some ds
  | _ => none
def dInts : List D → Option (List Int)
  | [] => some []
  | .int i :: r => (dInts r).map (i :: ·)
  | _ => none
def dBools : List D → Option (List Bool)
  | [] => some []
  | .bl i :: r => (dBools r).map (i :: ·)
  | _ => none
def keysOf : List D → Option (List Key)
  | [] => some []
  | .int i :: r => (keysOf r).map (Sum.inl i :: ·)
  | .str s :: r => (keysOf r).map (Sum.inr s :: ·)
  | _ => none
def valD {κ : Type} [DecidableEq κ] (kvs : List (κ × D)) (k : κ) : Option D := (kvs.find? fun kv => decide (kv.1 = k)).map (·.2)
@[simp] def putD {κ : Type} [DecidableEq κ] (kvs : List (κ × D)) (k : κ) (v : D) : List (κ × D) := if (kvs.any fun kv => decide (kv.1 = k)) = true then kvs.map fun kv => if kv.1 = k then (kv.1, v) else kv else kvs ++ [(k, v)]
section
variable {K : PySem.W.Frag} {Hb H : Hp}
theorem is_int {v : V} {i : Int} (h : Is K H v (.int i)) : v = .int i := by cases h; rfl
theorem is_bl {v : V} {b : Bool} (h : Is K H v (.bl b)) : v = .bl b := by cases h; rfl
theorem is_str {v : V} {b : Str} (h : Is K H v (.str b)) : v = .str b := by cases h; rfl
theorem is_non {v : V} (h : Is K H v .non) : v = .non := by cases h; rfl
theorem is_tupD {v : V} {d : D} {ds : List D} (h : Is K H v d) (e : tupD d = some ds) : ∃ a vs, v = .ref a ∧ SqT K H a vs ∧ IsL K H vs ds := by
  cases d <;> simp [tupD] at e <;> subst e
  · cases h with
    | tup h l => exact ⟨_, _, rfl, SqT.of h, l⟩
  · cases h with
    | ktp h l => exact ⟨_, _, rfl, h, l⟩
theorem is_lstD {v : V} {d : D} {ds : List D} (h : Is K H v d) (e : lstD d = some ds) : ∃ a vs, v = .ref a ∧ SqL K H a vs ∧ IsL K H vs ds := by
  cases d <;> simp [lstD] at e <;> subst e
  · cases h with
    | lst h l => exact ⟨_, _, rfl, SqL.of h, l⟩
  · cases h with
    | slst h l => exact ⟨_, _, rfl, h, l⟩
theorem o_int {v : V} {i : Int} (h : IsO K Hb H v (.int i)) : v = .int i := h.elim is_int fun ⟨_, _, c⟩ => c.elim
theorem o_bl {v : V} {i : Bool} (h : IsO K Hb H v (.bl i)) : v = .bl i := h.elim is_bl fun ⟨_, _, c⟩ => c.elim
theorem o_str {v : V} {i : Str} (h : IsO K Hb H v (.str i)) : v = .str i := h.elim is_str fun ⟨_, _, c⟩ => c.elim
theorem o_non {v : V} (h : IsO K Hb H v .non) : v = .non := h.elim is_non fun ⟨_, _, c⟩ => c.elim
theorem o_ty {v : V} {n : String} (h : IsO K Hb H v (.ty n)) : v = .ty n := h.elim (fun h => by cases h; rfl) fun ⟨_, _, c⟩ => c.elim
theorem o_fn {v : V} {n : Addr} (h : IsO K Hb H v (.fn n)) : v = .ref n := h.elim (fun h => by cases h; rfl) fun ⟨_, _, c⟩ => c.elim
theorem o_tupD (s : Sub Hb H) {v : V} {d : D} {ds : List D} (h : IsO K Hb H v d) (e : tupD d = some ds) : Is K Hb v d ∧ ∃ a vs, v = .ref a ∧ SqT K H a vs ∧ IsL K Hb vs ds := by
  rcases h with h | ⟨p, rfl, c⟩
  · obtain ⟨a, vs, e1, h1, l⟩ := is_tupD h e
    exact ⟨h, a, vs, e1, s.sqT h1, l⟩
  · cases d <;> first | exact c.elim | simp [tupD] at e
theorem o_tup (s : Sub Hb H) {v : V} {ds : List D} (h : IsO K Hb H v (.tup ds)) : ∃ a vs, v = .ref a ∧ Hb a = some (.tup vs) ∧ IsL K Hb vs ds := by
  rcases h with h | ⟨p, rfl, c⟩
  · cases h with
    | tup h l => exact ⟨_, _, rfl, h, l⟩
  · exact c.elim
theorem o_lstD (s : Sub Hb H) {v : V} {d : D} {ds : List D} (h : IsO K Hb H v d) (e : lstD d = some ds) : ∃ a vs, v = .ref a ∧ SqL K H a vs ∧ IsL K Hb vs ds := by
  rcases h with h | ⟨p, rfl, c⟩
  · obtain ⟨a, vs, e1, h1, l⟩ := is_lstD h e
    exact ⟨a, vs, e1, s.sqL h1, l⟩
  · cases d <;> first | exact c.elim | simp [lstD] at e
    subst e
    obtain ⟨vs, h1, l⟩ := c
    exact ⟨p, vs, rfl, SqL.of h1, l⟩
theorem o_lst (s : Sub Hb H) {v : V} {ds : List D} (h : IsO K Hb H v (.lst ds)) : ∃ a vs, v = .ref a ∧ H a = some (.lst vs) ∧ IsL K Hb vs ds := by
  rcases h with h | ⟨p, rfl, vs, h1, l⟩
  · cases h with
    | lst h l => exact ⟨_, _, rfl, s _ _ h, l⟩
  · exact ⟨p, vs, rfl, h1, l⟩
theorem is_ints : ∀ {vs : List V} {ds : List D} {ns : List Int}, IsL K H vs ds → dInts ds = some ns → vs = ns.map V.int
  | _, [], _, .nil, e => by simp [dInts] at e; subst e; rfl
  | _, .int i :: r, _, .cons a l, e => by
    simp only [dInts] at e
    cases q : dInts r with
    | none => rw [q] at e; cases e
    | some ms => rw [q] at e; cases e; rw [is_int a, is_ints l q]; rfl
  | _, .non :: _, _, _, e | _, .bl _ :: _, _, _, e | _, .str _ :: _, _, _, e | _, .ty _ :: _, _, _, e | _, .fn _ :: _, _, _, e | _, .tup _ :: _, _, _, e | _, .lst _ :: _, _, _, e | _, .ktp _ :: _, _, _, e | _, .slst _ :: _, _, _, e | _, .dk _ :: _, _, _, e | _, .dt _ :: _, _, _, e | _, .obj _ _ :: _, _, _, e => by simp [dInts] at e
theorem is_bools : ∀ {vs : List V} {ds : List D} {ns : List Bool}, IsL K H vs ds → dBools ds = some ns → vs = ns.map V.bl
  | _, [], _, .nil, e => by simp [dBools] at e; subst e; rfl
  | _, .bl i :: r, _, .cons a l, e => by
    simp only [dBools] at e
    cases q : dBools r with
    | none => rw [q] at e; cases e
    | some ms => rw [q] at e; cases e; rw [is_bl a, is_bools l q]; rfl
  | _, .non :: _, _, _, e | _, .int _ :: _, _, _, e | _, .str _ :: _, _, _, e | _, .ty _ :: _, _, _, e | _, .fn _ :: _, _, _, e | _, .tup _ :: _, _, _, e | _, .lst _ :: _, _, _, e | _, .ktp _ :: _, _, _, e | _, .slst _ :: _, _, _, e | _, .dk _ :: _, _, _, e | _, .dt _ :: _, _, _, e | _, .obj _ _ :: _, _, _, e => by simp [dBools] at e
end
section
variable {K : PySem.W.Frag} {Hb H : Hp}
theorem valD_rel {κ : Type} [DecidableEq κ] (k : κ) : ∀ {vs : List (κ × V)} {kvs : List (κ × D)}, vs.map (·.1) = kvs.map (·.1) → IsL K H (vs.map (·.2)) (kvs.map (·.2)) →
    (∀ d, valD kvs k = some d → ∃ v, valV vs k = some v ∧ Is K H v d) ∧ (valD kvs k = none → valV vs k = none)
  | [], [], _, _ => ⟨fun d h => by simp [valD] at h, fun _ => rfl⟩
  | [], _ :: _, e, _ => by simp at e
  | _ :: _, [], e, _ => by simp at e
  | (k1, v) :: vs, (k2, d) :: kvs, e, l => by
    simp only [List.map_cons, List.cons.injEq] at e
    obtain ⟨rfl, e⟩ := e
    simp only [List.map_cons] at l
    cases l with
    | cons a l =>
      by_cases hk : k1 = k
      · refine ⟨fun d' h => ?_, fun h => ?_⟩
        · have : valD ((k1, d) :: kvs) k = some d := by simp [valD, List.find?_cons, hk]
          rw [this] at h; cases h
          exact ⟨v, by simp [valV, List.find?_cons, hk], a⟩
        · have : valD ((k1, d) :: kvs) k = some d := by simp [valD, List.find?_cons, hk]
          rw [this] at h; cases h
      · have e1 : valD ((k1, d) :: kvs) k = valD kvs k := by simp [valD, List.find?_cons, hk]
        have e2 : valV ((k1, v) :: vs) k = valV vs k := by simp [valV, List.find?_cons, hk]
        rw [e1, e2]
        exact valD_rel k e l
theorem anyD_rel {κ : Type} [DecidableEq κ] (k : κ) : ∀ {vs : List (κ × V)} {kvs : List (κ × D)}, vs.map (·.1) = kvs.map (·.1) → (vs.any fun kv => decide (kv.1 = k)) = kvs.any fun kv => decide (kv.1 = k)
  | [], [], _ => rfl
  | [], _ :: _, e => by simp at e
  | _ :: _, [], e => by simp at e
  | (k1, v) :: vs, (k2, d) :: kvs, e => by
    simp only [List.map_cons, List.cons.injEq] at e
    obtain ⟨rfl, e⟩ := e
    simp only [List.any_cons, anyD_rel k e]
theorem mapPut_rel {κ : Type} [DecidableEq κ] (k : κ) {v : V} {d : D} (h : Is K H v d) : ∀ {vs : List (κ × V)} {kvs : List (κ × D)}, vs.map (·.1) = kvs.map (·.1) → IsL K H (vs.map (·.2)) (kvs.map (·.2)) →
    (vs.map fun kv => if kv.1 = k then (kv.1, v) else kv).map (·.1) = (kvs.map fun kv => if kv.1 = k then (kv.1, d) else kv).map (·.1) ∧ IsL K H ((vs.map fun kv => if kv.1 = k then (kv.1, v) else kv).map (·.2)) ((kvs.map fun kv => if kv.1 = k then (kv.1, d) else kv).map (·.2))
  | [], [], _, _ => ⟨rfl, .nil⟩
  | [], _ :: _, e, _ => by simp at e
  | _ :: _, [], e, _ => by simp at e
  | (k1, w) :: vs, (k2, x) :: kvs, e, l => by
    simp only [List.map_cons, List.cons.injEq] at e
    obtain ⟨rfl, e⟩ := e
    simp only [List.map_cons] at l
    cases l with
    | cons a l =>
      obtain ⟨h1, h2⟩ := mapPut_rel k h e l
      by_cases hk : k1 = k
      · simp only [List.map_cons, if_pos hk]
        exact ⟨by rw [h1], .cons h h2⟩
      · simp only [List.map_cons, if_neg hk]
        exact ⟨by rw [h1], .cons a h2⟩
theorem putD_rel {κ : Type} [DecidableEq κ] (k : κ) {v : V} {d : D} {vs : List (κ × V)} {kvs : List (κ × D)} (e : vs.map (·.1) = kvs.map (·.1)) (l : IsL K H (vs.map (·.2)) (kvs.map (·.2))) (h : Is K H v d) :
    (putK vs k v).map (·.1) = (putD kvs k d).map (·.1) ∧ IsL K H ((putK vs k v).map (·.2)) ((putD kvs k d).map (·.2)) := by
  unfold putK putD
  rw [anyD_rel k e]
  split
  · exact mapPut_rel k h e l
  · simp only [List.map_append, List.map_cons, List.map_nil]
    exact ⟨by rw [e], l.append (.cons h .nil)⟩

theorem is_keys : ∀ {vs : List V} {ds : List D} {ks : List Key}, IsL K H vs ds → keysOf ds = some ks → vs = ks.map kV
  | _, [], _, .nil, e => by simp [keysOf] at e; subst e; rfl
  | _, .int i :: r, _, .cons a l, e => by
    simp only [keysOf] at e
    cases q : keysOf r with
    | none => rw [q] at e; cases e
    | some ms => rw [q] at e; cases e; rw [is_int a, is_keys l q]; rfl
  | _, .str i :: r, _, .cons a l, e => by
    simp only [keysOf] at e
    cases q : keysOf r with
    | none => rw [q] at e; cases e
    | some ms => rw [q] at e; cases e; rw [is_str a, is_keys l q]; rfl
  | _, .non :: _, _, _, e | _, .bl _ :: _, _, _, e | _, .ty _ :: _, _, _, e | _, .fn _ :: _, _, _, e | _, .tup _ :: _, _, _, e | _, .lst _ :: _, _, _, e | _, .ktp _ :: _, _, _, e | _, .slst _ :: _, _, _, e | _, .dk _ :: _, _, _, e | _, .dt _ :: _, _, _, e | _, .obj _ _ :: _, _, _, e => by simp [keysOf] at e
/-- the value at a key, if any; none: not a key that fits -/
def getK : D → D → Option (Option D)
  | .dk kvs, .int i => some (valD kvs (.inl i))
  | .dk kvs, .str s => some (valD kvs (.inr s))
  | .dt kvs, .tup ds => (keysOf ds).map (valD kvs ·)
  | _, _ => none
def putKD : D → D → D → Option D
  | .dk kvs, .int i, v => some (.dk (putD kvs (.inl i) v))
  | .dk kvs, .str s, v => some (.dk (putD kvs (.inr s) v))
  | .dt kvs, .tup ds, v => (keysOf ds).map fun k => .dt (putD kvs k v)
  | _, _, _ => none
def sizeD : D → Nat
  | .dk kvs => kvs.length
  | .dt kvs => kvs.length
  | _ => 0
theorem cell_of_is {p : Addr} : ∀ {d : D}, Is K Hb (.ref p) d → Sub Hb H → (match d with | .dk _ => True | .dt _ => True | .lst _ => True | .obj _ _ => True | _ => False) → Cell K Hb H p d
  | .dk _, .dk h k l, s, _ => ⟨_, s _ _ h, k, l⟩
  | .dt _, .dt h k l, s, _ => ⟨_, s _ _ h, k, l⟩
  | .lst _, .lst h l, s, _ => ⟨_, s _ _ h, l⟩
  | .obj _ _, .obj c h k l, s, _ => ⟨_, _, _, c, s _ _ h, k, l⟩
theorem cell_get {p : Addr} {d kd : D} {y : V} {r : Option D} (c : Cell K Hb H p d) (hy : Is K Hb y kd) (s : Sub Hb H) (g : getK d kd = some r) :
    ∃ o, DGet H p y o ∧ (r = none → o = none) ∧ ∀ x, r = some x → ∃ v, o = some v ∧ Is K Hb v x := by
  cases d <;> cases kd <;> simp only [getK] at g <;> first | cases g | skip
  · obtain ⟨vs, h, e, l⟩ := c
    obtain rfl := is_int hy
    obtain ⟨h1, h2⟩ := valD_rel (Sum.inl _) e l
    exact ⟨_, DGet.k (k := Sum.inl _) h, h2, h1⟩
  · obtain ⟨vs, h, e, l⟩ := c
    obtain rfl := is_str hy
    obtain ⟨h1, h2⟩ := valD_rel (Sum.inr _) e l
    exact ⟨_, DGet.k (k := Sum.inr _) h, h2, h1⟩
  · obtain ⟨vs, h, e, l⟩ := c
    rename_i ds
    cases q : keysOf ds with
    | none => rw [q] at g; cases g
    | some ks =>
      rw [q] at g; cases g
      cases hy with
      | tup ht lt =>
        obtain rfl := is_keys lt q
        obtain ⟨h1, h2⟩ := valD_rel ks e l
        exact ⟨_, DGet.t h (s _ _ ht), h2, h1⟩
theorem cell_put {p : Addr} {d kd x d' : D} {y v : V} (c : Cell K Hb H p d) (hy : Is K Hb y kd) (hv : Is K Hb v x) (s : Sub Hb H) (hz : sizeD d < 1000000) (g : putKD d kd x = some d') :
    ∃ o, DPut H p y v (upd H p o) ∧ Cell K Hb (upd H p o) p d' := by
  cases d <;> cases kd <;> simp only [putKD] at g <;> first | cases g | skip
  · obtain ⟨vs, h, e, l⟩ := c
    obtain rfl := is_int hy
    obtain ⟨h1, h2⟩ := putD_rel (Sum.inl _) e l hv
    have hl : vs.length < sizeLine := by
      have := congrArg List.length e
      simp only [List.length_map] at this
      rw [this]; exact Nat.lt_of_lt_of_le hz (by decide)
    exact ⟨_, DPut.k (k := Sum.inl _) h hl, _, upd_same, h1, h2⟩
  · obtain ⟨vs, h, e, l⟩ := c
    obtain rfl := is_str hy
    obtain ⟨h1, h2⟩ := putD_rel (Sum.inr _) e l hv
    have hl : vs.length < sizeLine := by
      have := congrArg List.length e
      simp only [List.length_map] at this
      rw [this]; exact Nat.lt_of_lt_of_le hz (by decide)
    exact ⟨_, DPut.k (k := Sum.inr _) h hl, _, upd_same, h1, h2⟩
  · obtain ⟨vs, h, e, l⟩ := c
    rename_i ds
    cases q : keysOf ds with
    | none => rw [q] at g; cases g
    | some ks =>
      rw [q] at g; cases g
      cases hy with
      | tup ht lt =>
        obtain rfl := is_keys lt q
        obtain ⟨h1, h2⟩ := putD_rel ks e l hv
        have hl : vs.length < sizeLine := by
          have := congrArg List.length e
          simp only [List.length_map] at this
          rw [this]; exact Nat.lt_of_lt_of_le hz (by decide)
        exact ⟨_, DPut.t h (s _ _ ht) hl, _, upd_same, h1, h2⟩
end
end DL

/-! DL2b: operators and built-ins over data, one rule for all kinds of values. -/
namespace DL
open PySem L2
open PyProof.Rows hiding St

/-- one factor small, or both together below a million bits -/
def CMulO (i j : Int) : Prop := (-(2 ^ 64) < i ∧ i < 2 ^ 64) ∨ (-(2 ^ 64) < j ∧ j < 2 ^ 64) ∨ i.natAbs.log2 + j.natAbs.log2 < 1000000
def CFdiv (_ j : Int) : Prop := j ≠ 0 ∧ j.natAbs.log2 < 9000
def gAdd : G2
  | .int i, .int j, k => k (.int (i + j))
  | .lst a, .lst b, k => a.length + b.length ≤ 1000000 ∧ k (.lst (a ++ b))
  | .tup a, .tup b, k => a.length + b.length ≤ 1000000 ∧ k (.tup (a ++ b))
  | .str a, .str b, k => a.length + b.length ≤ 1000000 ∧ k (.str (a ++ b))
  | _, _, _ => False
def gSub : G2
  | .int i, .int j, k => k (.int (i - j))
  | _, _, _ => False
def gMul : G2
  | .int i, .int j, k => CMulO i j ∧ k (.int (i * j))
  | .tup a, .int j, k => (a ≠ [] ∧ a.length ≤ 1000 ∧ 1 ≤ j ∧ j ≤ 1000) ∧ k (.tup (List.replicate j.toNat a).flatten)
  | _, _, _ => False
/-- // and % by any divisor but 0; by a positive one as / and % -/
def gFdiv : G2
  | .int i, .int j, k => (j ≠ 0 ∧ j.natAbs.log2 < 9000) ∧ k (.int (i.fdiv j))
  | _, _, _ => False
def gFmod : G2
  | .int i, .int j, k => j ≠ 0 ∧ k (.int (i.fmod j))
  | _, _, _ => False
def gPow : G2
  | .int i, .int j, k => (0 ≤ j ∧ j ≤ 1000000 ∧ i.natAbs < 2 ^ 64) ∧ k (.int (i ^ j.toNat))
  | _, _, _ => False
def gNeg : G1
  | .int i, k => k (.int (-i))
  | _, _ => False
/-- tuples of ints in Python's order -/
def gLt : G2 := fun x y k => match x, y with
  | .int i, .int j => k (.bl (decide (i < j)))
  | _, _ => ∃ a b ns ms, tupD x = some a ∧ tupD y = some b ∧ dInts a = some ns ∧ dInts b = some ms ∧ k (.bl (HT.lexLt ns ms))
def gLe : G2 := fun x y k => match x, y with
  | .int i, .int j => k (.bl (decide (i ≤ j)))
  | _, _ => ∃ a b ns ms, tupD x = some a ∧ tupD y = some b ∧ dInts a = some ns ∧ dInts b = some ms ∧ k (.bl (Ob.lexAt (fun j => decide (ns.getD j 0 = ms.getD j 0)) (fun j => decide (ns.getD j 0 ≤ ms.getD j 0)) (decide (ns.length ≤ ms.length)) 0 (min ns.length ms.length)))
def gGt : G2
  | .int i, .int j, k => k (.bl (decide (j < i)))
  | _, _, _ => False
def gGe : G2
  | .int i, .int j, k => k (.bl (decide (j ≤ i)))
  | _, _, _ => False
/-- == of plain data -/
def gEq : G2 := fun x y k => ∃ a b, pd x = some a ∧ pd y = some b ∧ SeqAt.shaped a = true ∧ SeqAt.shaped b = true ∧ k (.bl (PyData.eqv a b))
def gNe : G2 := fun x y k => ∃ a b, pd x = some a ∧ pd y = some b ∧ SeqAt.shaped a = true ∧ SeqAt.shaped b = true ∧ k (.bl (!PyData.eqv a b))
@[simp] def isN : D → Bool
  | .non => true
  | _ => false
def gIs : G2
  | x, .non, k => k (.bl (isN x))
  | .bl a, .bl b, k => k (.bl (decide (a = b)))
  | _, _, _ => False
def gIsNot : G2
  | x, .non, k => k (.bl (!isN x))
  | .bl a, .bl b, k => k (.bl (!decide (a = b)))
  | _, _, _ => False
/-- an item, a value at a key, a sign -/
def gIx : G2 := fun x y k => match x, y with
  | .tup ds, .int i => ∃ d, atI ds i = some d ∧ k d
  | .lst ds, .int i => ∃ d, atI ds i = some d ∧ k d
  | .ktp ds, .int i => ∃ d, atI ds i = some d ∧ k d
  | .slst ds, .int i => ∃ d, atI ds i = some d ∧ k d
  | .str z, .int i => z.length ≤ 1000000 ∧ ∃ c, atI z.cps.toList i = some c ∧ k (.str ⟨#[c]⟩)
  | _, _ => ∃ d, getK x y = some (some d) ∧ k d
/-- in: a key of a dict, an item of a list, a flat item of a tuple, a part of a text -/
def flatD : D → Option PyData
  | .non => some .none
  | .bl b => some (.bool b)
  | .int i => some (.int i)
  | .str s => some (.str s)
  | _ => none
def inB (x c : D) (k : Bool → Prop) : Prop := match c with
  | .lst ds => ∃ a xs, pd x = some a ∧ pdL ds = some xs ∧ SeqAt.shaped a = true ∧ SeqAt.shaped (.list xs) = true ∧ k (xs.any fun z => PyData.eqv z a)
  | .str z => ∃ y, x = .str y ∧ k (!(Builtin.Str.occurrences z y 0 z.length 1).isEmpty)
  | _ => ∃ r, getK c x = some r ∧ k r.isSome
def gIn : G2 := fun x c k => inB x c fun b => k (.bl b)
def gNotIn : G2 := fun x c k => inB x c fun b => k (.bl (!b))
def gLen : GN
  | [.tup ds], k => k (.int ds.length)
  | [.lst ds], k => k (.int ds.length)
  | [.ktp ds], k => k (.int ds.length)
  | [.slst ds], k => k (.int ds.length)
  | [.dk ds], k => k (.int ds.length)
  | [.dt ds], k => k (.int ds.length)
  | [.str z], k => z.length ≤ 1000000 ∧ k (.int z.length)
  | _, _ => False
def gAbs : GN
  | [.int i], k => k (.int (if i < 0 then -i else i))
  | _, _ => False
def gInt : GN
  | [.int i], k => k (.int i)
  | [.bl b], k => k (.int (if b then 1 else 0))
  | _, _ => False
def gMax2 : GN
  | [.int i, .int j], k => k (.int (if j > i then j else i))
  | _, _ => False
def gMin2 : GN
  | [.int i, .int j], k => k (.int (if j < i then j else i))
  | _, _ => False
def gTuple : GN := fun xs k => match xs with
  | [.tup ds] => k (.tup ds)
  | [.lst ds] => k (.tup ds)
  | [.ktp ds] => k (.ktp ds)
  | [.slst ds] => k (.tup ds)
  | _ => False
def gList : GN := fun xs k => ∃ d es, xs = [d] ∧ (tupD d = some es ∨ lstD d = some es) ∧ k (.lst es)
def gSum : GN := fun xs k => ∃ d es ns, xs = [d] ∧ lstD d = some es ∧ dInts es = some ns ∧ k (.int ns.sum)
def gAll : GN := fun xs k => ∃ d es bs, xs = [d] ∧ lstD d = some es ∧ dBools es = some bs ∧ k (.bl (bs.all id))
def gAny : GN := fun xs k => ∃ d es bs, xs = [d] ∧ lstD d = some es ∧ dBools es = some bs ∧ k (.bl (bs.any id))

section
variable {X : Cx} {K : PySem.W.Frag} {Hb H : Hp}
abbrev rAddU (K : PySem.W.Frag) : R2 := fun x y H Q => (rI0 fun i j => .int (i + j)) x y H Q ∨ (rCat x y H Q ∨ (rCatA K x y H Q ∨ ∃ i j, x = .str i ∧ y = .str j ∧ i.length + j.length ≤ sizeLine ∧ Q (.str (i ++ j)) H))
theorem op_addU : OpR X (binaryOp .Add) (rAddU X.K) := op_add.or (op_cat.or (op_catA.or op_add_str))
theorem rv_add : RV2 K (rAddU K) gAdd := fun Hb H x y dx dy k Q s ix iy g q => by
  cases dx <;> cases dy <;> first | exact g.elim | skip
  · exact .inl ⟨_, _, o_int ix, o_int iy, q _ _ _ _ g .refl (.int _)⟩
  · exact .inr (.inr (.inr ⟨_, _, o_str ix, o_str iy, Nat.le_trans g.1 (by decide), q _ _ _ _ g.2 .refl (.str _)⟩))
  · obtain ⟨i1, a, vs, e1, h1, l1⟩ := o_tupD s ix rfl
    obtain ⟨i2, b, ws, e2, h2, l2⟩ := o_tupD s iy rfl
    refine .inr (.inr (.inl ⟨a, b, vs, ws, e1, e2, h1, h2, by rw [l1.length, l2.length]; exact Nat.le_trans g.1 (by decide), fun e => ?_, fun _ e => ?_, fun _ _ p hp => ?_⟩))
    · subst e
      have z := l1.length
      have z := List.eq_nil_of_length_eq_zero (by rw [← z]; rfl)
      subst z
      rw [← e2]
      exact q _ _ _ _ g.2 .refl i2
    · subst e
      have z := l2.length
      have z := List.eq_nil_of_length_eq_zero (by rw [← z]; rfl)
      subst z
      rw [← e1]
      have g2 := g.2
      rw [List.append_nil] at g2
      exact q _ _ _ _ g2 .refl i1
    · exact q _ _ _ _ g.2 (.one hp) (.tup upd_same ((l1.append l2).mono (Sub.new (s.none hp))))
  · obtain ⟨a, vs, e1, h1, l1⟩ := o_lst s ix
    obtain ⟨b, ws, e2, h2, l2⟩ := o_lst s iy
    exact .inr (.inl ⟨a, b, vs, ws, e1, e2, h1, h2, by rw [l1.length, l2.length]; exact Nat.le_trans g.1 (by decide), fun p hp => q _ _ _ _ g.2 (.one hp) (.lst upd_same ((l1.append l2).mono (Sub.new (s.none hp))))⟩)
theorem rv_sub : RV2 K (rI0 fun i j => .int (i - j)) gSub := fun Hb H x y dx dy k Q s ix iy g q => by
  cases dx <;> cases dy <;> first | exact g.elim | skip
  exact ⟨_, _, o_int ix, o_int iy, q _ _ _ _ g .refl (.int _)⟩
theorem op_mulO : OpR X (binaryOp .Mult) (rI CMulO fun i j => .int (i * j)) := opI fun _ _ _ _ _ _ _ hc q => mul_int q (by
  rcases hc with h | h | h
  · exact CMul.ok (.inl h)
  · exact CMul.ok (.inr h)
  · exact CMulW.ok h)
/-- t * 1 is t -/
theorem tuple_mul1 (l : Addr) (items : Array Value) (n : Nat) (dd : Option Addr) (sl : Array (Option Value)) (u : Tok) :
    Meets (Builtin.«tuple.__mul__» ⟨[.ref l, .int 1 u], []⟩) (fun _ R s => s.heap.get? l = some { cls := .type "tuple", dict := dd, data := .seq items n, slots := sl } ∧ R (.ok (.ret (Value.ref l))) s) :=
  .of_wp fun prog w A R s h => by
    obtain ⟨hp, g, d, tk, os⟩ := s
    obtain ⟨hl, h⟩ := h
    have f1 := AutoSeq1.idx_int
    wp_walk using wpAny_loadPart' hl
    repeat (first
      | (refine wpAny_ite_true (by simp) ?_; wp_walk using wpAny_loadPart' hl)
      | (refine wpAny_ite_false (by simp) ?_; wp_walk using wpAny_loadPart' hl))
    exact ⟨_, rfl, h⟩
def rRep1 (K : PySem.W.Frag) : R2 := fun x y H Q => ∃ l xs, x = .ref l ∧ y = .int 1 ∧ SqT K H l xs ∧ Q (.ref l) H
theorem op_rep1 : OpR X (binaryOp .Mult) (rRep1 X.K) := by
  intro pins s σ H x y v u Q I rx ry h
  obtain ⟨l, xs, rfl, rfl, hT, q⟩ := h
  cases rx
  obtain ⟨t, rfl⟩ := ry
  obtain ⟨its, r, ⟨⟨cls, dd, data, sl⟩, ho, hc, n, hd⟩, hs⟩ := I.tuple hT
  simp only at hc hd
  subst hc hd
  exact wpAny_binaryOp_repeat_ref (T := "tuple") (U := "int") (by decide) ⟨_, ho, rfl⟩ (fun s' => typeIs_int s' 1 t) noFill_tuple_mul F.fills_int_mul F.slot_int_rmul repeat_tuple F.slot_int_index.lookup
    (call_meets F.slot_int_rmul (typeIs_int s 1 t) F.entry_int_rmul (F.args_int_rmul_2 _ _) (int_rmul_tuple 1 t l its.toArray n dd sl)
      ⟨ho, rfl, ⟨_, ho, rfl⟩, call_meets F.slot_tuple_mul ⟨_, ho, rfl⟩ F.entry_tuple_mul (F.args_tuple_mul_2 _ _) (tuple_mul1 l its.toArray n dd sl t) ⟨ho, ⟨.ref l, H, I, rfl, q⟩⟩⟩)
abbrev rMulU (K : PySem.W.Frag) : R2 := fun x y H Q => (rI CMulO fun i j => .int (i * j)) x y H Q ∨ (rRep1 K x y H Q ∨ rRepT K x y H Q)
theorem op_mulU : OpR X (binaryOp .Mult) (rMulU X.K) := op_mulO.or (op_rep1.or op_repT)
theorem isL_rep : ∀ (n : Nat) {vs : List V} {ds : List D}, IsL K H vs ds → IsL K H (List.replicate n vs).flatten (List.replicate n ds).flatten
  | 0, _, _, _ => .nil
  | n + 1, _, _, l => by
    rw [List.replicate_succ, List.replicate_succ, List.flatten_cons, List.flatten_cons]
    exact l.append (isL_rep n l)
theorem rv_mul : RV2 K (rMulU K) gMul := fun Hb H x y dx dy k Q s ix iy g q => by
  cases dx <;> cases dy <;> first | exact g.elim | skip
  · exact .inl ⟨_, _, o_int ix, o_int iy, g.1, q _ _ _ _ g.2 .refl (.int _)⟩
  · obtain ⟨i1, a, vs, e1, h1, l1⟩ := o_tupD s ix rfl
    rename_i ds j
    obtain ⟨⟨g1, g2, g3, g4⟩, g5⟩ := g
    obtain rfl := o_int iy
    by_cases hj : j = 1
    · subst hj
      refine .inr (.inl ⟨a, vs, e1, rfl, h1, ?_⟩)
      rw [← e1]
      have e : (List.replicate (1 : Int).toNat ds).flatten = ds := by
        show (List.replicate 1 ds).flatten = ds
        simp
      rw [e] at g5
      exact q _ _ _ _ g5 .refl i1
    · have hne : vs ≠ [] := fun z => g1 (List.eq_nil_of_length_eq_zero (by rw [← l1.length, z]; rfl))
      exact .inr (.inr ⟨a, j, vs, e1, rfl, h1, hne, by omega, g4, by rw [l1.length]; exact g2, fun p hp => q _ _ _ _ g5 (.one hp) (.tup upd_same ((isL_rep _ l1).mono (Sub.new (s.none hp))))⟩)
theorem op_fdivG : OpR X (binaryOp .FloorDiv) (rI CFdiv fun i j => .int (i.fdiv j)) := opI fun i j _ _ _ _ _ hc q =>
  floordiv_int hc.1 q (.inl (PyProof.noPylong_of_log2 hc.2))
theorem rv_fdiv : RV2 K (rI CFdiv fun i j => .int (i.fdiv j)) gFdiv := fun Hb H x y dx dy k Q s ix iy g q => by
  cases dx <;> cases dy <;> first | exact g.elim | skip
  exact ⟨_, _, o_int ix, o_int iy, g.1, q _ _ _ _ g.2 .refl (.int _)⟩
theorem rv_fmod : RV2 K (rI (fun _ j => j ≠ 0) fun i j => .int (i.fmod j)) gFmod := fun Hb H x y dx dy k Q s ix iy g q => by
  cases dx <;> cases dy <;> first | exact g.elim | skip
  exact ⟨_, _, o_int ix, o_int iy, g.1, q _ _ _ _ g.2 .refl (.int _)⟩
theorem rv_pow : RV2 K (rI CPow fun i j => .int (i ^ j.toNat)) gPow := fun Hb H x y dx dy k Q s ix iy g q => by
  cases dx <;> cases dy <;> first | exact g.elim | skip
  exact ⟨_, _, o_int ix, o_int iy, g.1, q _ _ _ _ g.2 .refl (.int _)⟩
theorem rv_neg : RV1 K (rU fun i => .int (-i)) gNeg := fun Hb H x dx k Q s ix g q => by
  cases dx <;> first | exact g.elim | skip
  exact ⟨_, o_int ix, q _ _ _ _ g .refl (.int _)⟩
abbrev rLtU (K : PySem.W.Frag) : R2 := fun x y H Q => (rI0 fun i j => .bl (decide (i < j))) x y H Q ∨ rLtT K x y H Q
theorem op_ltU (hu : X.A.units < cLine) : OpR X (compareOp .Lt) (rLtU X.K) := op_lt.or (op_ltT hu)
theorem tups_ints (s : Sub Hb H) {v : V} {d : D} {a : List D} {ns : List Int} (h : IsO K Hb H v d) (e : tupD d = some a) (n : dInts a = some ns) : ∃ p, v = .ref p ∧ SqT K H p (ns.map V.int) := by
  obtain ⟨_, p, vs, e1, h1, l1⟩ := o_tupD s h e
  rw [is_ints l1 n] at h1
  exact ⟨p, e1, h1⟩
theorem rv_lt : RV2 K (rLtU K) gLt := fun Hb H x y dx dy k Q s ix iy g q => by
  have T : (∃ a b ns ms, tupD dx = some a ∧ tupD dy = some b ∧ dInts a = some ns ∧ dInts b = some ms ∧ k (.bl (HT.lexLt ns ms))) → rLtU K x y H Q := fun ⟨a, b, ns, ms, e1, e2, e3, e4, g⟩ => by
    obtain ⟨p, h1, h2⟩ := tups_ints s ix e1 e3
    obtain ⟨p', h3, h4⟩ := tups_ints s iy e2 e4
    exact .inr ⟨p, p', ns, ms, h1, h3, h2, h4, q _ _ _ _ g .refl (.bl _)⟩
  unfold gLt at g
  split at g
  · exact .inl ⟨_, _, o_int ix, o_int iy, q _ _ _ _ g .refl (.bl _)⟩
  · exact T g
abbrev rLeU (K : PySem.W.Frag) : R2 := fun x y H Q => (rI0 fun i j => .bl (decide (i ≤ j))) x y H Q ∨ rLeT K x y H Q
theorem op_leU (hu : X.A.units < cLine) : OpR X (compareOp .LtE) (rLeU X.K) := op_le.or (op_leT hu)
theorem rv_le : RV2 K (rLeU K) gLe := fun Hb H x y dx dy k Q s ix iy g q => by
  unfold gLe at g
  split at g
  · exact .inl ⟨_, _, o_int ix, o_int iy, q _ _ _ _ g .refl (.bl _)⟩
  · obtain ⟨a, b, ns, ms, e1, e2, e3, e4, g⟩ := g
    obtain ⟨p, h1, h2⟩ := tups_ints s ix e1 e3
    obtain ⟨p', h3, h4⟩ := tups_ints s iy e2 e4
    exact .inr ⟨p, p', ns, ms, h1, h3, h2, h4, q _ _ _ _ g .refl (.bl _)⟩
theorem rv_gt : RV2 K (rI0 fun i j => .bl (decide (j < i))) gGt := fun Hb H x y dx dy k Q s ix iy g q => by
  cases dx <;> cases dy <;> first | exact g.elim | skip
  exact ⟨_, _, o_int ix, o_int iy, q _ _ _ _ g .refl (.bl _)⟩
theorem rv_ge : RV2 K (rI0 fun i j => .bl (decide (j ≤ i))) gGe := fun Hb H x y dx dy k Q s ix iy g q => by
  cases dx <;> cases dy <;> first | exact g.elim | skip
  exact ⟨_, _, o_int ix, o_int iy, q _ _ _ _ g .refl (.bl _)⟩
theorem rv_eq : RV2 K (rEqD K) gEq := fun Hb H x y dx dy k Q s ix iy g q => by
  obtain ⟨a, b, ha, hb, sa, sb, g⟩ := g
  exact ⟨a, b, (ix.is s).dp ha, (iy.is s).dp hb, sa, sb, q _ _ _ _ g .refl (.bl _)⟩
theorem rv_ne : RV2 K (rNeD K) gNe := fun Hb H x y dx dy k Q s ix iy g q => by
  obtain ⟨a, b, ha, hb, sa, sb, g⟩ := g
  exact ⟨a, b, (ix.is s).dp ha, (iy.is s).dp hb, sa, sb, q _ _ _ _ g .refl (.bl _)⟩
theorem isN_iff {v : V} {d : D} (h : Is K H v d) : decide (v = .non) = isN d := by
  cases h <;> first | rfl | exact decide_eq_false (fun q => by cases q)
abbrev rIsU : R2 := fun x y H Q => (y = .non ∧ Q (.bl (decide (x = .non))) H) ∨ (∃ a b, x = .bl a ∧ y = .bl b ∧ Q (.bl (decide (a = b))) H)
abbrev rIsNotU : R2 := fun x y H Q => (y = .non ∧ Q (.bl (!decide (x = .non))) H) ∨ (∃ a b, x = .bl a ∧ y = .bl b ∧ Q (.bl (!decide (a = b))) H)
theorem op_isU : OpR X (compareOp .Is) rIsU := op_isN.or op_is_bl
theorem op_isNotU : OpR X (compareOp .IsNot) rIsNotU := op_notN.or op_isnot_bl
theorem rv_is : RV2 K rIsU gIs := fun Hb H x y dx dy k Q s ix iy g q => by
  unfold gIs at g
  split at g
  · exact .inl ⟨o_non iy, by rw [isN_iff (ix.is s)]; exact q _ _ _ _ g .refl (.bl _)⟩
  · exact .inr ⟨_, _, o_bl ix, o_bl iy, q _ _ _ _ g .refl (.bl _)⟩
  · exact g.elim
theorem rv_isNot : RV2 K rIsNotU gIsNot := fun Hb H x y dx dy k Q s ix iy g q => by
  unfold gIsNot at g
  split at g
  · exact .inl ⟨o_non iy, by rw [isN_iff (ix.is s)]; exact q _ _ _ _ g .refl (.bl _)⟩
  · exact .inr ⟨_, _, o_bl ix, o_bl iy, q _ _ _ _ g .refl (.bl _)⟩
  · exact g.elim
theorem atI_is {vs : List V} {ds : List D} {i : Int} {d : D} (l : IsL K H vs ds) (h : atI ds i = some d) : ∃ v, atI vs i = some v ∧ Is K H v d := by
  unfold atI at h ⊢
  rw [l.length]
  cases e : ixN ds.length i with
  | none => rw [e] at h; cases h
  | some j =>
    rw [e] at h
    obtain ⟨v, h1, h2⟩ := l.get (show ds[j]? = some d from h)
    exact ⟨v, h1, h2⟩
/-- what may be looked up -/
def isDict : D → Prop
  | .dk _ => True
  | .dt _ => True
  | _ => False
theorem isDict_ref {v : V} {d : D} (h : isDict d) (i : Is K H v d) : ∃ p, v = .ref p := by
  cases d <;> first | exact h.elim | skip
  · cases i; exact ⟨_, rfl⟩
  · cases i; exact ⟨_, rfl⟩
theorem isDict_cell {p : Addr} {d : D} (h : isDict d) (i : Is K Hb (.ref p) d) (s : Sub Hb H) : Cell K Hb H p d := by
  refine cell_of_is i s ?_
  cases d <;> first | exact h.elim | exact trivial
theorem getK_dict {d k : D} {r : Option D} (h : getK d k = some r) : isDict d := by
  cases d <;> cases k <;> simp only [getK] at h <;> first | exact trivial | cases h
/-- a dict, frozen or a slot's own -/
theorem o_dict (s : Sub Hb H) {v : V} {d : D} (h : IsO K Hb H v d) (hd : isDict d) : ∃ p, v = .ref p ∧ Cell K Hb H p d := by
  rcases h with h | ⟨p, rfl, c⟩
  · obtain ⟨p, rfl⟩ := isDict_ref hd h
    exact ⟨p, rfl, isDict_cell hd h s⟩
  · exact ⟨p, rfl, c⟩
theorem o_key (s : Sub Hb H) {v : V} {d c : D} {r : Option D} (h : IsO K Hb H v d) (g : getK c d = some r) : Is K Hb v d := by
  rcases h with h | ⟨p, rfl, cl⟩
  · exact h
  · cases c <;> cases d <;> simp only [getK] at g <;> first | exact cl.elim | cases g
def rIxDc : R2 := fun x y H Q => ∃ a v, x = .ref a ∧ DGet H a y (some v) ∧ Q v H
theorem ix_dict (hu : X.A.units + 1 < cLine) : IxR X rIxDc := by
  intro value slice pins s σ H x y v u Q I rx ry h hs
  obtain ⟨a, z, rfl, g, q⟩ := h
  obtain rfl : v = Value.ref a := rx
  exact tail_any (dict_typeIs I g) PySem.F.slot_dict_getitem.lookup (d_getItem hu I g ry fun w' s3 I3 rw' => ⟨z, H, I3, rw', q⟩) hs
abbrev rIxU (K : PySem.W.Frag) : R2 := fun x y H Q => rIx K x y H Q ∨ rIxDc x y H Q
theorem ix_U (hu : X.A.units + 1 < cLine) : IxR X (rIxU X.K) := IxR.or ix_seq (ix_dict hu)
theorem rv_ix : RV2 K (rIxU K) gIx := fun Hb H x y dx dy k Q s ix iy g q => by
  have T : ∀ {ds : List D} {i : Int}, tupD dx = some ds → IsO K Hb H y (.int i) → (∃ d, atI ds i = some d ∧ k d) → rIxU K x y H Q := fun {ds i} e iy g => by
    obtain ⟨_, a, vs, e, h, l⟩ := o_tupD s ix e
    obtain ⟨d, ha, g⟩ := g
    obtain ⟨v, hv, iv⟩ := atI_is l ha
    exact .inl (.inr (.inl ⟨a, vs, _, v, e, o_int iy, h, hv, q _ _ _ _ g .refl iv⟩))
  have L : ∀ {ds : List D} {i : Int}, lstD dx = some ds → IsO K Hb H y (.int i) → (∃ d, atI ds i = some d ∧ k d) → rIxU K x y H Q := fun {ds i} e iy g => by
    obtain ⟨a, vs, e, h, l⟩ := o_lstD s ix e
    obtain ⟨d, ha, g⟩ := g
    obtain ⟨v, hv, iv⟩ := atI_is l ha
    exact .inl (.inl ⟨a, vs, _, v, e, o_int iy, h, hv, q _ _ _ _ g .refl iv⟩)
  have Dc : (∃ d, getK dx dy = some (some d) ∧ k d) → rIxU K x y H Q := fun ⟨d, e, g⟩ => by
    obtain ⟨p, rfl, c⟩ := o_dict s ix (getK_dict e)
    obtain ⟨o, dg, _, h2⟩ := cell_get c (o_key s iy e) s e
    obtain ⟨w, rfl, iw⟩ := h2 d rfl
    exact .inr ⟨p, w, rfl, dg, q _ _ _ _ g .refl iw⟩
  unfold gIx at g
  split at g
  · exact T rfl iy g
  · exact L rfl iy g
  · exact T rfl iy g
  · exact L rfl iy g
  · obtain ⟨g1, c, g2, g3⟩ := g
    exact .inl (.inr (.inr ⟨_, _, c, o_str ix, o_int iy, Nat.le_trans g1 (by decide), g2, q _ _ _ _ g3 .refl (.str _)⟩))
  · exact Dc g
/-- in, not in -/
def rInDc (neg : Bool) : R2 := fun x y H Q => ∃ a o, y = .ref a ∧ DGet H a x o ∧ Q (.bl (if neg then !o.isSome else o.isSome)) H
theorem op_inDc (hu : X.A.units + 1 < cLine) : OpR X (compareOp .In) (rInDc false) := by
  intro pins s σ H x y v u Q I rx ry h
  obtain ⟨a, o, rfl, g, q⟩ := h
  obtain rfl : u = Value.ref a := ry
  exact d_in hu I g rx fun s3 I3 => ⟨.bl o.isSome, H, I3, rfl, q⟩
theorem op_notInDc (hu : X.A.units + 1 < cLine) : OpR X (compareOp .NotIn) (rInDc true) := by
  intro pins s σ H x y v u Q I rx ry h
  obtain ⟨a, o, rfl, g, q⟩ := h
  obtain rfl : u = Value.ref a := ry
  exact d_notIn hu I g rx fun s3 I3 => ⟨.bl (!o.isSome), H, I3, rfl, q⟩
abbrev rInU (K : PySem.W.Frag) : R2 := fun x y H Q => rInD K x y H Q ∨ ((∃ i j, x = .str i ∧ y = .str j ∧ Q (.bl (!(Builtin.Str.occurrences j i 0 j.length 1).isEmpty)) H) ∨ rInDc false x y H Q)
abbrev rNotInU (K : PySem.W.Frag) : R2 := fun x y H Q => rNotInD K x y H Q ∨ ((∃ i j, x = .str i ∧ y = .str j ∧ Q (.bl (!(!(Builtin.Str.occurrences j i 0 j.length 1).isEmpty))) H) ∨ rInDc true x y H Q)
theorem op_inU (hu : X.A.units + 65 < cLine) : OpR X (compareOp .In) (rInU X.K) := (op_inD hu).or (op_in_str.or (op_inDc (by omega)))
theorem op_notInU (hu : X.A.units + 65 < cLine) : OpR X (compareOp .NotIn) (rNotInU X.K) := (op_notInD hu).or (op_notin_str.or (op_notInDc (by omega)))
theorem pd_lst {ds : List D} {xs : List PyData} (h : pdL ds = some xs) : pd (.lst ds) = some (.list xs) := by simp [pd, h]
theorem in_cases {x c : D} {k : Bool → Prop} (h : inB x c k) : (∃ ds a xs, c = .lst ds ∧ pd x = some a ∧ pdL ds = some xs ∧ SeqAt.shaped a = true ∧ SeqAt.shaped (.list xs) = true ∧ k (xs.any fun z => PyData.eqv z a)) ∨
    (∃ z y, c = .str z ∧ x = .str y ∧ k (!(Builtin.Str.occurrences z y 0 z.length 1).isEmpty)) ∨ ∃ r, getK c x = some r ∧ k r.isSome := by
  unfold inB at h
  split at h
  · obtain ⟨a, xs, h⟩ := h
    exact .inl ⟨_, a, xs, rfl, h⟩
  · obtain ⟨y, h1, h2⟩ := h
    exact .inr (.inl ⟨_, y, rfl, h1, h2⟩)
  · exact .inr (.inr h)
theorem o_get (s : Sub Hb H) {v u : V} {c x : D} {r : Option D} (hc : IsO K Hb H u c) (hx : IsO K Hb H v x) (g : getK c x = some r) : ∃ p o, u = .ref p ∧ DGet H p v o ∧ o.isSome = r.isSome := by
  obtain ⟨p, rfl, cc⟩ := o_dict s hc (getK_dict g)
  obtain ⟨o, dg, h1, h2⟩ := cell_get cc (o_key s hx g) s g
  refine ⟨p, o, rfl, dg, ?_⟩
  cases r with
  | none => rw [h1 rfl]; rfl
  | some z => obtain ⟨w, e, _⟩ := h2 z rfl; rw [e]; rfl
theorem rv_in : RV2 K (rInU K) gIn := fun Hb H x y dx dy k Q s ix iy g q => by
  rcases in_cases g with ⟨ds, a, xs, e1, h1, h2, h3, h4, g2⟩ | ⟨z, w, e1, e2, g2⟩ | ⟨r, h, g2⟩
  · subst e1
    exact .inl ⟨a, xs, (ix.is s).dp h1, (iy.is s).dp (pd_lst h2), h3, h4, q _ _ _ _ g2 .refl (.bl _)⟩
  · subst e1 e2
    exact .inr (.inl ⟨_, _, o_str ix, o_str iy, q _ _ _ _ g2 .refl (.bl _)⟩)
  · obtain ⟨p, o, e, dg, ho⟩ := o_get s iy ix h
    exact .inr (.inr ⟨p, o, e, dg, by rw [ho]; exact q _ _ _ _ g2 .refl (.bl _)⟩)
theorem rv_notIn : RV2 K (rNotInU K) gNotIn := fun Hb H x y dx dy k Q s ix iy g q => by
  rcases in_cases g with ⟨ds, a, xs, e1, h1, h2, h3, h4, g2⟩ | ⟨z, w, e1, e2, g2⟩ | ⟨r, h, g2⟩
  · subst e1
    exact .inl ⟨a, xs, (ix.is s).dp h1, (iy.is s).dp (pd_lst h2), h3, h4, q _ _ _ _ g2 .refl (.bl _)⟩
  · subst e1 e2
    exact .inr (.inl ⟨_, _, o_str ix, o_str iy, q _ _ _ _ g2 .refl (.bl _)⟩)
  · obtain ⟨p, o, e, dg, ho⟩ := o_get s iy ix h
    exact .inr (.inr ⟨p, o, e, dg, by rw [ho]; exact q _ _ _ _ g2 .refl (.bl _)⟩)

/-! ### built-ins -/
theorem o_one {xs : List V} {d : D} (l : IsOL K Hb H xs [d]) : ∃ v, xs = [v] ∧ IsO K Hb H v d := by
  cases l with
  | cons a l => cases l; exact ⟨_, rfl, a⟩
theorem o_two {xs : List V} {d e : D} (l : IsOL K Hb H xs [d, e]) : ∃ v w, xs = [v, w] ∧ IsO K Hb H v d ∧ IsO K Hb H w e := by
  cases l with
  | cons a l =>
    obtain ⟨w, rfl, b⟩ := o_one l
    exact ⟨_, w, rfl, a, b⟩
abbrev rLenU (K : PySem.W.Frag) : List V → Hp → VK → Prop := fun xs H Q => (∃ p ys, xs = [.ref p] ∧ (SqL K H p ys ∨ SqT K H p ys) ∧ Q (.int ys.length) H) ∨ ((∃ a kvs, xs = [V.ref a] ∧ H a = some (.dK kvs) ∧ Q (.int kvs.length) H) ∨ (rLenT xs H Q ∨ ∃ z, xs = [.str z] ∧ z.length ≤ sizeLine ∧ Q (.int z.length) H))
theorem call_lenU : CallR X (.builtin "len") (rLenU X.K) := call_len_seq.or (call_lenD.or (call_len_dT.or call_len_str))
theorem rv_len : RVN K (rLenU K) gLen := fun Hb H xs ds k Q s l g q => by
  have T : ∀ {d : D} {es : List D}, IsOL K Hb H xs [d] → tupD d = some es → k (.int es.length) → rLenU K xs H Q := fun {d es} l e g => by
    obtain ⟨v, rfl, i⟩ := o_one l
    obtain ⟨_, a, vs, rfl, h, m⟩ := o_tupD s i e
    exact .inl ⟨a, vs, rfl, .inr h, by rw [m.length]; exact q _ _ _ _ g .refl (.int _)⟩
  have L : ∀ {d : D} {es : List D}, IsOL K Hb H xs [d] → lstD d = some es → k (.int es.length) → rLenU K xs H Q := fun {d es} l e g => by
    obtain ⟨v, rfl, i⟩ := o_one l
    obtain ⟨a, vs, rfl, h, m⟩ := o_lstD s i e
    exact .inl ⟨a, vs, rfl, .inl h, by rw [m.length]; exact q _ _ _ _ g .refl (.int _)⟩
  unfold gLen at g
  split at g
  · exact T l rfl g
  · exact L l rfl g
  · exact T l rfl g
  · exact L l rfl g
  · obtain ⟨v, rfl, i⟩ := o_one l
    obtain ⟨p, rfl, vs, h, e, _⟩ := o_dict s i trivial
    have z := congrArg List.length e
    simp only [List.length_map] at z
    exact .inr (.inl ⟨p, vs, rfl, h, by rw [z]; exact q _ _ _ _ g .refl (.int _)⟩)
  · obtain ⟨v, rfl, i⟩ := o_one l
    obtain ⟨p, rfl, vs, h, e, _⟩ := o_dict s i trivial
    have z := congrArg List.length e
    simp only [List.length_map] at z
    exact .inr (.inr (.inl ⟨p, vs, rfl, h, by rw [z]; exact q _ _ _ _ g .refl (.int _)⟩))
  · obtain ⟨v, rfl, i⟩ := o_one l
    obtain rfl := o_str i
    exact .inr (.inr (.inr ⟨_, rfl, Nat.le_trans g.1 (by decide), q _ _ _ _ g.2 .refl (.int _)⟩))
  · exact g.elim
theorem rv_abs : RVN K (fun xs H Q => ∃ i, xs = [.int i] ∧ Q (.int (if i < 0 then -i else i)) H) gAbs := fun Hb H xs ds k Q s l g q => by
  unfold gAbs at g
  split at g
  · obtain ⟨v, rfl, i⟩ := o_one l
    obtain rfl := o_int i
    exact ⟨_, rfl, q _ _ _ _ g .refl (.int _)⟩
  · exact g.elim
theorem rv_int : RVN K (fun xs H Q => (∃ i, xs = [.int i] ∧ Q (.int i) H) ∨ ∃ k, xs = [.bl k] ∧ Q (.int (if k then 1 else 0)) H) gInt := fun Hb H xs ds k Q s l g q => by
  unfold gInt at g
  split at g
  · obtain ⟨v, rfl, i⟩ := o_one l
    obtain rfl := o_int i
    exact .inl ⟨_, rfl, q _ _ _ _ g .refl (.int _)⟩
  · obtain ⟨v, rfl, i⟩ := o_one l
    obtain rfl := o_bl i
    exact .inr ⟨_, rfl, q _ _ _ _ g .refl (.int _)⟩
  · exact g.elim
theorem rv_max2 : RVN K (fun xs H Q => ∃ i j, xs = [.int i, .int j] ∧ Q (.int (if j > i then j else i)) H) gMax2 := fun Hb H xs ds k Q s l g q => by
  unfold gMax2 at g
  split at g
  · obtain ⟨v, w, rfl, i, j⟩ := o_two l
    obtain rfl := o_int i
    obtain rfl := o_int j
    exact ⟨_, _, rfl, q _ _ _ _ g .refl (.int _)⟩
  · exact g.elim
theorem rv_min2 : RVN K (fun xs H Q => ∃ i j, xs = [.int i, .int j] ∧ Q (.int (if j < i then j else i)) H) gMin2 := fun Hb H xs ds k Q s l g q => by
  unfold gMin2 at g
  split at g
  · obtain ⟨v, w, rfl, i, j⟩ := o_two l
    obtain rfl := o_int i
    obtain rfl := o_int j
    exact ⟨_, _, rfl, q _ _ _ _ g .refl (.int _)⟩
  · exact g.elim
abbrev rTupleU (K : PySem.W.Frag) : List V → Hp → VK → Prop := fun xs H Q => ∃ p ys, xs = [.ref p] ∧ ((SqL K H p ys ∧ ∀ l, H l = none → Q (.ref l) (upd H l (.tup ys))) ∨ (SqT K H p ys ∧ Q (.ref p) H))
theorem rv_tuple : RVN K (rTupleU K) gTuple := fun Hb H xs ds k Q s l g q => by
  have T : ∀ {d : D} {es : List D}, IsOL K Hb H xs [d] → tupD d = some es → k d → rTupleU K xs H Q := fun {d es} l e g => by
    obtain ⟨v, rfl, i⟩ := o_one l
    obtain ⟨i2, a, vs, rfl, h, m⟩ := o_tupD s i e
    exact ⟨a, vs, rfl, .inr ⟨h, q _ _ _ _ g .refl i2⟩⟩
  have L : ∀ {d : D} {es : List D}, IsOL K Hb H xs [d] → lstD d = some es → k (.tup es) → rTupleU K xs H Q := fun {d es} l e g => by
    obtain ⟨v, rfl, i⟩ := o_one l
    obtain ⟨a, vs, rfl, h, m⟩ := o_lstD s i e
    exact ⟨a, vs, rfl, .inl ⟨h, fun p hp => q _ _ _ _ g (.one hp) (.tup upd_same (m.mono (Sub.new (s.none hp))))⟩⟩
  unfold gTuple at g
  split at g
  · exact T l rfl g
  · exact L l rfl g
  · exact T l rfl g
  · exact L l rfl g
  · exact g.elim
theorem o_seqD (s : Sub Hb H) {v : V} {d : D} {es : List D} (h : IsO K Hb H v d) (e : tupD d = some es ∨ lstD d = some es) : ∃ a vs, v = .ref a ∧ (SqL K H a vs ∨ SqT K H a vs) ∧ IsL K Hb vs es := by
  rcases e with e | e
  · obtain ⟨_, a, vs, e1, h1, l⟩ := o_tupD s h e
    exact ⟨a, vs, e1, .inr h1, l⟩
  · obtain ⟨a, vs, e1, h1, l⟩ := o_lstD s h e
    exact ⟨a, vs, e1, .inl h1, l⟩
abbrev rListU (K : PySem.W.Frag) : List V → Hp → VK → Prop := fun xs H Q => ∃ p ys, xs = [.ref p] ∧ (SqL K H p ys ∨ SqT K H p ys) ∧ ∀ l, H l = none → Q (.ref l) (upd H l (.lst ys))
theorem rv_list : RVN K (rListU K) gList := fun Hb H xs ds k Q s l g q => by
  obtain ⟨d, es, rfl, e, g⟩ := g
  obtain ⟨v, rfl, i⟩ := o_one l
  obtain ⟨a, vs, rfl, h, m⟩ := o_seqD s i e
  exact ⟨a, vs, rfl, h, fun p hp => q _ _ _ _ g (.one hp) (.lst upd_same (m.mono (Sub.new (s.none hp))))⟩
theorem rv_sum : RVN K (rSum K) gSum := fun Hb H xs ds k Q s l g q => by
  obtain ⟨d, es, ns, rfl, e1, e2, g⟩ := g
  obtain ⟨v, rfl, i⟩ := o_one l
  obtain ⟨a, vs, rfl, h, m⟩ := o_lstD s i e1
  obtain rfl := is_ints m e2
  exact ⟨a, ns, rfl, h, q _ _ _ _ g .refl (.int _)⟩
theorem rv_all : RVN K (rAll K) gAll := fun Hb H xs ds k Q s l g q => by
  obtain ⟨d, es, bs, rfl, e1, e2, g⟩ := g
  obtain ⟨v, rfl, i⟩ := o_one l
  obtain ⟨a, vs, rfl, h, m⟩ := o_lstD s i e1
  obtain rfl := is_bools m e2
  exact ⟨a, bs, rfl, h, q _ _ _ _ g .refl (.bl _)⟩
theorem rv_any : RVN K (rAny K) gAny := fun Hb H xs ds k Q s l g q => by
  obtain ⟨d, es, bs, rfl, e1, e2, g⟩ := g
  obtain ⟨v, rfl, i⟩ := o_one l
  obtain ⟨a, vs, rfl, h, m⟩ := o_lstD s i e1
  obtain rfl := is_bools m e2
  exact ⟨a, bs, rfl, h, q _ _ _ _ g .refl (.bl _)⟩
end
end DL

/-! DL3: tests, and, or, if; arguments that are lent cells; calls of defs; statements. -/
namespace DL
open PySem L2
open PyProof.Rows hiding St

section
variable {X : Cx} {Wx : WX} {P I J J1 J2 J3 : List Nat} {e a b c : Expr} {es rest : List Expr} {F G : FE} {T U : FT} {A : FA} {pos p2 : Pos} {ta tb : TE} {tc uc : TT} {tA : TA}
/-! ### tests -/
theorem dt_val (ha : DE X Wx P I e ta F J) (he : ∀ whole, isTrue e X.env whole = (do let v ← whole; standAt e.pos; holding [v] (truthy v)) := by intro _; rfl) : DT X Wx P I e (tB ta) (fTest F) J := by
  obtain ⟨pa, ka⟩ := ha
  refine dt_of (pt_val pa he) fun W ρ σ Hb H Q post xp E f x q => ka W ρ σ Hb H _ _ xp E f x fun d ρ1 v Hb1 H1 f1 E1 s1 i1 => ?_
  cases d <;> first | exact f1.elim | skip
  exact ⟨_, is_bl i1, q _ _ _ _ f1 E1 s1⟩
theorem dt_cmp {op : CmpOp} {r : R2} {g : G2} (ho : OpR X (compareOp op) r) (hr : RV2 X.K r g) (ha : DE X Wx P I a ta F J1) (hb : DEo X Wx P J1 b tb G J) (hm : behindInMarks op b = false := by first | exact nomark _ | rfl) : DT X Wx P I (.Compare a [op] [b] pos) (tTest (tOp r ta tb)) (fTest (fBin g F G)) J := by
  refine dt_of (pt_cmpR ho ha.pe hb.pe hm) fun W ρ σ Hb H Q post xp E f x q => bin_core hr ha hb W ρ σ Hb H _ _ xp E f x fun d ρ1 v Hb1 H1 f1 E1 s1 i1 => ?_
  cases d <;> first | exact f1.elim | skip
  exact ⟨_, is_bl i1, q _ _ _ _ f1 E1 s1⟩
theorem dt_cmpL {op : CmpOp} {r : R2} {g : G2} (i : Nat) {x : Str} (ho : OpR X (compareOp op) r) (hr : RV2 X.K r g) (hb : DEo X Wx P I b tb G J) (hm : behindInMarks op b = false := by first | exact nomark _ | rfl) (hi : i ∈ P ∨ i ∈ I := by decide) (hj : i ∈ P ∨ i ∈ J := by decide) (hN : X.N[i]? = some x := by rfl) (hv : Vis X.env.scope x := by first | exact Or.inl rfl | exact Or.inr (Or.inl rfl) | exact Or.inr (Or.inr rfl)) (hd : (x == ("__debug__" : Str)) = false := by decide)
    (hcd : (x == ("__classdict__" : Str)) = false := by decide) : DT X Wx P I (.Compare (.Name x p2) [op] [b] pos) (tTest (tOp r (tVar i) tb)) (fTest (fBinL g i G)) J := by
  refine dt_of (pt_cmpR ho (pe_var hN hv hd hcd) hb.pe hm) fun W ρ σ Hb H Q post xp E f x q => binL_core i hr hb hi hj W ρ σ Hb H _ _ xp E f x fun d ρ1 v Hb1 H1 f1 E1 s1 i1 => ?_
  cases d <;> first | exact f1.elim | skip
  exact ⟨_, is_bl i1, q _ _ _ _ f1 E1 s1⟩
theorem dt_not (ha : DT X Wx P I a tc T J) : DT X Wx P I (.UnaryOp .Not a pos) (tNot tc) (fNot T) J := by
  obtain ⟨pa, ka⟩ := ha
  exact dt_of (pt_not pa) fun W ρ σ Hb H Q post xp E f x q => ka W ρ σ Hb H _ _ xp E f x fun b ρ1 Hb1 H1 f1 E1 s1 => q _ _ _ _ f1 E1 s1
theorem dw_and1 (ha : DT X Wx P I a tc T J) : DW X Wx P I (.BoolOp .And [a] pos) tc T J := by
  obtain ⟨pa, ka⟩ := ha
  exact ⟨pw_and1 pa, ka⟩
theorem dw_or1 (ha : DT X Wx P I a tc T J) : DW X Wx P I (.BoolOp .Or [a] pos) tc T J := by
  obtain ⟨pa, ka⟩ := ha
  exact ⟨pw_or1 pa, ka⟩
theorem dw_and (ha : DT X Wx P I a tc T I) (hb : DW X Wx P I (.BoolOp .And (b :: rest) pos) uc U I) : DW X Wx P I (.BoolOp .And (a :: b :: rest) pos) (tAnd tc uc) (fAnd T U) I := by
  obtain ⟨pa, ka⟩ := ha
  obtain ⟨pb, kb⟩ := hb
  refine ⟨pw_and pa pb, fun W ρ σ Hb H Q post xp E f x q => ka W ρ σ Hb H _ _ xp E f x fun b ρ1 Hb1 H1 f1 E1 s1 => ?_⟩
  cases b with
  | true =>
    rw [if_pos rfl] at f1 ⊢
    exact kb W ρ1 σ Hb1 H1 _ _ xp E1 f1 x fun b ρ2 Hb2 H2 f2 E2 s2 => q _ _ _ _ f2 E2 (s1.trans s2)
  | false =>
    rw [if_neg Bool.false_ne_true] at f1 ⊢
    exact q _ _ _ _ f1 E1 s1
theorem dw_or (ha : DT X Wx P I a tc T I) (hb : DW X Wx P I (.BoolOp .Or (b :: rest) pos) uc U I) : DW X Wx P I (.BoolOp .Or (a :: b :: rest) pos) (tOr tc uc) (fOr T U) I := by
  obtain ⟨pa, ka⟩ := ha
  obtain ⟨pb, kb⟩ := hb
  refine ⟨pw_or pa pb, fun W ρ σ Hb H Q post xp E f x q => ka W ρ σ Hb H _ _ xp E f x fun b ρ1 Hb1 H1 f1 E1 s1 => ?_⟩
  cases b with
  | true =>
    rw [if_pos rfl] at f1 ⊢
    exact q _ _ _ _ f1 E1 s1
  | false =>
    rw [if_neg Bool.false_ne_true] at f1 ⊢
    exact kb W ρ1 σ Hb1 H1 _ _ xp E1 f1 x fun b ρ2 Hb2 H2 f2 E2 s2 => q _ _ _ _ f2 E2 (s1.trans s2)
theorem dt_w (h : DW X Wx P I e tc T J) : DT X Wx P I e tc T J := by
  obtain ⟨pa, ka⟩ := h
  exact ⟨pa.pt, ka⟩
theorem de_one {op} (h : DE X Wx P I a ta F J) : DE X Wx P I (.BoolOp op [a] pos) ta F J := by
  obtain ⟨pa, ka⟩ := h
  exact ⟨pe_one pa, ka⟩
theorem de_and (ha : DE X Wx P I a ta F I) (hb : DE X Wx P I (.BoolOp .And (b :: rest) pos) tb G I) : DE X Wx P I (.BoolOp .And (a :: b :: rest) pos) (tAndV ta tb) (fAndV F G) I := by
  obtain ⟨pa, ka⟩ := ha
  obtain ⟨pb, kb⟩ := hb
  refine ⟨pe_and pa pb, fun W ρ σ Hb H Q post xp E f x q => ka W ρ σ Hb H _ _ xp E f x fun d ρ1 v Hb1 H1 f1 E1 s1 i1 => ?_⟩
  cases d <;> first | exact f1.elim | skip
  rename_i b
  refine ⟨b, is_bl i1, ?_⟩
  cases b with
  | true =>
    rw [if_pos rfl]
    exact kb W ρ1 σ Hb1 H1 _ _ xp E1 f1 x fun d ρ2 v Hb2 H2 f2 E2 s2 i2 => q _ _ _ _ _ f2 E2 (s1.trans s2) i2
  | false =>
    rw [if_neg Bool.false_ne_true]
    exact q _ _ _ _ _ f1 E1 s1 (.bl _)
theorem de_or (ha : DE X Wx P I a ta F I) (hb : DE X Wx P I (.BoolOp .Or (b :: rest) pos) tb G I) : DE X Wx P I (.BoolOp .Or (a :: b :: rest) pos) (tOrV ta tb) (fOrV F G) I := by
  obtain ⟨pa, ka⟩ := ha
  obtain ⟨pb, kb⟩ := hb
  refine ⟨pe_or pa pb, fun W ρ σ Hb H Q post xp E f x q => ka W ρ σ Hb H _ _ xp E f x fun d ρ1 v Hb1 H1 f1 E1 s1 i1 => ?_⟩
  cases d <;> first | exact f1.elim | skip
  rename_i b
  refine ⟨b, is_bl i1, ?_⟩
  cases b with
  | true =>
    rw [if_pos rfl]
    exact q _ _ _ _ _ f1 E1 s1 (.bl _)
  | false =>
    rw [if_neg Bool.false_ne_true]
    exact kb W ρ1 σ Hb1 H1 _ _ xp E1 f1 x fun d ρ2 v Hb2 H2 f2 E2 s2 i2 => q _ _ _ _ _ f2 E2 (s1.trans s2) i2
theorem de_not (ha : DE X Wx P I a ta F J) : DE X Wx P I (.UnaryOp .Not a pos) (tNotV ta) (fNotV F) J := by
  obtain ⟨pa, ka⟩ := ha
  refine ⟨pe_not pa, fun W ρ σ Hb H Q post xp E f x q => ka W ρ σ Hb H _ _ xp E f x fun d ρ1 v Hb1 H1 f1 E1 s1 i1 => ?_⟩
  cases d <;> first | exact f1.elim | skip
  exact ⟨_, is_bl i1, q _ _ _ _ _ f1 E1 s1 (.bl _)⟩
theorem de_if (hc : DT X Wx P I c tc T J1) (ha : DE X Wx P J1 a ta F J) (hb : DE X Wx P J1 b tb G J) : DE X Wx P I (.IfExp c a b pos) (tIf tc ta tb) (fIf T F G) J := by
  obtain ⟨pc, kc⟩ := hc
  obtain ⟨pa, ka⟩ := ha
  obtain ⟨pb, kb⟩ := hb
  refine ⟨pe_ifExp pc pa pb, fun W ρ σ Hb H Q post xp E f x q => kc W ρ σ Hb H _ _ xp E f x fun b ρ1 Hb1 H1 f1 E1 s1 => ?_⟩
  cases b with
  | true =>
    rw [if_pos rfl] at f1 ⊢
    exact ka W ρ1 σ Hb1 H1 _ _ xp E1 f1 x fun d ρ2 v Hb2 H2 f2 E2 s2 i2 => q _ _ _ _ _ f2 E2 (s1.trans s2) i2
  | false =>
    rw [if_neg Bool.false_ne_true] at f1 ⊢
    exact kb W ρ1 σ Hb1 H1 _ _ xp E1 f1 x fun d ρ2 v Hb2 H2 f2 E2 s2 i2 => q _ _ _ _ _ f2 E2 (s1.trans s2) i2
/-- built-ins by their names -/
theorem de_callB {x : Str} {id : String} {r : List V → Hp → VK → Prop} {g : GN} (hc : CallR X (.builtin id) r) (hr : RVN X.K r g) (hm : X.mg x = none) (hv : bootBuiltins x = some (.builtin id)) (ha : DAo X Wx P I (e :: es) tA A J) (hg : Gl X x := by rfl) (hn : x ≠ "__name__" := by decide) (hdb : (x == ("__debug__" : Str)) = false := by decide)
    (he : starEach (e :: es) X.env = (false, eval e X.env) :: starEach es X.env := by rfl) (hpl : (backTo pos (starEach es X.env)).any (·.1) = false := by rfl) : DE X Wx P I (.Call (.Name x p2) (e :: es) [] pos) (tCB r tA) (fN g A) J := by
  obtain ⟨pa, ka⟩ := ha
  refine de_of (pe_callB hc hg hm hv pa hn hdb he hpl) fun W ρ σ Hb H Q post xp E f x q => ka W ρ σ Hb H _ _ xp E f x fun ds ρ1 vs Hb1 H1 f1 E1 s1 i1 => ?_
  refine hr Hb1 H1 vs ds _ _ E1.sub i1 f1 fun w dz Hb2 H2 kz g iz => ?_
  obtain ⟨E2, s2⟩ := g.env E1
  exact q _ _ _ _ _ kz E2 (s1.trans s2) iz
theorem de_callTy {x : Str} {n : String} {r : List V → Hp → VK → Prop} {g : GN} (hc : CallR X (.type n) r) (hr : RVN X.K r g) (hm : X.mg x = none) (hv : bootBuiltins x = some (.type n)) (ha : DAo X Wx P I (e :: es) tA A J) (hg : Gl X x := by rfl) (hn : x ≠ "__name__" := by decide) (hdb : (x == ("__debug__" : Str)) = false := by decide)
    (he : starEach (e :: es) X.env = (false, eval e X.env) :: starEach es X.env := by rfl) (hpl : (backTo pos (starEach es X.env)).any (·.1) = false := by rfl) : DE X Wx P I (.Call (.Name x p2) (e :: es) [] pos) (tCB r tA) (fN g A) J := by
  obtain ⟨pa, ka⟩ := ha
  refine de_of (pe_callTy hc hg hm hv pa hn hdb he hpl) fun W ρ σ Hb H Q post xp E f x q => ka W ρ σ Hb H _ _ xp E f x fun ds ρ1 vs Hb1 H1 f1 E1 s1 i1 => ?_
  refine hr Hb1 H1 vs ds _ _ E1.sub i1 f1 fun w dz Hb2 H2 kz g iz => ?_
  obtain ⟨E2, s2⟩ := g.env E1
  exact q _ _ _ _ _ kz E2 (s1.trans s2) iz
end

/-! ### arguments, some of them lent cells (the slots that own them: sl) -/
def Args (K : PySem.W.Frag) (Hb : Hp) (σ : St) : List (Option Nat) → List V → Env → Prop
  | [], [], [] => True
  | none :: sl, v :: vs, d :: ds => (∃ x, d = some x ∧ Is K Hb v x) ∧ Args K Hb σ sl vs ds
  | some j :: sl, v :: vs, _ :: ds => σ[j]? = some (some v) ∧ Args K Hb σ sl vs ds
  | _, _, _ => False
theorem Args.mono {K : PySem.W.Frag} {Hb Hb' : Hp} {σ : St} (s : Sub Hb Hb') : ∀ {sl : List (Option Nat)} {vs : List V} {ds : Env}, Args K Hb σ sl vs ds → Args K Hb' σ sl vs ds
  | [], [], [], h => h
  | none :: sl, v :: vs, d :: ds, ⟨⟨x, e, i⟩, h⟩ => ⟨⟨x, e, i.mono s⟩, Args.mono s h⟩
  | some j :: sl, v :: vs, _ :: ds, ⟨e, h⟩ => ⟨e, Args.mono s h⟩
/-- the data that the callee sees -/
@[simp] def fill : List (Option Nat) → Env → Env → Env
  | none :: sl, d :: ds, ρ => d :: fill sl ds ρ
  | some j :: sl, _ :: ds, ρ => get ρ j :: fill sl ds ρ
  | _, _, _ => []
/-- the lent cells as they come back -/
@[simp] def unfill : List (Option Nat) → Env → Env → Env
  | none :: sl, _ :: r, ρ => unfill sl r ρ
  | some j :: sl, d :: r, ρ => unfill sl r (put ρ j d)
  | _, _, ρ => ρ
@[simp] def lentOk : List (Option Nat) → Env → Prop
  | [], _ => True
  | none :: sl, ρ => lentOk sl ρ
  | some j :: sl, ρ => (match get ρ j with
    | some _ => True
    | none => False) ∧ lentOk sl ρ
structure DO (X : Cx) (Wx : WX) (P I : List Nat) (es : List Expr) (t : TA) (F : Env → (Env → Env → Prop) → XP → Prop) (sl : List (Option Nat)) (J : List Nat) : Prop where
  pe : PA X es t
  ev : ∀ (W : Wd) (ρ : Env) (σ : St) (Hb H : Hp) (Q : List V → Hp → Prop) (post : Env → Env → Prop) (xp : XP), EnvOk X.K W P I ρ σ Hb H → F ρ post xp → XOk X Wx W P σ xp →
    (∀ ds ρ' vs Hb' H', post ds ρ' → EnvOk X.K W P J ρ' σ Hb' H' → Sub Hb Hb' → Args X.K Hb' σ sl vs ds → Q vs H') → t σ H Q
@[simp ↓] def oNil : Env → (Env → Env → Prop) → XP → Prop := fun ρ post _ => post [] ρ
@[simp ↓] def oVal (a : FE) (b : Env → (Env → Env → Prop) → XP → Prop) : Env → (Env → Env → Prop) → XP → Prop := fun ρ post xp => a ρ (fun x ρ1 => b ρ1 (fun xs ρ2 => post (some x :: xs) ρ2) xp) xp
@[simp ↓] def oOwn (j : Nat) (b : Env → (Env → Env → Prop) → XP → Prop) : Env → (Env → Env → Prop) → XP → Prop := fun ρ post xp => (match get ρ j with
    | some _ => True
    | none => False) ∧ b ρ (fun xs ρ2 => post (none :: xs) ρ2) xp
section
variable {X : Cx} {Wx : WX} {P I J J1 : List Nat} {e a b c : Expr} {es : List Expr} {F : FE} {A : Env → (Env → Env → Prop) → XP → Prop} {sl : List (Option Nat)} {pos : Pos} {ta : TE} {tA : TA}
theorem do_nil : DO X Wx P I [] tNil oNil [] I := ⟨pa_nil, fun W ρ σ Hb H Q post xp E f _ q => q _ _ _ _ _ f E (Sub.refl _) trivial⟩
theorem do_val (ha : DE X Wx P I e ta F J1) (hb : DO X Wx P J1 es tA A sl J) (hs : starEach (e :: es) X.env = (false, eval e X.env) :: starEach es X.env := by rfl) : DO X Wx P I (e :: es) (tCons ta tA) (oVal F A) (none :: sl) J := by
  obtain ⟨pa, ka⟩ := ha
  obtain ⟨pb, kb⟩ := hb
  refine ⟨pa_cons pa pb hs, fun W ρ σ Hb H Q post xp E f x q => ka W ρ σ Hb H _ _ xp E f x fun d ρ1 v Hb1 H1 f1 E1 s1 i1 => ?_⟩
  exact kb W ρ1 σ Hb1 H1 _ _ xp E1 f1 x fun ds ρ2 vs Hb2 H2 f2 E2 s2 i2 => q _ _ _ _ _ f2 E2 (s1.trans s2) ⟨⟨_, rfl, i1.mono s2⟩, i2⟩
theorem do_own (j : Nat) {x : Str} (hb : DO X Wx P I es tA A sl J) (hj : j ∈ P ∨ j ∈ I := by decide) (hN : X.N[j]? = some x := by rfl) (hv : Vis X.env.scope x := by first | exact Or.inl rfl | exact Or.inr (Or.inl rfl) | exact Or.inr (Or.inr rfl)) (hd : (x == ("__debug__" : Str)) = false := by decide)
    (hcd : (x == ("__classdict__" : Str)) = false := by decide) (hs : starEach (.Name x pos :: es) X.env = (false, eval (.Name x pos) X.env) :: starEach es X.env := by rfl) : DO X Wx P I (.Name x pos :: es) (tCons (tVar j) tA) (oOwn j A) (some j :: sl) J := by
  obtain ⟨pb, kb⟩ := hb
  refine ⟨pa_cons (pe_var hN hv hd hcd) pb hs, fun W ρ σ Hb H Q post xp E f x q => ?_⟩
  obtain ⟨f0, f⟩ := f
  cases g : get ρ j with
  | none => rw [g] at f0; exact f0.elim
  | some d =>
    obtain ⟨p, ep, _⟩ := E.cel j d hj g
    refine ⟨_, ep, kb W ρ σ Hb H _ _ xp E f x fun ds ρ2 vs Hb2 H2 f2 E2 s2 i2 => q _ _ _ _ _ f2 E2 s2 ⟨ep, i2⟩⟩
end

/-! ### a def's promise over data; io: the parameters that are lent cells -/
abbrev DFn := Env → Post → XP → Prop
def lentAt (io : List Nat) (vs : List V) : Nat → Addr → Prop := fun i p => i ∈ io ∧ vs[i]? = some (.ref p)
def spD (K : PySem.W.Frag) (n : Nat) (io : List Nat) (G : DFn) : Sp := fun vs H Q E => vs.length = n ∧ ∃ (ρ : Env) (Hb : Hp) (post : Post) (xp : XP), EnvOk K ⟨Hb, H, lentAt io vs⟩ io [] ρ (vs.map some) Hb H ∧ G ρ post xp ∧
  (∀ d ρ' v Hb' H', post d ρ' → EnvOk K ⟨Hb, H, lentAt io vs⟩ io [] ρ' (vs.map some) Hb' H' → Is K Hb' v d → Q v H') ∧
  (∀ c ρ' cls dx Hb' H', xp c ρ' → EnvOk K ⟨Hb, H, lentAt io vs⟩ io [] ρ' (vs.map some) Hb' H' → XIs K Hb' cls dx c → E cls dx H')

/-- the places of the lent arguments -/
def ioOf : Nat → List (Option Nat) → List Nat
  | _, [] => []
  | k, none :: sl => ioOf (k + 1) sl
  | k, some _ :: sl => k :: ioOf (k + 1) sl
def slots : List (Option Nat) → List Nat
  | [] => []
  | none :: sl => slots sl
  | some j :: sl => j :: slots sl
theorem mem_ioOf : ∀ (sl : List (Option Nat)) (k i : Nat), i ∈ ioOf k sl ↔ ∃ m j, i = k + m ∧ sl[m]? = some (some j)
  | [], k, i => by simp [ioOf]
  | none :: sl, k, i => by
    rw [ioOf, mem_ioOf sl (k + 1) i]
    constructor
    · rintro ⟨m, j, e, h⟩; exact ⟨m + 1, j, by omega, by simpa using h⟩
    · rintro ⟨m, j, e, h⟩
      cases m with
      | zero => simp at h
      | succ m => exact ⟨m, j, by omega, by simpa using h⟩
  | some j0 :: sl, k, i => by
    rw [ioOf, List.mem_cons, mem_ioOf sl (k + 1) i]
    constructor
    · rintro (e | ⟨m, j, e, h⟩)
      · exact ⟨0, j0, by omega, rfl⟩
      · exact ⟨m + 1, j, by omega, by simpa using h⟩
    · rintro ⟨m, j, e, h⟩
      cases m with
      | zero => exact .inl (by omega)
      | succ m => exact .inr ⟨m, j, by omega, by simpa using h⟩
theorem mem_slots : ∀ {sl : List (Option Nat)} {m j : Nat}, sl[m]? = some (some j) → j ∈ slots sl
  | [], _, _, h => by simp at h
  | none :: sl, 0, _, h => by simp at h
  | none :: sl, m + 1, _, h => mem_slots (sl := sl) (m := m) (by simpa using h)
  | some j0 :: sl, 0, _, h => by simp at h; subst h; exact List.mem_cons_self
  | some j0 :: sl, m + 1, _, h => List.mem_cons_of_mem _ (mem_slots (sl := sl) (m := m) (by simpa using h))
theorem of_slots : ∀ {sl : List (Option Nat)} {j : Nat}, j ∈ slots sl → ∃ m : Nat, sl[m]? = some (some j)
  | none :: sl, j, h => by
    obtain ⟨m, e⟩ := of_slots (sl := sl) (show j ∈ slots sl from h)
    exact ⟨m + 1, by simpa using e⟩
  | some j0 :: sl, j, h => by
    rcases List.mem_cons.mp (show j ∈ j0 :: slots sl from h) with e | h
    · exact ⟨0, by simp [e]⟩
    · obtain ⟨m, e⟩ := of_slots h
      exact ⟨m + 1, by simpa using e⟩
  | [], j, h => by cases h
theorem slots_inj : ∀ {sl : List (Option Nat)} {m k j : Nat}, (slots sl).Nodup → sl[m]? = some (some j) → sl[k]? = some (some j) → m = k
  | [], m, k, j, _, h, _ => by simp at h
  | none :: sl, 0, _, _, _, h, _ => by simp at h
  | none :: sl, _ + 1, 0, _, _, _, h => by simp at h
  | none :: sl, m + 1, k + 1, j, n, h1, h2 => congrArg (· + 1) (slots_inj (sl := sl) n (by simpa using h1) (by simpa using h2))
  | some j0 :: sl, 0, 0, _, _, _, _ => rfl
  | some j0 :: sl, 0, k + 1, j, n, h1, h2 => by
    simp at h1; subst h1
    exact absurd (mem_slots (sl := sl) (m := k) (by simpa using h2)) (List.nodup_cons.mp n).1
  | some j0 :: sl, m + 1, 0, j, n, h1, h2 => by
    simp at h2; subst h2
    exact absurd (mem_slots (sl := sl) (m := m) (by simpa using h1)) (List.nodup_cons.mp n).1
  | some j0 :: sl, m + 1, k + 1, j, n, h1, h2 => congrArg (· + 1) (slots_inj (sl := sl) (List.nodup_cons.mp n).2 (by simpa using h1) (by simpa using h2))
section
variable {K : PySem.W.Frag} {Hb : Hp} {σ : St}
theorem Args.len : ∀ {sl : List (Option Nat)} {vs : List V} {ds ρ : Env}, Args K Hb σ sl vs ds → (vs.map some).length = (fill sl ds ρ).length
  | [], [], [], _, _ => rfl
  | none :: sl, v :: vs, d :: ds, ρ, h => congrArg (· + 1) (Args.len (ρ := ρ) h.2)
  | some j :: sl, v :: vs, _ :: ds, ρ, h => congrArg (· + 1) (Args.len (ρ := ρ) h.2)
theorem Args.val : ∀ {sl : List (Option Nat)} {vs : List V} {ds ρ : Env} {m : Nat} {d : D}, Args K Hb σ sl vs ds → (∀ j, sl[m]? ≠ some (some j)) → get (fill sl ds ρ) m = some d → ∃ v, (vs.map some)[m]? = some (some v) ∧ Is K Hb v d
  | [], [], [], _, _, _, _, _, g => by simp [fill, get] at g
  | none :: sl, v :: vs, d :: ds, ρ, 0, _, h, _, g => by
    obtain ⟨⟨x, e, i⟩, _⟩ := h
    simp only [fill, get] at g
    rw [e] at g; cases g
    exact ⟨v, rfl, i⟩
  | none :: sl, v :: vs, d :: ds, ρ, m + 1, _, h, n, g => by
    obtain ⟨w, e, i⟩ := Args.val (ρ := ρ) (m := m) h.2 (fun j => by simpa using n j) (by simpa [fill, get] using g)
    exact ⟨w, by simpa using e, i⟩
  | some j :: sl, v :: vs, _ :: ds, ρ, 0, _, h, n, g => absurd rfl (n j)
  | some j :: sl, v :: vs, _ :: ds, ρ, m + 1, _, h, n, g => by
    obtain ⟨w, e, i⟩ := Args.val (ρ := ρ) (m := m) h.2 (fun j => by simpa using n j) (by simpa [fill, get] using g)
    exact ⟨w, by simpa using e, i⟩
theorem Args.own : ∀ {sl : List (Option Nat)} {vs : List V} {ds ρ : Env} {m j : Nat}, Args K Hb σ sl vs ds → sl[m]? = some (some j) → ∃ v, (vs.map some)[m]? = some (some v) ∧ σ[j]? = some (some v) ∧ get (fill sl ds ρ) m = get ρ j
  | [], [], [], _, _, _, _, e => by simp at e
  | none :: sl, v :: vs, d :: ds, ρ, 0, _, h, e => by simp at e
  | none :: sl, v :: vs, d :: ds, ρ, m + 1, j, h, e => by
    obtain ⟨w, e1, e2, e3⟩ := Args.own (ρ := ρ) (m := m) (j := j) h.2 (by simpa using e)
    exact ⟨w, by simpa using e1, e2, by simpa [fill, get] using e3⟩
  | some j0 :: sl, v :: vs, _ :: ds, ρ, 0, j, h, e => by
    simp at e; subst e
    exact ⟨v, rfl, h.1, rfl⟩
  | some j0 :: sl, v :: vs, _ :: ds, ρ, m + 1, j, h, e => by
    obtain ⟨w, e1, e2, e3⟩ := Args.own (ρ := ρ) (m := m) (j := j) h.2 (by simpa using e)
    exact ⟨w, by simpa using e1, e2, by simpa [fill, get] using e3⟩
end
theorem unfill_len : ∀ (sl : List (Option Nat)) (r ρ : Env), (unfill sl r ρ).length = ρ.length
  | [], _, ρ => by simp [unfill]
  | none :: sl, [], ρ => by simp [unfill]
  | none :: sl, _ :: r, ρ => unfill_len sl r ρ
  | some j :: sl, [], ρ => by simp [unfill]
  | some j :: sl, d :: r, ρ => (unfill_len sl r (put ρ j d)).trans (put_length ρ j d)
theorem unfill_ne : ∀ (sl : List (Option Nat)) (r ρ : Env) (i : Nat), i ∉ slots sl → get (unfill sl r ρ) i = get ρ i
  | [], _, ρ, _, _ => by simp [unfill]
  | none :: sl, [], ρ, _, _ => by simp [unfill]
  | none :: sl, _ :: r, ρ, i, h => unfill_ne sl r ρ i h
  | some j :: sl, [], ρ, _, _ => by simp [unfill]
  | some j :: sl, d :: r, ρ, i, h => by
    have h1 : i ≠ j := fun e => h (by rw [e]; exact List.mem_cons_self)
    exact (unfill_ne sl r (put ρ j d) i fun q => h (List.mem_cons_of_mem _ q)).trans (get_put_ne _ _ _ _ fun e => h1 e.symm)
theorem unfill_at : ∀ (sl : List (Option Nat)) (r ρ : Env) (m j : Nat), (slots sl).Nodup → r.length = sl.length → j < ρ.length → sl[m]? = some (some j) → get (unfill sl r ρ) j = get r m
  | [], _, ρ, m, j, _, _, _, h => by simp at h
  | none :: sl, [], ρ, m, _, _, l, _, _ => by simp at l
  | none :: sl, _ :: r, ρ, 0, _, _, _, _, h => by simp at h
  | none :: sl, _ :: r, ρ, m + 1, j, n, l, b, h => unfill_at sl r ρ m j n (by simpa using l) b (by simpa using h)
  | some j0 :: sl, [], ρ, m, _, _, l, _, _ => by simp at l
  | some j0 :: sl, d :: r, ρ, 0, j, n, l, b, h => by
    simp at h; subst h
    exact (unfill_ne sl r (put ρ j0 d) j0 (List.nodup_cons.mp n).1).trans (get_put_same ρ j0 d b)
  | some j0 :: sl, d :: r, ρ, m + 1, j, n, l, b, h => unfill_at sl r (put ρ j0 d) m j (List.nodup_cons.mp n).2 (by simpa using l) (by rw [put_length]; exact b) (by simpa using h)

section
variable {K : PySem.W.Frag} {W : Wd} {P J : List Nat} {ρ : Env} {σ : St} {Hb H : Hp} {sl : List (Option Nat)} {vs : List V} {ds : Env}
/-- what the callee gets -/
theorem EnvOk.lend (E : EnvOk K W P J ρ σ Hb H) (ar : Args K Hb σ sl vs ds) (hs : ∀ j ∈ slots sl, j ∈ P ∨ j ∈ J) (nd : (slots sl).Nodup) (hl : ∀ j ∈ slots sl, get ρ j ≠ none) :
    EnvOk K ⟨Hb, H, lentAt (ioOf 0 sl) vs⟩ (ioOf 0 sl) [] (fill sl ds ρ) (vs.map some) Hb H where
  sub := E.sub
  stp := Stp.refl _ _ _
  len := ar.len
  val := fun i d g n _ => ar.val (fun j e => n ((mem_ioOf sl 0 i).mpr ⟨i, j, by omega, e⟩)) g
  cel := fun i d hi g => by
    have hi : i ∈ ioOf 0 sl := hi.elim id (fun q => by cases q)
    obtain ⟨m, j, e0, e⟩ := (mem_ioOf sl 0 i).mp hi
    have e0 : i = m := by omega
    subst e0
    obtain ⟨v, e1, e2, e3⟩ := ar.own (ρ := ρ) e
    rw [e3] at g
    obtain ⟨p, ep, n, c, _, _⟩ := E.cel j d (hs j (mem_slots e)) g
    rw [e2] at ep; cases ep
    exact ⟨p, e1, n, c, fun _ => ⟨hi, by simpa using e1⟩, fun q => by cases q⟩
  sep := fun i k p hi hk gi gk ei ek => by
    have hi : i ∈ ioOf 0 sl := hi.elim id (fun q => by cases q)
    have hk : k ∈ ioOf 0 sl := hk.elim id (fun q => by cases q)
    obtain ⟨m, j, e0, e⟩ := (mem_ioOf sl 0 i).mp hi
    obtain ⟨m', j', e0', e'⟩ := (mem_ioOf sl 0 k).mp hk
    have e0 : i = m := by omega
    have e0' : k = m' := by omega
    subst e0 e0'
    obtain ⟨v, e1, e2, e3⟩ := ar.own (ρ := ρ) e
    obtain ⟨v', e1', e2', e3'⟩ := ar.own (ρ := ρ) e'
    rw [ei] at e1; cases e1
    rw [ek] at e1'; cases e1'
    have hjj : j = j' := E.sep j j' p (hs j (mem_slots e)) (hs j' (mem_slots e')) (hl j (mem_slots e)) (hl j' (mem_slots e')) e2 e2'
    subst hjj
    exact slots_inj nd e e'
/-- what comes back -/
theorem EnvOk.given {ρ' : Env} {Hb' H' : Hp} (E : EnvOk K W P J ρ σ Hb H) (ar : Args K Hb σ sl vs ds) (hs : ∀ j ∈ slots sl, j ∈ P ∨ j ∈ J) (nd : (slots sl).Nodup) (hl : ∀ j ∈ slots sl, get ρ j ≠ none)
    (E2 : EnvOk K ⟨Hb, H, lentAt (ioOf 0 sl) vs⟩ (ioOf 0 sl) [] ρ' (vs.map some) Hb' H') (lsl : sl.length = vs.length) : EnvOk K W P J (unfill sl ρ' ρ) σ Hb' H' := by
  have lr : ρ'.length = sl.length := by rw [← E2.len, List.length_map, lsl]
  have bnd : ∀ j ∈ slots sl, j < ρ.length := fun j hj => by
    cases q : get ρ j with
    | none => exact absurd q (hl j hj)
    | some d => exact get_lt q
  have ioj : ∀ {m j : Nat}, sl[m]? = some (some j) → m ∈ ioOf 0 sl := fun {m j} e => (mem_ioOf sl 0 m).mpr ⟨m, j, by omega, e⟩
  refine ⟨E2.sub, E.stp.trans E2.stp fun i p ⟨hi, e⟩ => ?_, by rw [unfill_len]; exact E.len, fun i d g nP nJ => ?_, fun i d hi g => ?_, fun i k p hi hk gi gk => ?_⟩
  · obtain ⟨m, j, e0, em⟩ := (mem_ioOf sl 0 i).mp hi
    have e0 : i = m := by omega
    subst e0
    obtain ⟨v, e1, e2, e3⟩ := ar.own (ρ := ρ) em
    have ev : v = .ref p := by
      rw [List.getElem?_map, e] at e1
      exact (Option.some.inj (Option.some.inj e1)).symm
    subst ev
    have hj := mem_slots em
    exact E.ownedW j p ⟨hs j hj, hl j hj, e2⟩
  · have ni : i ∉ slots sl := fun q => (hs i q).elim nP nJ
    rw [unfill_ne _ _ _ _ ni] at g
    obtain ⟨v, e, is⟩ := E.val i d g nP nJ
    exact ⟨v, e, is.mono E2.stp.hb⟩
  · by_cases hm : i ∈ slots sl
    · obtain ⟨m, em⟩ := of_slots hm
      rw [unfill_at sl ρ' ρ m i nd lr (bnd i hm) em] at g
      obtain ⟨p, ep, n, c, hp, _⟩ := E2.cel m d (.inl (ioj em)) g
      obtain ⟨v, e1, e2, _⟩ := ar.own (ρ := ρ) em
      rw [ep] at e1; cases e1
      cases q : get ρ i with
      | none => exact absurd q (hl i hm)
      | some d0 =>
        obtain ⟨p', ep', _, _, h1, h2⟩ := E.cel i d0 hi q
        rw [e2] at ep'; cases ep'
        exact ⟨p, e2, n, c, h1, h2⟩
    · rw [unfill_ne _ _ _ _ hm] at g
      obtain ⟨p, ep, n, c, h1, h2⟩ := E.cel i d hi g
      obtain ⟨u, hu⟩ := c.some
      refine ⟨p, ep, ?_, c.mono E2.stp.hb fun o e => E2.stp.fr p o e fun k ⟨hk, ek⟩ => ?_, h1, h2⟩
      · cases q : Hb' p with
        | none => rfl
        | some o =>
          rcases E2.stp.fs p o q with r | r
          · have r : Hb p = some o := r
            rw [n] at r; cases r
          · have r : H p = none := r
            rw [hu] at r; cases r
      · obtain ⟨m, j, e0, em⟩ := (mem_ioOf sl 0 k).mp hk
        have e0 : k = m := by omega
        subst e0
        obtain ⟨v, e1, e2, e3⟩ := ar.own (ρ := ρ) em
        have ev : v = .ref p := by
          rw [List.getElem?_map, ek] at e1
          exact (Option.some.inj (Option.some.inj e1)).symm
        subst ev
        have hj := mem_slots em
        have := E.sep i j p hi (hs j hj) (by rw [g]; simp) (hl j hj) ep e2
        exact hm (this ▸ hj)
  · have ok : ∀ i, (i ∈ P ∨ i ∈ J) → get (unfill sl ρ' ρ) i ≠ none → get ρ i ≠ none := fun i hi g => by
      by_cases hm : i ∈ slots sl
      · exact hl i hm
      · rw [unfill_ne _ _ _ _ hm] at g; exact g
    exact E.sep i k p hi hk (ok i hi gi) (ok k hk gk)
end
theorem lentOk_of : ∀ {sl : List (Option Nat)} {ρ : Env}, lentOk sl ρ → ∀ j ∈ slots sl, get ρ j ≠ none
  | none :: sl, ρ, h, j, hj => lentOk_of (sl := sl) h j hj
  | some j0 :: sl, ρ, h, j, hj => by
    rcases List.mem_cons.mp (show j ∈ j0 :: slots sl from hj) with e | hj
    · subst e
      intro q
      have h1 := h.1
      rw [q] at h1
      exact h1
    · exact lentOk_of h.2 j hj
  | [], _, _, _, hj => by cases hj
theorem Args.slLen {K : PySem.W.Frag} {Hb : Hp} {σ : St} : ∀ {sl : List (Option Nat)} {vs : List V} {ds : Env}, Args K Hb σ sl vs ds → sl.length = vs.length
  | [], [], [], _ => rfl
  | none :: sl, v :: vs, d :: ds, h => congrArg (· + 1) (Args.slLen h.2)
  | some j :: sl, v :: vs, _ :: ds, h => congrArg (· + 1) (Args.slLen h.2)

/-- what stands behind a call: simp -dsimp does not look into it -/
inductive Lock (p : Post) (x : XP) : Type | mk
def callD (G : DFn) (vs : Env) (post : Post) (xp : XP) (_ : Lock post xp) : Prop := G vs post xp
/-- the call, over data -/
@[simp ↓] def fCall (G : DFn) (sl : List (Option Nat)) (A : Env → (Env → Env → Prop) → XP → Prop) : FE := fun ρ post xp => A ρ (fun ds ρ1 => lentOk sl ρ1 ∧ callD G (fill sl ds ρ1) (fun d r => post d (unfill sl r ρ1)) (fun c r => xp c (unfill sl r ρ1)) .mk) xp

/-- release: of the slots in I those in J stay owned -/
theorem EnvOk.drop {K : PySem.W.Frag} {W : Wd} {P I J : List Nat} {ρ : Env} {σ : St} {Hb H : Hp} (E : EnvOk K W P I ρ σ Hb H) (hJ : ∀ j ∈ J, j ∈ I) (hPI : ∀ j ∈ I, j ∉ P) : ∃ Hb', EnvOk K W P J ρ σ Hb' H ∧ Sub Hb Hb' := by
  classical
  let rel : Addr → Prop := fun a => ∃ i, i ∈ I ∧ i ∉ J ∧ get ρ i ≠ none ∧ σ[i]? = some (some (.ref a))
  let Hb' : Hp := fun a => if rel a then H a else Hb a
  have hpos : ∀ {a}, rel a → Hb' a = H a := fun {a} h => if_pos h
  have hneg : ∀ {a}, ¬ rel a → Hb' a = Hb a := fun {a} h => if_neg h
  have relN : ∀ a, rel a → Hb a = none ∧ W.H a = none := fun a ⟨i, hi, _, g, e⟩ => by
    cases q : get ρ i with
    | none => exact absurd q g
    | some d =>
      obtain ⟨p, ep, n, _, _, h2⟩ := E.cel i d (.inr hi) q
      rw [e] at ep; cases ep
      exact ⟨n, h2 hi⟩
  have sb : Sub Hb Hb' := fun a o e => by
    by_cases h : rel a
    · rw [(relN a h).1] at e; cases e
    · rw [hneg h]; exact e
  have sH : Sub Hb' H := fun a o e => by
    by_cases h : rel a
    · rw [hpos h] at e; exact e
    · rw [hneg h] at e; exact E.sub a o e
  refine ⟨Hb', ⟨sH, ⟨E.stp.hb.trans sb, E.stp.fr, fun a o e => ?_, E.stp.al⟩, E.len, fun i d g nP nJ => ?_, fun i d hi g => ?_, fun i j p hi hj => E.sep i j p (hi.imp id (hJ i)) (hj.imp id (hJ j))⟩, sb⟩
  · by_cases h : rel a
    · exact .inr (relN a h).2
    · rw [hneg h] at e; exact E.stp.fs a o e
  · by_cases hI : i ∈ I
    · obtain ⟨p, ep, n, c, _, _⟩ := E.cel i d (.inr hI) g
      have hr : rel p := ⟨i, hI, nJ, by rw [g]; simp, ep⟩
      exact ⟨_, ep, (c.mono sb (H' := Hb') fun o e => by rw [hpos hr]; exact e).is (Sub.refl _)⟩
    · obtain ⟨v, e, is⟩ := E.val i d g nP hI
      exact ⟨v, e, is.mono sb⟩
  · have hi' : i ∈ P ∨ i ∈ I := hi.imp id (hJ i)
    obtain ⟨p, ep, n, c, h1, h2⟩ := E.cel i d hi' g
    have nr : ¬ rel p := fun ⟨k, hk, hkJ, gk, ek⟩ => by
      have e := E.sep i k p hi' (.inr hk) (by rw [g]; simp) gk ep ek
      subst e
      rcases hi with hi | hi
      · exact hPI i hk hi
      · exact hkJ hi
    exact ⟨p, ep, by rw [hneg nr]; exact n, c.mono sb fun o e => e, h1, fun q => h2 (hJ i q)⟩

section
variable {X : Cx} {Wx : WX} {P I J J1 : List Nat} {e a b c : Expr} {es : List Expr} {F : FE} {A : Env → (Env → Env → Prop) → XP → Prop} {sl : List (Option Nat)} {pos p : Pos} {k n : Nat} {f : Addr} {fd : FuncData} {ps : List Str} {G : DFn} {x : Str} {io : List Nat} {tA : TA}
/-- a call's reading, by the promise -/
theorem call_core {t : TA} (tk : Takes X Wx) (hio : ioOf 0 sl = io) (hsl : ∀ j ∈ slots sl, j ∈ P ∨ j ∈ J) (nd : (slots sl).Nodup) (hPJ : ∀ j ∈ J, j ∉ P) (hn : sl.length = n)
    (ka : ∀ (W : Wd) (ρ : Env) (σ : St) (Hb H : Hp) (Q : List V → Hp → Prop) (post : Env → Env → Prop) (xp : XP), EnvOk X.K W P I ρ σ Hb H → A ρ post xp → XOk X Wx W P σ xp →
    (∀ ds ρ' vs Hb' H', post ds ρ' → EnvOk X.K W P J ρ' σ Hb' H' → Sub Hb Hb' → Args X.K Hb' σ sl vs ds → Q vs H') → t σ H Q) :
    ∀ (W : Wd) (ρ : Env) (σ : St) (Hb H : Hp) (Q : VK) (post : Post) (xp : XP), EnvOk X.K W P I ρ σ Hb H → fCall G sl A ρ post xp → XOk X Wx W P σ xp →
    (∀ d ρ' v Hb' H', post d ρ' → EnvOk X.K W P J ρ' σ Hb' H' → Sub Hb Hb' → Is X.K Hb' v d → Q v H') → t σ H fun vs H1 => spD X.K n io G vs H1 Q (WE Wx σ) := by
  intro W ρ σ Hb H Q post xp E h x q
  subst hio
  refine ka W ρ σ Hb H _ _ xp E h x fun ds ρ1 vs Hb1 H1 f1 E1 s1 ar => ?_
  obtain ⟨lo, g⟩ := f1
  have hl := lentOk_of lo
  refine ⟨by rw [← ar.slLen]; exact hn, fill sl ds ρ1, Hb1, _, _, E1.lend ar hsl nd hl, g, fun d ρ' v Hb' H' p1 E2 is => ?_, fun c ρ' cls dx Hb' H' p1 E2 xi => ?_⟩
  · exact q _ _ _ _ _ p1 (E1.given ar hsl nd hl E2 ar.slLen) (s1.trans E2.stp.hb) is
  · have E3 := E1.given ar hsl nd hl E2 ar.slLen
    obtain ⟨Hb3, E4, s4⟩ := E3.drop (J := []) (fun j q => by cases q) hPJ
    refine x c _ cls dx Hb3 H' p1 E4 ?_
    obtain ⟨e, r | ⟨d, us, e1, e2, e3, e4⟩⟩ := xi
    · exact ⟨e, .inl r⟩
    · exact ⟨e, .inr ⟨d, us, e1, s4 _ _ e2, e3, e4.mono s4⟩⟩
theorem de_call (Fn : FnOk X.prog X.w X.K X.mg X.base (L2.CX X.prog X.w) k f fd ps (spD X.K n io G)) (hr : Room k X.A) (hm : X.mg x = some (.ref f)) (hk : PySem.W.keepIn X.K (.ref f) = true) (hb : Binds X.K fd ps []) (tk : Takes X Wx)
    (ha : DO X Wx P I (e :: es) tA A sl J) (hio : ioOf 0 sl = io := by decide) (hsl : ∀ j ∈ slots sl, j ∈ P ∨ j ∈ J := by decide) (nd : (slots sl).Nodup := by decide) (hPJ : ∀ j ∈ J, j ∉ P := by decide) (hn : sl.length = n := by decide)
    (hg : Gl X x := by rfl) (hdb : (x == ("__debug__" : Str)) = false := by decide) (he : starEach (e :: es) X.env = (false, eval e X.env) :: starEach es X.env := by rfl) (hpl : (backTo pos (starEach es X.env)).any (·.1) = false := by rfl) :
    DE X Wx P I (.Call (.Name x p) (e :: es) [] pos) (tCallS (spD X.K n io G) (WE Wx) tA) (fCall G sl A) J := by
  obtain ⟨pa, ka⟩ := ha
  exact de_of (pe_callS Fn hr hg hm hk hb (fun σ => passAt tk σ) pa hdb he hpl) (call_core tk hio hsl nd hPJ hn ka)
end
end DL

/-! DL4: statements over data. -/
namespace DL
open PySem L2
open PyProof.Rows hiding St

structure SPo where
  nx : Env → Prop
  rt : Post
  bk : Env → Prop
  ct : Env → Prop
  ex : XP
abbrev FS := Env → SPo → Prop
def SPo.sq (S : SPo) (n : Env → Prop) : SPo := { nx := n, rt := S.rt, bk := S.bk, ct := S.ct, ex := S.ex }
def SPo.lp (S : SPo) (n : Env → Prop) : SPo := { nx := n, rt := S.rt, bk := S.nx, ct := n, ex := S.ex }
@[simp ↓] theorem sq_nx (S : SPo) (n : Env → Prop) : (S.sq n).nx = n := rfl
@[simp ↓] theorem sq_rt (S : SPo) (n : Env → Prop) : (S.sq n).rt = S.rt := rfl
@[simp ↓] theorem sq_bk (S : SPo) (n : Env → Prop) : (S.sq n).bk = S.bk := rfl
@[simp ↓] theorem sq_ct (S : SPo) (n : Env → Prop) : (S.sq n).ct = S.ct := rfl
@[simp ↓] theorem sq_ex (S : SPo) (n : Env → Prop) : (S.sq n).ex = S.ex := rfl
@[simp ↓] theorem lp_nx (S : SPo) (n : Env → Prop) : (S.lp n).nx = n := rfl
@[simp ↓] theorem lp_rt (S : SPo) (n : Env → Prop) : (S.lp n).rt = S.rt := rfl
@[simp ↓] theorem lp_bk (S : SPo) (n : Env → Prop) : (S.lp n).bk = S.nx := rfl
@[simp ↓] theorem lp_ct (S : SPo) (n : Env → Prop) : (S.lp n).ct = n := rfl
@[simp ↓] theorem lp_ex (S : SPo) (n : Env → Prop) : (S.lp n).ex = S.ex := rfl
structure SOk (X : Cx) (Wx : WX) (P L J : List Nat) (W : Wd) (Hb : Hp) (D : Ends) (S : SPo) : Prop where
  nx : ∀ ρ' σ' Hb' H', S.nx ρ' → EnvOk X.K W P J ρ' σ' Hb' H' → Sub Hb Hb' → D.nx σ' H'
  rt : ∀ d ρ' σ' v Hb' H', S.rt d ρ' → EnvOk X.K W P [] ρ' σ' Hb' H' → Is X.K Hb' v d → D.rt v H'
  bk : ∀ ρ' σ' Hb' H', S.bk ρ' → EnvOk X.K W P L ρ' σ' Hb' H' → Sub Hb Hb' → D.bk σ' H'
  ct : ∀ ρ' σ' Hb' H', S.ct ρ' → EnvOk X.K W P L ρ' σ' Hb' H' → Sub Hb Hb' → D.ct σ' H'
  ex : ∀ c ρ' cls dx σ' Hb' H', S.ex c ρ' → EnvOk X.K W P [] ρ' σ' Hb' H' → XIs X.K Hb' cls dx c → Wx cls dx σ' H'
structure DS (X : Cx) (Wx : WX) (P L I : List Nat) (st : Stmt) (F : FS) (J : List Nat) : Prop where
  run : ∃ t, PS X st t ∧ ∀ (W : Wd) (ρ : Env) (σ : St) (Hb H : Hp) (D : Ends) (S : SPo), EnvOk X.K W P I ρ σ Hb H → F ρ S → SOk X Wx P L J W Hb D S → t D σ H
structure DSs (X : Cx) (Wx : WX) (P L I : List Nat) (st : List Stmt) (F : FS) (J : List Nat) : Prop where
  run : ∃ t, PSs X st t ∧ ∀ (W : Wd) (ρ : Env) (σ : St) (Hb H : Hp) (D : Ends) (S : SPo), EnvOk X.K W P I ρ σ Hb H → F ρ S → SOk X Wx P L J W Hb D S → t D σ H
theorem SOk.from {X : Cx} {Wx : WX} {P L J : List Nat} {W : Wd} {Hb Hb1 : Hp} {D : Ends} {S : SPo} (h : SOk X Wx P L J W Hb D S) (s : Sub Hb Hb1) : SOk X Wx P L J W Hb1 D S :=
  ⟨fun ρ' σ' Hb' H' a E t => h.nx ρ' σ' Hb' H' a E (s.trans t), h.rt, fun ρ' σ' Hb' H' a E t => h.bk ρ' σ' Hb' H' a E (s.trans t), fun ρ' σ' Hb' H' a E t => h.ct ρ' σ' Hb' H' a E (s.trans t), h.ex⟩
theorem SOk.xok {X : Cx} {Wx : WX} {P L J : List Nat} {W : Wd} {Hb : Hp} {D : Ends} {S : SPo} (h : SOk X Wx P L J W Hb D S) (σ : St) : XOk X Wx W P σ S.ex := fun c ρ' cls dx Hb' H' e E x => h.ex c ρ' cls dx σ Hb' H' e E x

/-! ### readings -/
@[simp ↓] def fNext : FS := fun ρ S => S.nx ρ
@[simp ↓] def fSeq (A B : FS) : FS := fun ρ S => A ρ (S.sq fun ρ1 => B ρ1 S)
@[simp ↓] def fDrop (F : FE) : FS := fun ρ S => F ρ (fun _ ρ1 => S.nx ρ1) S.ex
@[simp ↓] def fRet (F : FE) : FS := fun ρ S => F ρ S.rt S.ex
@[simp ↓] def fRetN : FS := fun ρ S => S.rt .non ρ
@[simp ↓] def fSet (i : Nat) (F : FE) : FS := fun ρ S => F ρ (fun d ρ1 => S.nx (put ρ1 i (some d))) S.ex
@[simp ↓] def fIfS (T : FT) (A B : FS) : FS := fun ρ S => T ρ (fun b ρ1 => if b = true then A ρ1 S else B ρ1 S) S.ex
@[simp ↓] def fBreak : FS := fun ρ S => S.bk ρ
@[simp ↓] def fCont : FS := fun ρ S => S.ct ρ
abbrev FG := D → Env → (Env → Prop) → Prop
@[simp ↓] def gNm (i : Nat) : FG := fun d ρ k => k (put ρ i (some d))
abbrev FGs := List D → Env → (Env → Prop) → Prop
@[simp ↓] def gNl : FGs
  | [], ρ, k => k ρ
  | _, _, _ => False
@[simp ↓] def gCn (g : FG) (r : FGs) : FGs
  | d :: ds, ρ, k => g d ρ fun ρ1 => r ds ρ1 k
  | _, _, _ => False
@[simp ↓] def gTp (r : FGs) : FG
  | .tup ds, ρ, k => r ds ρ k
  | .ktp ds, ρ, k => r ds ρ k
  | _, _, _ => False
@[simp ↓] def fAsg (g : FG) (F : FE) : FS := fun ρ S => F ρ (fun d ρ1 => g d ρ1 S.nx) S.ex

/-- assigning a frozen value to a slot that owns nothing -/
theorem EnvOk.set {K : PySem.W.Frag} {W : Wd} {P I : List Nat} {ρ : Env} {σ : St} {Hb H : Hp} {i : Nat} {v : V} {d : D} (E : EnvOk K W P I ρ σ Hb H) (h : Is K Hb v d) (hP : i ∉ P) (hI : i ∉ I) : EnvOk K W P I (put ρ i (some d)) (σ.set i (some v)) Hb H where
  sub := E.sub
  stp := E.stp
  len := by rw [List.length_set, put_length]; exact E.len
  val := fun j e g nP nI => by
    rcases get_put g with ⟨rfl, q⟩ | ⟨hn, q⟩
    · cases q
      have hl : j < σ.length := by
        have := get_lt g
        rw [put_length] at this
        rw [E.len]; exact this
      exact ⟨v, by rw [List.getElem?_set_self hl], h⟩
    · obtain ⟨w, e1, e2⟩ := E.val j e q nP nI
      exact ⟨w, by rw [List.getElem?_set_ne (Ne.symm hn)]; exact e1, e2⟩
  cel := fun j e hj g => by
    have hn : j ≠ i := fun q => by subst q; exact hj.elim hP hI
    rw [get_put_ne _ _ _ _ (Ne.symm hn)] at g
    obtain ⟨p, e1, r⟩ := E.cel j e hj g
    exact ⟨p, by rw [List.getElem?_set_ne (Ne.symm hn)]; exact e1, r⟩
  sep := fun j k p hj hk gj gk ej ek => by
    have nj : j ≠ i := fun q => by subst q; exact hj.elim hP hI
    have nk : k ≠ i := fun q => by subst q; exact hk.elim hP hI
    rw [get_put_ne _ _ _ _ (Ne.symm nj)] at gj
    rw [get_put_ne _ _ _ _ (Ne.symm nk)] at gk
    rw [List.getElem?_set_ne (Ne.symm nj)] at ej
    rw [List.getElem?_set_ne (Ne.symm nk)] at ek
    exact E.sep j k p hj hk gj gk ej ek

/-- only the slots in ts differ -/
def Off (ts : List Nat) (σ σ' : St) : Prop := σ'.length = σ.length ∧ ∀ i, i ∉ ts → σ'[i]? = σ[i]?
theorem Off.refl (ts : List Nat) (σ : St) : Off ts σ σ := ⟨rfl, fun _ _ => rfl⟩
theorem Off.trans {ts us : List Nat} {σ σ1 σ2 : St} (a : Off ts σ σ1) (b : Off us σ1 σ2) : Off (ts ++ us) σ σ2 :=
  ⟨b.1.trans a.1, fun i h => (b.2 i fun q => h (List.mem_append_right _ q)).trans (a.2 i fun q => h (List.mem_append_left _ q))⟩
structure DG (X : Cx) (P I : List Nat) (tg : Expr) (ts : List Nat) (t : TG) (g : FG) : Prop where
  pe : PG X tg t
  ev : ∀ (W : Wd) (ρ : Env) (σ : St) (Hb H : Hp) (v : V) (d : D) (Q : St → Hp → Prop) (k : Env → Prop), EnvOk X.K W P I ρ σ Hb H → Is X.K Hb v d → g d ρ k →
    (∀ ρ' σ', k ρ' → EnvOk X.K W P I ρ' σ' Hb H → Off ts σ σ' → Q σ' H) → t v σ H Q
structure DGs (X : Cx) (P I : List Nat) (tg : List Expr) (ts : List Nat) (t : TGs) (g : FGs) : Prop where
  pe : PGs X tg t
  ev : ∀ (W : Wd) (ρ : Env) (σ : St) (Hb H : Hp) (vs : List V) (ds : List D) (Q : St → Hp → Prop) (k : Env → Prop), EnvOk X.K W P I ρ σ Hb H → IsL X.K Hb vs ds → g ds ρ k →
    (∀ ρ' σ', k ρ' → EnvOk X.K W P I ρ' σ' Hb H → Off ts σ σ' → Q σ' H) → t vs σ H Q
section
variable {X : Cx} {Wx : WX} {P L I J J1 J2 : List Nat} {e tg c : Expr} {es : List Expr} {st : Stmt} {rest A B : List Stmt} {F : FE} {T : FT} {Fa Fb : FS} {g : FG} {r : FGs} {pos pos' : Pos} {te : TE} {tt : TT} {tA : TA} {tg1 : TG} {tgs : TGs}
theorem dg_name (i : Nat) {x : Str} (hN : X.N.Nodup) (hi : X.N[i]? = some x := by rfl) (hx : Loc X.env.scope x := by first | exact Or.inl rfl | exact Or.inr rfl) (hf : X.fn x = true ∨ X.env.scope.names.lookup x = some .local := by first | exact .inl rfl | exact .inr rfl | assumption)
    (hP : i ∉ P := by decide) (hI : i ∉ I := by decide) : DG X P I (.Name x pos) [i] (gName i) (gNm i) :=
  ⟨pg_name hN hi hx hf, fun W ρ σ Hb H v d Q k E is f q => q _ _ f (E.set is hP hI) ⟨List.length_set, fun j hj => by rw [List.getElem?_set_ne (fun e => hj (by rw [e]; exact List.mem_cons_self))]⟩⟩
theorem dgs_nil : DGs X P I [] [] gNil gNl := ⟨pgs_nil, fun W ρ σ Hb H vs ds Q k E is f q => by
  cases is with
  | nil => exact ⟨rfl, q _ _ f E (Off.refl _ _)⟩
  | cons a l => exact f.elim⟩
theorem dgs_cons {t1 t2 : List Nat} (h1 : DG X P I e t1 tg1 g) (h2 : DGs X P I es t2 tgs r) (hs : (assignEach (e :: es) X.env).map (·.2) = assign e X.env :: (assignEach es X.env).map (·.2) := by rfl) : DGs X P I (e :: es) (t1 ++ t2) (gCons tg1 tgs) (gCn g r) := by
  obtain ⟨p1, k1⟩ := h1
  obtain ⟨p2, k2⟩ := h2
  refine ⟨pgs_cons p1 p2 hs, fun W ρ σ Hb H vs ds Q k E is f q => ?_⟩
  cases is with
  | nil => exact f.elim
  | cons a l => exact ⟨_, _, rfl, k1 W ρ σ Hb H _ _ _ _ E a f fun ρ1 σ1 f1 E1 o1 => k2 W ρ1 σ1 Hb H _ _ _ _ E1 l f1 fun ρ2 σ2 f2 E2 o2 => q ρ2 σ2 f2 E2 (o1.trans o2)⟩
theorem dg_tup {k : Nat} {n : Nat} {ts : List Nat} (hc : X.calm = true) (h : DGs X P I es ts tgs r) (hlen : ∀ ds ρ k, r ds ρ k → ds.length = n)
    (hn : (assignEach es X.env).length = n := by rfl) (hst : (assignEach es X.env).findIdx? (·.1) = none := by rfl) : DG X P I (.Tuple es k pos) ts (gTup X.K n tgs) (gTp r) := by
  obtain ⟨p, kk⟩ := h
  refine ⟨pg_tup hc p hn hst, fun W ρ σ Hb H v d Q k E is f q => ?_⟩
  cases d <;> first | exact f.elim | skip
  · obtain ⟨a, vs, rfl, h, l⟩ := is_tupD is rfl
    exact ⟨a, vs, rfl, E.sub.sqT h, by rw [l.length]; exact hlen _ _ _ f, kk W ρ σ Hb H vs _ Q k E l f q⟩
  · obtain ⟨a, vs, rfl, h, l⟩ := is_tupD is rfl
    exact ⟨a, vs, rfl, E.sub.sqT h, by rw [l.length]; exact hlen _ _ _ f, kk W ρ σ Hb H vs _ Q k E l f q⟩

theorem ds_weak (h : DS X Wx P L I st Fa J) (hJ : ∀ j ∈ J1, j ∈ J := by decide) (hP : ∀ j ∈ J, j ∉ P := by decide) : DS X Wx P L I st Fa J1 := by
  obtain ⟨t, p, k⟩ := h.run
  refine ⟨t, p, fun W ρ σ Hb H D S E f q => k W ρ σ Hb H D S E f ⟨fun ρ' σ' Hb' H' a E' s' => ?_, q.rt, q.bk, q.ct, q.ex⟩⟩
  obtain ⟨Hb2, E2, s2⟩ := E'.drop hJ hP
  exact q.nx _ _ _ _ a E2 (s'.trans s2)
theorem dss_nil : DSs X Wx P L I [] fNext I := ⟨_, pss_nil, fun W ρ σ Hb H D S E f q => q.nx _ _ _ _ f E (Sub.refl _)⟩
theorem dss_cons (h1 : DS X Wx P L I st Fa J1) (h2 : DSs X Wx P L J1 rest Fb J) : DSs X Wx P L I (st :: rest) (fSeq Fa Fb) J := by
  obtain ⟨t1, p1, k1⟩ := h1.run
  obtain ⟨t2, p2, k2⟩ := h2.run
  exact ⟨_, pss_cons p1 p2, fun W ρ σ Hb H D S E f q => k1 W ρ σ Hb H _ _ E f ⟨fun ρ' σ' Hb' H' a E' s' => k2 W ρ' σ' Hb' H' D S E' a (q.from s'), q.rt, q.bk, q.ct, q.ex⟩⟩
theorem dss_one (h1 : DS X Wx P L I st Fa J) : DSs X Wx P L I [st] Fa J := by
  obtain ⟨t1, p1, k1⟩ := h1.run
  exact ⟨_, pss_one p1, k1⟩
theorem dss_weak (h : DSs X Wx P L I A Fa J) (hJ : ∀ j ∈ J1, j ∈ J := by decide) (hP : ∀ j ∈ J, j ∉ P := by decide) : DSs X Wx P L I A Fa J1 := by
  obtain ⟨t, p, k⟩ := h.run
  refine ⟨t, p, fun W ρ σ Hb H D S E f q => k W ρ σ Hb H D S E f ⟨fun ρ' σ' Hb' H' a E' s' => ?_, q.rt, q.bk, q.ct, q.ex⟩⟩
  obtain ⟨Hb2, E2, s2⟩ := E'.drop hJ hP
  exact q.nx _ _ _ _ a E2 (s'.trans s2)
theorem ds_pass : DS X Wx P L I (.Pass pos) fNext I := ⟨_, ps_pass, fun W ρ σ Hb H D S E f q => q.nx _ _ _ _ f E (Sub.refl _)⟩
theorem ds_doc {x : Str} {j} : DS X Wx P L I (.Expr (.Constant (.str x) j pos) pos') fNext I := ⟨_, ps_doc, fun W ρ σ Hb H D S E f q => q.nx _ _ _ _ f E (Sub.refl _)⟩
theorem ds_break (hL : ∀ j ∈ L, j ∈ I := by decide) (hP : ∀ j ∈ I, j ∉ P := by decide) : DS X Wx P L I (.Break pos) fBreak J := ⟨_, ps_break, fun W ρ σ Hb H D S E f q => by
  obtain ⟨Hb2, E2, s2⟩ := E.drop hL hP
  exact q.bk _ _ _ _ f E2 s2⟩
theorem ds_cont (hL : ∀ j ∈ L, j ∈ I := by decide) (hP : ∀ j ∈ I, j ∉ P := by decide) : DS X Wx P L I (.Continue pos) fCont J := ⟨_, ps_continue, fun W ρ σ Hb H D S E f q => by
  obtain ⟨Hb2, E2, s2⟩ := E.drop hL hP
  exact q.ct _ _ _ _ f E2 s2⟩
/-- code that is never reached -/
theorem ds_never : DS X Wx P L I st (fun _ _ => False) J := ⟨_, ps_never, fun _ _ _ _ _ _ _ _ f _ => f.elim⟩
theorem dss_never : DSs X Wx P L I A (fun _ _ => False) J := ⟨_, pss_never, fun _ _ _ _ _ _ _ _ f _ => f.elim⟩
theorem ds_expr (h : DE X Wx P I e te F J) (hs : swapsWith e none pos.line X.env = pure false := by rfl) : DS X Wx P L I (.Expr e pos) (fDrop F) J := by
  obtain ⟨p, k⟩ := h
  exact ⟨_, ps_expr p hs, fun W ρ σ Hb H D S E f q => k W ρ σ Hb H _ _ _ E f (q.xok σ) fun d ρ1 v Hb1 H1 f1 E1 s1 i1 => q.nx _ _ _ _ f1 E1 s1⟩
theorem ds_ret (h : DE X Wx P I e te F J) (hP : ∀ j ∈ J, j ∉ P := by decide) : DS X Wx P L I (.Return (some e) pos) (fRet F) J1 := by
  obtain ⟨p, k⟩ := h
  refine ⟨_, ps_ret p, fun W ρ σ Hb H D S E f q => k W ρ σ Hb H _ _ _ E f (q.xok σ) fun d ρ1 v Hb1 H1 f1 E1 s1 i1 => ?_⟩
  obtain ⟨Hb2, E2, s2⟩ := E1.drop (J := []) (fun j q => by cases q) hP
  exact q.rt _ _ _ _ _ _ f1 E2 (i1.mono s2)
theorem ds_retN (hP : ∀ j ∈ I, j ∉ P := by decide) : DS X Wx P L I (.Return none pos) fRetN J1 := by
  refine ⟨_, ps_retN, fun W ρ σ Hb H D S E f q => ?_⟩
  obtain ⟨Hb2, E2, s2⟩ := E.drop (J := []) (fun j q => by cases q) hP
  exact q.rt _ _ _ _ _ _ f E2 .non
theorem ds_if (hc : DT X Wx P I c tt T J1) (ha : DSs X Wx P L J1 A Fa J) (hb : DSs X Wx P L J1 B Fb J) : DS X Wx P L I (.If c A B pos) (fIfS T Fa Fb) J := by
  obtain ⟨p1, k1⟩ := hc
  obtain ⟨t2, p2, k2⟩ := ha.run
  obtain ⟨t3, p3, k3⟩ := hb.run
  refine ⟨_, ps_if p1 p2 p3, fun W ρ σ Hb H D S E f q => k1 W ρ σ Hb H _ _ _ E f (q.xok σ) fun b ρ1 Hb1 H1 f1 E1 s1 => ?_⟩
  cases b with
  | true =>
    rw [if_pos rfl] at f1 ⊢
    exact k2 W ρ1 σ Hb1 H1 D S E1 f1 (q.from s1)
  | false =>
    rw [if_neg Bool.false_ne_true] at f1 ⊢
    exact k3 W ρ1 σ Hb1 H1 D S E1 f1 (q.from s1)
theorem ds_set (i : Nat) {x : Str} (hN : X.N.Nodup) (h : DE X Wx P I e te F J) (hi : X.N[i]? = some x := by rfl) (hx : Loc X.env.scope x := by first | exact Or.inl rfl | exact Or.inr rfl) (hs : swapsWith e (some (.Name x pos')) pos.line X.env = pure false := by rfl)
    (hf : X.fn x = true ∨ X.env.scope.names.lookup x = some .local := by first | exact .inl rfl | exact .inr rfl | assumption) (hP : i ∉ P := by decide) (hI : i ∉ J := by decide) : DS X Wx P L I (.Assign [.Name x pos'] e pos) (fSet i F) J := by
  obtain ⟨p, k⟩ := h
  exact ⟨_, ps_set hN hi hx p hs hf, fun W ρ σ Hb H D S E f q => k W ρ σ Hb H _ _ _ E f (q.xok σ) fun d ρ1 v Hb1 H1 f1 E1 s1 i1 => q.nx _ _ _ _ f1 (E1.set i1 hP hI) s1⟩
theorem ds_asg {ts : List Nat} (h : DE X Wx P I e te F J) (hg : DG X P J tg ts tg1 g) (hs : swapsWithSole [tg] e pos.line X.env = pure false := by rfl) (hw : swappedStores [tg] e X.env = pure none := by rfl)
    (h1 : (assignEach [tg] X.env).map (·.2) = [assign tg X.env] := by rfl) : DS X Wx P L I (.Assign [tg] e pos) (fAsg g F) J := by
  obtain ⟨p, k⟩ := h
  obtain ⟨pg, kg⟩ := hg
  exact ⟨_, ps_asg p pg hs hw h1, fun W ρ σ Hb H D S E f q => k W ρ σ Hb H _ _ _ E f (q.xok σ) fun d ρ1 v Hb1 H1 f1 E1 s1 i1 => kg W ρ1 σ Hb1 H1 v d _ _ E1 i1 f1 fun ρ2 σ2 f2 E2 _ => q.nx _ _ _ _ f2 E2 s1⟩
/-- a, b = x, y: two local names -/
@[simp ↓] def fPar (i j : Nat) (A : FA) : FS := fun ρ S => A ρ (fun ds ρ1 => match ds with
  | [x, y] => S.nx (put (put ρ1 i (some x)) j (some y))
  | _ => False) S.ex
theorem ds_par (i j : Nat) {x y : Str} {a b : Expr} {Fl : FA} {px py pt : Pos} {kt k2 pt2} (hc : X.calm = true) (hN : X.N.Nodup) (ha : DA X Wx P I [a, b] tA Fl J) (hi : X.N[i]? = some x := by rfl) (hj : X.N[j]? = some y := by rfl) (hij : i ≠ j := by decide)
    (hx : X.env.scope.names.lookup x = some .local := by rfl) (hy : X.env.scope.names.lookup y = some .local := by rfl)
    (hw : swappedStores [.Tuple [.Name x px, .Name y py] kt pt] (.Tuple [a, b] k2 pt2) X.env = pure (some [x, y]) := by rfl)
    (hs : swapsWithSole [.Tuple [.Name x px, .Name y py] kt pt] (.Tuple [a, b] k2 pt2) pos.line X.env = pure false := by rfl)
    (hP1 : i ∉ P := by decide) (hI1 : i ∉ J := by decide) (hP2 : j ∉ P := by decide) (hI2 : j ∉ J := by decide) :
    DS X Wx P L I (.Assign [.Tuple [.Name x px, .Name y py] kt pt] (.Tuple [a, b] k2 pt2) pos) (fPar i j Fl) J := by
  obtain ⟨p, k⟩ := ha
  refine ⟨_, ps_par hc hN hi hj hij hx hy p hw hs, fun W ρ σ Hb H D S E f q => k W ρ σ Hb H _ _ _ E f (q.xok σ) fun ds ρ1 vs Hb1 H1 f1 E1 s1 i1 => ?_⟩
  match ds, i1, f1 with
  | [x, y], .cons a (.cons b .nil), f1 => exact ⟨_, _, rfl, q.nx _ _ _ _ f1 ((E1.set a hP1 hI1).set b hP2 hI2) s1⟩
end

/-! ### loops -/
/-- the data that a walk yields -/
def ItD (K : PySem.W.Frag) (J : It) (Hb : Hp) (ds : List D) : Prop := ∀ (i : Nat) (H1 Hb1 : Hp), Sub Hb Hb1 → Sub Hb1 H1 →
  (∀ d, ds[i]? = some d → J.go i H1 ∧ ∀ x H2, J.yld i H1 x H2 → ∃ Hb2, Grow Hb1 H1 Hb2 H2 ∧ Is K Hb2 x d) ∧ (i = ds.length → J.stop i H1)
structure DI (X : Cx) (Wx : WX) (P I : List Nat) (tg iter : Expr) (wi : TI) (F : FA) (J : List Nat) : Prop where
  pe : PI X tg iter wi
  ev : ∀ (W : Wd) (ρ : Env) (σ : St) (Hb H : Hp) (R : It → Hp → Prop) (post : List D → Env → Prop) (xp : XP), EnvOk X.K W P I ρ σ Hb H → F ρ post xp → XOk X Wx W P σ xp →
    (∀ ds ρ' Jt Hb' H', post ds ρ' → EnvOk X.K W P J ρ' σ Hb' H' → Sub Hb Hb' → ItD X.K Jt Hb' ds → R Jt H') → wi σ H R
/-- a list or a tuple -/
@[simp ↓] def fSeqI (F : FE) : FA := fun ρ post xp => F ρ (fun d ρ1 => match d with
  | .lst ds => post ds ρ1
  | .tup ds => post ds ρ1
  | .ktp ds => post ds ρ1
  | .slst ds => post ds ρ1
  | _ => False) xp
@[simp ↓] def fRange1 (A : FA) : FA := fun ρ post xp => A ρ (fun ds ρ1 => match ds with
  | [.int n] => (-(2 ^ 62) ≤ n ∧ n < 2 ^ 62) ∧ post ((List.range n.toNat).map fun k : Nat => D.int (k : Int)) ρ1
  | _ => False) xp
@[simp ↓] def fRange2 (A : FA) : FA := fun ρ post xp => A ρ (fun ds ρ1 => match ds with
  | [.int a, .int b] => (-(2 ^ 62) ≤ a ∧ a < 2 ^ 62 ∧ -(2 ^ 62) ≤ b ∧ b < 2 ^ 62) ∧ post ((List.range (b - a).toNat).map fun k : Nat => D.int (a + (k : Int))) ρ1
  | _ => False) xp
def iSeq (K : PySem.W.Frag) (tl : TE) : TI := fun σ H R => tl σ H fun x H1 => ∃ a, x = .ref a ∧ (((∃ xs, SqL K H1 a xs) ∧ R (Itl K a) H1) ∨ ((∃ xs, SqT K H1 a xs) ∧ R (Itt K a) H1))
theorem pi_seq {X : Cx} {tg l : Expr} {tl : TE} (hl : PE X l tl) : PI X tg l (iSeq X.K tl) := by
  refine ⟨fun pins s σ H R I h => ?_⟩
  refine thn (hl.run pins s σ H _ I h) fun v s1 ⟨x, H1, I1, r1, q1⟩ => ?_
  obtain ⟨a, e, ⟨⟨xs, hq⟩, q⟩ | ⟨⟨xs, hq⟩, q⟩⟩ := q1
  · subst e
    cases r1
    obtain ⟨its, rv, p, hz⟩ := I1.list hq
    refine wpAny_pyIter_list p.isList ?_
    refine ⟨s1.heap.objs.size, [s1.heap.objs.size], _, _, H1, rfl, I1.kept (t' := s1.toks) fun b o e => Heap.get?_push_of_some _ e, turn_list a _, ⟨_, Heap.get?_push_size _ rfl, rfl, rfl⟩, fun b hb => ?_, q⟩
    have e : b = s1.heap.objs.size := by simpa using hb
    subst e
    exact I1.fpOk (Nat.le_refl _) (I1.hok.fresh (Nat.le_refl _))
  · subst e
    cases r1
    obtain ⟨its, rv, p, hz⟩ := I1.tuple hq
    refine wpAny_pyIter_tuple (show s1.heap.IsTuple a its.toArray from p) ?_
    refine ⟨s1.heap.objs.size, [s1.heap.objs.size], _, _, H1, rfl, I1.kept (t' := s1.toks) fun b o e => Heap.get?_push_of_some _ e, turn_tuple a _, ⟨_, Heap.get?_push_size _ rfl, rfl, rfl⟩, fun b hb => ?_, q⟩
    have e : b = s1.heap.objs.size := by simpa using hb
    subst e
    exact I1.fpOk (Nat.le_refl _) (I1.hok.fresh (Nat.le_refl _))
theorem itd_list {K : PySem.W.Frag} {Hb : Hp} {a : Addr} {vs : List V} {ds : List D} (h : SqL K Hb a vs) (l : IsL K Hb vs ds) : ItD K (Itl K a) Hb ds := fun i H1 Hb1 s1 s2 => by
  have h1 := (s1.trans s2).sqL h
  refine ⟨fun d hd => ?_, fun e => ⟨vs, h1, by rw [l.length]; omega⟩⟩
  obtain ⟨v, hv, iv⟩ := l.get hd
  refine ⟨⟨vs, v, h1, hv⟩, fun x H2 ⟨e, q⟩ => ?_⟩
  subst e
  have ex := q vs h1
  rw [hv] at ex; cases ex
  exact ⟨Hb1, .refl, iv.mono s1⟩
theorem itd_tup {K : PySem.W.Frag} {Hb : Hp} {a : Addr} {vs : List V} {ds : List D} (h : SqT K Hb a vs) (l : IsL K Hb vs ds) : ItD K (Itt K a) Hb ds := fun i H1 Hb1 s1 s2 => by
  have h1 := (s1.trans s2).sqT h
  refine ⟨fun d hd => ?_, fun e => ⟨vs, h1, by rw [l.length]; omega⟩⟩
  obtain ⟨v, hv, iv⟩ := l.get hd
  refine ⟨⟨vs, v, h1, hv⟩, fun x H2 ⟨e, q⟩ => ?_⟩
  subst e
  have ex := q vs h1
  rw [hv] at ex; cases ex
  exact ⟨Hb1, .refl, iv.mono s1⟩
theorem itd_range {K : PySem.W.Frag} {Hb : Hp} (lo : Int) (n : Nat) : ItD K (Itr lo n) Hb ((List.range n).map fun k : Nat => D.int (lo + (k : Int))) := fun i H1 Hb1 s1 s2 => by
  refine ⟨fun d hd => ?_, fun e => by show n ≤ i; rw [e]; simp⟩
  rw [List.getElem?_map] at hd
  cases q : (List.range n)[i]? with
  | none => rw [q] at hd; cases hd
  | some k =>
    rw [q] at hd; cases hd
    obtain ⟨hl, ek⟩ := List.getElem?_eq_some_iff.mp q
    rw [List.getElem_range] at ek
    subst ek
    have hl' : i < n := by simpa using hl
    refine ⟨hl', fun x H2 ⟨e, ex⟩ => ?_⟩
    subst e ex
    exact ⟨Hb1, .refl, .int _⟩
section
variable {X : Cx} {Wx : WX} {P L I J J1 J2 : List Nat} {e tg c iter : Expr} {es : List Expr} {st : Stmt} {body : List Stmt} {F : FE} {T : FT} {A : FA} {B : FS} {g : FG} {r : FGs} {pos pos' p : Pos} {te : TE} {tt : TT} {tA : TA} {tg1 : TG} {tgs : TGs} {wi : TI}
theorem di_seq (h : DE X Wx P I e te F J) : DI X Wx P I tg e (iSeq X.K te) (fSeqI F) J := by
  obtain ⟨p, k⟩ := h
  refine ⟨pi_seq p, fun W ρ σ Hb H R post xp E f x q => k W ρ σ Hb H _ _ xp E f x fun d ρ1 v Hb1 H1 f1 E1 s1 i1 => ?_⟩
  cases d <;> first | exact f1.elim | skip
  · obtain ⟨a, vs, rfl, h, l⟩ := is_tupD i1 rfl
    exact ⟨a, rfl, .inr ⟨⟨vs, E1.sub.sqT h⟩, q _ _ _ _ _ f1 E1 s1 (itd_tup h l)⟩⟩
  · obtain ⟨a, vs, rfl, h, l⟩ := is_lstD i1 rfl
    exact ⟨a, rfl, .inl ⟨⟨vs, E1.sub.sqL h⟩, q _ _ _ _ _ f1 E1 s1 (itd_list h l)⟩⟩
  · obtain ⟨a, vs, rfl, h, l⟩ := is_tupD i1 rfl
    exact ⟨a, rfl, .inr ⟨⟨vs, E1.sub.sqT h⟩, q _ _ _ _ _ f1 E1 s1 (itd_tup h l)⟩⟩
  · obtain ⟨a, vs, rfl, h, l⟩ := is_lstD i1 rfl
    exact ⟨a, rfl, .inl ⟨⟨vs, E1.sub.sqL h⟩, q _ _ _ _ _ f1 E1 s1 (itd_list h l)⟩⟩
theorem di_range1 (hm : X.mg "range" = none) (ha : DA X Wx P I [e] tA A J) (hg : Gl X "range" := by rfl) (hs : starEach [e] X.env = [(false, eval e X.env)] := by rfl) : DI X Wx P I tg (.Call (.Name "range" p) [e] [] pos) (iRng1 tA) (fRange1 A) J := by
  obtain ⟨pa, k⟩ := ha
  refine ⟨pi_range1 hg hm pa hs, fun W ρ σ Hb H R post xp E f x q => k W ρ σ Hb H _ _ xp E f x fun ds ρ1 vs Hb1 H1 f1 E1 s1 i1 => ?_⟩
  match ds, i1, f1 with
  | [.int n], .cons (.int _) .nil, f1 =>
    refine ⟨n, rfl, f1.1.1, f1.1.2, q _ _ _ _ _ f1.2 E1 s1 ?_⟩
    have := itd_range (K := X.K) (Hb := Hb1) 0 n.toNat
    simpa using this
theorem di_range2 {e2 : Expr} (hm : X.mg "range" = none) (ha : DA X Wx P I [e, e2] tA A J) (hg : Gl X "range" := by rfl) (hs : starEach [e, e2] X.env = [(false, eval e X.env), (false, eval e2 X.env)] := by rfl) (hs2 : starEach [e2] X.env = [(false, eval e2 X.env)] := by rfl) : DI X Wx P I tg (.Call (.Name "range" p) [e, e2] [] pos) (iRng2 tA) (fRange2 A) J := by
  obtain ⟨pa, k⟩ := ha
  refine ⟨pi_range2 hg hm pa hs hs2, fun W ρ σ Hb H R post xp E f x q => k W ρ σ Hb H _ _ xp E f x fun ds ρ1 vs Hb1 H1 f1 E1 s1 i1 => ?_⟩
  match ds, i1, f1 with
  | [.int a, .int b], .cons (.int _) (.cons (.int _) .nil), f1 =>
    exact ⟨a, b, rfl, f1.1, q _ _ _ _ _ f1.2 E1 s1 (itd_range a _)⟩

/-- a for loop, item by item -/
def loopL (g : FG) (B : FS) (S : SPo) : List D → Env → Prop
  | [], ρ => S.nx ρ
  | d :: ds, ρ => g d ρ fun ρ1 => B ρ1 { nx := loopL g B S ds, rt := S.rt, bk := S.nx, ct := loopL g B S ds, ex := S.ex }
inductive LockS (S : SPo) : Type | mk
def loopK (g : FG) (B : FS) (S : SPo) (_ : LockS S) (ds : List D) (ρ : Env) : Prop := loopL g B S ds ρ
@[simp ↓] def fFor (A : FA) (g : FG) (B : FS) : FS := fun ρ S => A ρ (fun ds ρ1 => loopK g B S .mk ds ρ1) S.ex
theorem ds_for (hp : PassesOwn (model X.prog X.w) X.A X.env X.xe) (hc : X.calm = true) {ts : List Nat} (hi : DI X Wx P I tg iter wi A J) (hg : DG X P J tg ts tg1 g) (hb : DSs X Wx P J J body B J)
    (hs : ∀ x, foldedSetIterable iter X.env x = pure x := by intro _; rfl) : DS X Wx P L I (.For tg iter body [] pos) (fFor A g B) J := by
  obtain ⟨pi, ki⟩ := hi
  obtain ⟨pg, kg⟩ := hg
  obtain ⟨tb, pb, kb⟩ := hb.run
  refine ⟨_, ps_for hp hc pi pg pb hs, fun W ρ σ Hb H D S E f q => ki W ρ σ Hb H _ _ _ E f (q.xok σ) fun ds ρ1 Jt Hb1 H1 f1 E1 s1 it => ?_⟩
  refine ⟨fun i m σ' H' => m = ds.length - i ∧ i ≤ ds.length ∧ ∃ ρ' Hb', EnvOk X.K W P J ρ' σ' Hb' H' ∧ Sub Hb1 Hb' ∧ loopL g B S (ds.drop i) ρ', ⟨_, rfl, Nat.zero_le _, ρ1, Hb1, E1, Sub.refl _, f1⟩, ?_⟩
  rintro i m σ2 H2 ⟨rfl, hi, ρ2, Hb2, E2, s2, f2⟩
  obtain ⟨i1, i2⟩ := it i H2 Hb2 s2 E2.sub
  by_cases hlt : i < ds.length
  · rw [List.drop_eq_getElem_cons hlt] at f2
    obtain ⟨go, yl⟩ := i1 ds[i] (List.getElem?_eq_getElem hlt)
    refine .inr ⟨go, fun σ' H' => ∃ ρ' Hb', EnvOk X.K W P J ρ' σ' Hb' H' ∧ Sub Hb1 Hb' ∧ loopL g B S (ds.drop (i + 1)) ρ', fun σ' H' h => ⟨ds.length - (i + 1), by omega, rfl, hlt, h⟩, fun x H3 y => ?_⟩
    obtain ⟨Hb3, gr, is⟩ := yl x H3 y
    obtain ⟨E3, s3⟩ := gr.env E2
    refine kg W ρ2 σ2 Hb3 H3 x _ _ _ E3 is f2 fun ρ4 σ4 f4 E4 _ => ?_
    refine kb W ρ4 σ4 Hb3 H3 _ _ E4 f4 ⟨fun ρ' σ' Hb' H' a b c => ⟨ρ', Hb', b, (s2.trans s3).trans c, a⟩, q.rt, fun ρ' σ' Hb' H' a b c => q.nx _ _ _ _ a b (((s1.trans s2).trans s3).trans c), fun ρ' σ' Hb' H' a b c => ⟨ρ', Hb', b, (s2.trans s3).trans c, a⟩, q.ex⟩
  · have e : i = ds.length := by omega
    subst e
    rw [List.drop_length] at f2
    exact .inl ⟨i2 rfl, q.nx _ _ _ _ f2 E2 (s1.trans s2)⟩

/-- a while loop: at most n turns -/
def whileN (T : FT) (B : FS) (S : SPo) : Nat → Env → Prop
  | 0, _ => False
  | n + 1, ρ => T ρ (fun b ρ1 => if b = true then B ρ1 { nx := whileN T B S n, rt := S.rt, bk := S.nx, ct := whileN T B S n, ex := S.ex } else S.nx ρ1) S.ex
def fWhile (T : FT) (B : FS) : FS := fun ρ S => ∃ n, whileN T B S n ρ
theorem ds_while (hp : PassesOwn (model X.prog X.w) X.A X.env X.xe) (hc : DT X Wx P I c tt T I) (hb : DSs X Wx P I I body B I) : DS X Wx P L I (.While c body [] pos) (fWhile T B) I := by
  obtain ⟨pc, kc⟩ := hc
  obtain ⟨tb, pb, kb⟩ := hb.run
  refine ⟨_, ps_while hp pc pb, fun W ρ σ Hb H D S E f q => ?_⟩
  obtain ⟨n0, f⟩ := f
  refine ⟨fun m σ' H' => ∃ ρ' Hb', EnvOk X.K W P I ρ' σ' Hb' H' ∧ Sub Hb Hb' ∧ whileN T B S m ρ', ⟨n0, ρ, Hb, E, Sub.refl _, f⟩, ?_⟩
  rintro m σ1 H1 ⟨ρ1, Hb1, E1, s1, f1⟩
  cases m with
  | zero => exact f1.elim
  | succ m =>
    refine kc W ρ1 σ1 Hb1 H1 _ _ _ E1 f1 (q.xok σ1) fun b ρ2 Hb2 H2 f2 E2 s2 => ?_
    cases b with
    | true =>
      rw [if_pos rfl] at f2 ⊢
      refine ⟨fun σ' H' => ∃ ρ' Hb', EnvOk X.K W P I ρ' σ' Hb' H' ∧ Sub Hb Hb' ∧ whileN T B S m ρ', fun σ' H' h => ⟨m, by omega, h⟩, ?_⟩
      exact kb W ρ2 σ1 Hb2 H2 _ _ E2 f2 ⟨fun ρ' σ' Hb' H' a b c => ⟨ρ', Hb', b, (s1.trans s2).trans c, a⟩, q.rt, fun ρ' σ' Hb' H' a b c => q.nx _ _ _ _ a b ((s1.trans s2).trans c), fun ρ' σ' Hb' H' a b c => ⟨ρ', Hb', b, (s1.trans s2).trans c, a⟩, q.ex⟩
    | false =>
      rw [if_neg Bool.false_ne_true] at f2 ⊢
      exact q.nx _ _ _ _ f2 E2 (s1.trans s2)
end
end DL

/-! DL5: cells that a slot owns: lists that are appended to, dicts. -/
namespace DL
open PySem L2
open PyProof.Rows hiding St

/-- a new cell at p that nothing else knows -/
structure NewAt (K : PySem.W.Frag) (W : Wd) (P J : List Nat) (ρ : Env) (σ : St) (Hb H : Hp) (p : Addr) (d : D) : Prop where
  nb : Hb p = none
  cell : Cell K Hb H p d
  wn : W.H p = none
  un : ∀ i, (i ∈ P ∨ i ∈ J) → get ρ i ≠ none → σ[i]? ≠ some (some (.ref p))
structure DNw (X : Cx) (Wx : WX) (P I : List Nat) (e : Expr) (t : TE) (F : FE) (J : List Nat) : Prop where
  pe : PE X e t
  ev : ∀ (W : Wd) (ρ : Env) (σ : St) (Hb H : Hp) (Q : VK) (post : Post) (xp : XP), EnvOk X.K W P I ρ σ Hb H → F ρ post xp → XOk X Wx W P σ xp →
    (∀ d ρ' p Hb' H', post d ρ' → EnvOk X.K W P J ρ' σ Hb' H' → Sub Hb Hb' → NewAt X.K W P J ρ' σ Hb' H' p d → Q (.ref p) H') → t σ H Q
section
variable {K : PySem.W.Frag} {W : Wd} {P I J : List Nat} {ρ : Env} {σ : St} {Hb H : Hp} {p : Addr} {d : D} {o : HO}
theorem EnvOk.addr (E : EnvOk K W P I ρ σ Hb H) {i : Nat} (hi : i ∈ P ∨ i ∈ I) (g : get ρ i ≠ none) {q : Addr} (e : σ[i]? = some (some (.ref q))) : ∃ o, H q = some o := by
  cases r : get ρ i with
  | none => exact absurd r g
  | some d =>
    obtain ⟨p, ep, _, c, _⟩ := E.cel i d hi r
    rw [e] at ep; cases ep
    exact c.some
theorem NewAt.mk' (E : EnvOk K W P I ρ σ Hb H) (h : H p = none) (c : Cell K Hb (upd H p o) p d) : NewAt K W P I ρ σ Hb (upd H p o) p d where
  nb := E.sub.none h
  cell := c
  wn := E.stp.al p h
  un := fun i hi g e => by
    obtain ⟨u, hu⟩ := E.addr hi g e
    rw [h] at hu; cases hu
/-- frozen -/
theorem EnvOk.freeze (E : EnvOk K W P I ρ σ Hb H) (n : NewAt K W P I ρ σ Hb H p d) : ∃ Hb', EnvOk K W P I ρ σ Hb' H ∧ Sub Hb Hb' ∧ Is K Hb' (.ref p) d := by
  obtain ⟨o, ho⟩ := n.cell.some
  have sb : Sub Hb (upd Hb p o) := Sub.new n.nb
  refine ⟨upd Hb p o, ⟨fun a u e => ?_, ⟨E.stp.hb.trans sb, E.stp.fr, fun a u e => ?_, E.stp.al⟩, E.len, fun i x g nP nI => ?_, fun i x hi g => ?_, E.sep⟩, sb, ?_⟩
  · by_cases ha : a = p
    · subst ha; rw [upd_same] at e; cases e; exact ho
    · rw [upd_ne ha] at e; exact E.sub a u e
  · by_cases ha : a = p
    · subst ha; exact .inr n.wn
    · rw [upd_ne ha] at e; exact E.stp.fs a u e
  · obtain ⟨v, e, q⟩ := E.val i x g nP nI
    exact ⟨v, e, q.mono sb⟩
  · obtain ⟨q, e, nq, c, h1, h2⟩ := E.cel i x hi g
    have hne : q ≠ p := fun z => by subst z; exact n.un i hi (by rw [g]; simp) e
    exact ⟨q, e, by rw [upd_ne hne]; exact nq, c.mono sb fun _ z => z, h1, h2⟩
  · exact (n.cell.mono sb (H' := upd Hb p o) fun u e => by rw [ho] at e; cases e; exact upd_same).is (Sub.refl _)
/-- a slot takes the new cell -/
theorem EnvOk.take (E : EnvOk K W P J ρ σ Hb H) (n : NewAt K W P J ρ σ Hb H p d) {i : Nat} (hP : i ∉ P) (hi : i < ρ.length) : EnvOk K W P (i :: J) (put ρ i (some d)) (σ.set i (some (.ref p))) Hb H where
  sub := E.sub
  stp := E.stp
  len := by rw [List.length_set, put_length]; exact E.len
  val := fun j x g nP nI => by
    have hn : j ≠ i := fun q => nI (by rw [q]; exact List.mem_cons_self)
    rw [get_put_ne _ _ _ _ (Ne.symm hn)] at g
    obtain ⟨w, e1, e2⟩ := E.val j x g nP fun q => nI (List.mem_cons_of_mem _ q)
    exact ⟨w, by rw [List.getElem?_set_ne (Ne.symm hn)]; exact e1, e2⟩
  cel := fun j x hj g => by
    by_cases hn : j = i
    · subst hn
      rw [get_put_same _ _ _ hi] at g; cases g
      exact ⟨p, by rw [List.getElem?_set_self (by rw [E.len]; exact hi)], n.nb, n.cell, fun q => absurd q hP, fun _ => n.wn⟩
    · rw [get_put_ne _ _ _ _ (Ne.symm hn)] at g
      have hj' : j ∈ P ∨ j ∈ J := hj.imp id fun q => (List.mem_cons.mp q).resolve_left hn
      obtain ⟨q, e1, e2, e3, e4, e5⟩ := E.cel j x hj' g
      exact ⟨q, by rw [List.getElem?_set_ne (Ne.symm hn)]; exact e1, e2, e3, e4, fun z => e5 ((List.mem_cons.mp z).resolve_left hn)⟩
  sep := fun j k q hj hk gj gk ej ek => by
    have other : ∀ {m : Nat}, m ≠ i → (m ∈ P ∨ m ∈ i :: J) → get (put ρ i (some d)) m ≠ none → (σ.set i (some (.ref p)))[m]? = some (some (.ref q)) → (m ∈ P ∨ m ∈ J) ∧ get ρ m ≠ none ∧ σ[m]? = some (some (.ref q)) := fun {m} hn hm gm em => by
      rw [get_put_ne _ _ _ _ (Ne.symm hn)] at gm
      rw [List.getElem?_set_ne (Ne.symm hn)] at em
      exact ⟨hm.imp id fun z => (List.mem_cons.mp z).resolve_left hn, gm, em⟩
    by_cases hj0 : j = i
    · by_cases hk0 : k = i
      · rw [hj0, hk0]
      · obtain ⟨a1, a2, a3⟩ := other hk0 hk gk ek
        subst hj0
        rw [List.getElem?_set_self (by rw [E.len]; exact hi)] at ej
        cases ej
        exact absurd a3 (n.un k a1 a2)
    · obtain ⟨b1, b2, b3⟩ := other hj0 hj gj ej
      by_cases hk0 : k = i
      · subst hk0
        rw [List.getElem?_set_self (by rw [E.len]; exact hi)] at ek
        cases ek
        exact absurd b3 (n.un j b1 b2)
      · obtain ⟨a1, a2, a3⟩ := other hk0 hk gk ek
        exact E.sep j k q b1 a1 b2 a2 b3 a3
/-- the cell of a slot is written -/
theorem EnvOk.write (E : EnvOk K W P I ρ σ Hb H) {i : Nat} {d0 : D} (hi : i ∈ P ∨ i ∈ I) (g : get ρ i = some d0) (e : σ[i]? = some (some (.ref p))) (c : Cell K Hb (upd H p o) p d) : EnvOk K W P I (put ρ i (some d)) σ Hb (upd H p o) := by
  obtain ⟨p', ep, nb, c0, h1, h2⟩ := E.cel i d0 hi g
  rw [e] at ep; cases ep
  obtain ⟨u, hu⟩ := c0.some
  refine ⟨fun a x ea => ?_, ⟨E.stp.hb, fun a x ea n => ?_, E.stp.fs, fun a ea => ?_⟩, by rw [put_length]; exact E.len, fun j x gj nP nI => ?_, fun j x hj gj => ?_, fun j k q hj hk gj gk ej ek => ?_⟩
  · have ha : a ≠ p := fun z => by subst z; rw [nb] at ea; cases ea
    rw [upd_ne ha]; exact E.sub a x ea
  · have ha : a ≠ p := fun z => by
      subst z
      rcases hi with hi | hi
      · exact n i (h1 hi)
      · rw [h2 hi] at ea; cases ea
    rw [upd_ne ha]; exact E.stp.fr a x ea n
  · by_cases ha : a = p
    · subst ha; rw [upd_same] at ea; cases ea
    · rw [upd_ne ha] at ea; exact E.stp.al a ea
  · have hn : j ≠ i := fun q => by subst q; exact hi.elim nP nI
    rw [get_put_ne _ _ _ _ (Ne.symm hn)] at gj
    exact E.val j x gj nP nI
  · by_cases hn : j = i
    · subst hn
      rw [get_put_same _ _ _ (get_lt g)] at gj; cases gj
      exact ⟨p, e, nb, c, h1, h2⟩
    · rw [get_put_ne _ _ _ _ (Ne.symm hn)] at gj
      obtain ⟨q, e1, e2, e3, e4, e5⟩ := E.cel j x hj gj
      have hq : q ≠ p := fun z => by subst z; exact hn (E.sep j i q hj hi (by rw [gj]; simp) (by rw [g]; simp) e1 e)
      exact ⟨q, e1, e2, e3.mono (Sub.refl _) fun o eo => by rw [upd_ne hq]; exact eo, e4, e5⟩
  · have ok : ∀ m, get (put ρ i (some d)) m ≠ none → get ρ m ≠ none := fun m gm => by
      by_cases hm : m = i
      · subst hm; rw [g]; simp
      · rw [get_put_ne _ _ _ _ (Ne.symm hm)] at gm; exact gm
    exact E.sep j k q hj hk (ok j gj) (ok k gk) ej ek
end

section
variable {X : Cx} {Wx : WX} {P L I J J1 J2 : List Nat} {e a b c : Expr} {es : List Expr} {F G : FE} {A : FA} {pos pos' apos cpos : Pos} {te : TE} {tA : TA}
theorem de_new (h : DNw X Wx P I e te F J) : DE X Wx P I e te F J := by
  obtain ⟨p, k⟩ := h
  refine ⟨p, fun W ρ σ Hb H Q post xp E f x q => k W ρ σ Hb H Q post xp E f x fun d ρ' p Hb' H' f' E' s' n => ?_⟩
  obtain ⟨Hb2, E2, s2, i2⟩ := E'.freeze n
  exact q _ _ _ _ _ f' E2 (s'.trans s2) i2
theorem dn_lst (h : DA X Wx P I es tA A J) : DNw X Wx P I (.List es pos) (tLst tA) (fun ρ post xp => A ρ (fun xs ρ1 => xs.length ≤ 1000000 ∧ post (.lst xs) ρ1) xp) J := by
  obtain ⟨pa, ka⟩ := h
  refine ⟨pe_lst pa, fun W ρ σ Hb H Q post xp E f x q => ka W ρ σ Hb H _ _ xp E f x fun ds ρ1 vs Hb1 H1 f1 E1 s1 i1 => ⟨?_, fun p hp => ?_⟩⟩
  · rw [i1.length]; exact Nat.le_trans f1.1 (by decide)
  · exact q _ _ _ _ _ f1.2 (E1.more hp) s1 (NewAt.mk' E1 hp ⟨vs, upd_same, i1⟩)
/-- list(xs) -/
theorem dn_list {x : Str} {p2 : Pos} (hm : X.mg x = none) (hv : bootBuiltins x = some (.type "list")) (ha : DAo X Wx P I [e] tA A J) (hg : Gl X x := by rfl) (hn : x ≠ "__name__" := by decide) (hdb : (x == ("__debug__" : Str)) = false := by decide)
    (he : starEach [e] X.env = (false, eval e X.env) :: starEach [] X.env := by rfl) (hpl : (backTo pos (starEach [] X.env)).any (·.1) = false := by rfl) : DNw X Wx P I (.Call (.Name x p2) [e] [] pos) (tCB (fun xs H Q => ∃ p ys, xs = [.ref p] ∧ (SqL X.K H p ys ∨ SqT X.K H p ys) ∧ ∀ l, H l = none → Q (.ref l) (upd H l (.lst ys))) tA) (fN gList A) J := by
  obtain ⟨pa, ka⟩ := ha
  refine ⟨pe_callTy call_list_of hg hm hv pa hn hdb he hpl, fun W ρ σ Hb H Q post xp E f x q => ka W ρ σ Hb H _ _ xp E f x fun ds ρ1 vs Hb1 H1 f1 E1 s1 i1 => ?_⟩
  obtain ⟨d, ys, rfl, e, f1⟩ := f1
  obtain ⟨v, rfl, i⟩ := o_one i1
  obtain ⟨a, us, rfl, h, l⟩ := o_seqD E1.sub i e
  exact ⟨a, us, rfl, h, fun p hp => q _ _ _ _ _ f1 (E1.more hp) s1 (NewAt.mk' E1 hp ⟨us, upd_same, l⟩)⟩
/-- x = a new cell; x owns it from here on -/
@[simp ↓] def fSetN (i : Nat) (F : FE) : FS := fun ρ S => F ρ (fun d ρ1 => i < ρ1.length ∧ S.nx (put ρ1 i (some d))) S.ex
theorem ds_setN (i : Nat) {x : Str} (hN : X.N.Nodup) (h : DNw X Wx P I e te F J) (hi : X.N[i]? = some x := by rfl) (hx : Loc X.env.scope x := by first | exact Or.inl rfl | exact Or.inr rfl) (hs : swapsWith e (some (.Name x pos')) pos.line X.env = pure false := by rfl)
    (hf : X.fn x = true ∨ X.env.scope.names.lookup x = some .local := by first | exact .inl rfl | exact .inr rfl | assumption) (hP : i ∉ P := by decide) : DS X Wx P L I (.Assign [.Name x pos'] e pos) (fSetN i F) (i :: J) := by
  obtain ⟨p, k⟩ := h
  exact ⟨_, ps_set hN hi hx p hs hf, fun W ρ σ Hb H D S E f q => k W ρ σ Hb H _ _ _ E f (q.xok σ) fun d ρ1 p Hb1 H1 f1 E1 s1 n => q.nx _ _ _ _ f1.2 (E1.take n hP f1.1) s1⟩
/-- x.append(e), x owns its list -/
@[simp ↓] def fAppend (i : Nat) (F : FE) : FS := fun ρ S => (∃ ds, get ρ i = some (.lst ds)) ∧ F ρ (fun y ρ1 => ∃ ds, get ρ1 i = some (.lst ds) ∧ ds.length < 1000000 ∧ S.nx (put ρ1 i (some (.lst (ds ++ [y]))))) S.ex
theorem ds_append (i : Nat) {x : Str} (h : DE X Wx P I e te F J) (hi : i ∈ P ∨ i ∈ I := by decide) (hj : i ∈ P ∨ i ∈ J := by decide) (hN : X.N[i]? = some x := by rfl) (hv : Vis X.env.scope x := by first | exact Or.inl rfl | exact Or.inr (Or.inl rfl) | exact Or.inr (Or.inr rfl)) (hd : (x == ("__debug__" : Str)) = false := by decide)
    (hcd : (x == ("__classdict__" : Str)) = false := by decide) (hs : swapsWith (.Call (.Attribute (.Name x pos') "append" apos) [e] [] cpos) none pos.line X.env = pure false := by rfl)
    (hbase : attributeBase (.Name x pos') "append" X.env (eval (.Name x pos') X.env) = eval (.Name x pos') X.env := by rfl)
    (hfew : ((backTo cpos (starEach [e] X.env)).all (fun x => !x.1) && (backToKw cpos (keywordEach [] X.env)).all (fun x => x.1.isSome)
      && decide ([e].length + ([] : List Keyword).length + (if ([] : List Keyword).isEmpty then 0 else 1) < 30)) = true := by rfl)
    (hline : (apos.endLine == cpos.line) = true := by rfl) (hst : starEach [e] X.env = (false, eval e X.env) :: starEach [] X.env := by rfl) (hplain : (backTo cpos (starEach [] X.env)).any (·.1) = false := by rfl) :
    DS X Wx P L I (.Expr (.Call (.Attribute (.Name x pos') "append" apos) [e] [] cpos) pos) (fAppend i F) J := by
  obtain ⟨p, k⟩ := h
  refine ⟨_, ps_expr (pe_bm PySem.F.plainAttrs_list PySem.F.slot_list_append PySem.F.type_list_append mt_append (pe_var hN hv hd hcd) (pa_cons p pa_nil hst) hbase hfew hline hst hplain) hs, fun W ρ σ Hb H D S E f q => ?_⟩
  obtain ⟨⟨ds0, g0⟩, f⟩ := f
  obtain ⟨p, ep, n0, ⟨vs0, hp0, _⟩, _, _⟩ := E.cel i _ hi g0
  refine ⟨_, ep, .inl ⟨rfl, _, SqL.of hp0⟩, ?_⟩
  refine k W ρ σ Hb H _ _ _ E f (q.xok σ) fun d ρ1 v Hb1 H1 f1 E1 s1 i1 => ?_
  obtain ⟨ds, g1, hz, f2⟩ := f1
  obtain ⟨p', ep', n1, ⟨vs, hp, l⟩, _, _⟩ := E1.cel i _ hj g1
  rw [ep] at ep'; cases ep'
  refine ⟨p, vs, v, rfl, rfl, hp, by rw [l.length]; exact Nat.lt_of_lt_of_le hz (by decide), ?_⟩
  exact q.nx _ _ _ _ f2 (E1.write hj g1 ep ⟨_, upd_same, l.snoc i1⟩) s1

end
end DL

/-! DL6: dicts, slices, comprehensions over data. -/
namespace DL
open PySem L2
open PyProof.Rows hiding St

/-! ### a store into a slot's own dict -/
@[simp ↓] def fPutO (i : Nat) (Fv Fk : FE) : FS := fun ρ S => Fv ρ (fun v ρ1 => (∃ d0, get ρ1 i = some d0 ∧ isDict d0) ∧ Fk ρ1 (fun k ρ2 => ∃ d d', get ρ2 i = some d ∧ sizeD d < 1000000 ∧ putKD d k v = some d' ∧ S.nx (put ρ2 i (some d'))) S.ex) S.ex
section
variable {X : Cx} {Wx : WX} {P L I J J1 J2 : List Nat} {e a b c o k : Expr} {es : List Expr} {F G : FE} {A : FA} {pos pos' apos cpos : Pos} {ta tb : TE}
/-- d[k] = v, d a slot's own -/
theorem ds_putO (i : Nat) {x : Str} {value : Expr} {spos : Pos} (hu : X.A.units + 1 < cLine) (hv : DE X Wx P I value ta F J1) (hk : DE X Wx P J1 k tb G J) (hi : i ∈ P ∨ i ∈ J1 := by decide) (hj : i ∈ P ∨ i ∈ J := by decide) (hN : X.N[i]? = some x := by rfl) (hvx : Vis X.env.scope x := by first | exact Or.inl rfl | exact Or.inr (Or.inl rfl) | exact Or.inr (Or.inr rfl)) (hd : (x == ("__debug__" : Str)) = false := by decide)
    (hcd : (x == ("__classdict__" : Str)) = false := by decide) (hs : swapsWith value (some (.Subscript (.Name x pos') k spos)) pos.line X.env = pure false := by rfl) :
    DS X Wx P L I (.Assign [.Subscript (.Name x pos') k spos] value pos) (fPutO i F G) J := by
  obtain ⟨p1, k1⟩ := hv
  obtain ⟨p2, k2⟩ := hk
  refine ⟨_, ps_dput hu (pe_var hN hvx hd hcd) p2 p1 hs, fun W ρ σ Hb H D S E f q => k1 W ρ σ Hb H _ _ _ E f (q.xok σ) fun z ρ1 v Hb1 H1 f1 E1 s1 i1 => ?_⟩
  obtain ⟨⟨d0, g0, _⟩, f1⟩ := f1
  obtain ⟨p, ep, _⟩ := E1.cel i d0 hi g0
  refine ⟨_, ep, k2 W ρ1 σ Hb1 H1 _ _ _ E1 f1 (q.xok σ) fun kd ρ2 y Hb2 H2 f2 E2 s2 i2 => ?_⟩
  obtain ⟨d, d', gd, hz, g, f2⟩ := f2
  obtain ⟨p', ep', _, c, _⟩ := E2.cel i d hj gd
  rw [ep] at ep'; cases ep'
  obtain ⟨o, dp, c'⟩ := cell_put c i2 (i1.mono s2) E2.sub hz g
  exact ⟨p, _, rfl, dp, q.nx _ _ _ _ f2 (E2.write hj gd ep c') (s1.trans s2)⟩
end

/-! ### slices -/
def cutL (ds : List D) (lo hi : Option Int) : List D := (ds.drop (HT.sIx ds.length 0 lo)).take (HT.sIx ds.length ds.length hi - HT.sIx ds.length 0 lo)
theorem cut_is {K : PySem.W.Frag} {H : Hp} {vs : List V} {ds : List D} (l : IsL K H vs ds) (lo hi : Option Int) : IsL K H (cutV vs lo hi) (cutL ds lo hi) := by
  unfold cutV cutL
  rw [l.length]
  exact (l.drop _).take _
abbrev FO := Env → (Option Int → Env → Prop) → XP → Prop
structure DOp (X : Cx) (Wx : WX) (P I : List Nat) (e : Option Expr) (t : TO) (F : FO) (J : List Nat) : Prop where
  pe : PO X e t
  ev : ∀ (W : Wd) (ρ : Env) (σ : St) (Hb H : Hp) (Q : Option Int → Hp → Prop) (post : Option Int → Env → Prop) (xp : XP), EnvOk X.K W P I ρ σ Hb H → F ρ post xp → XOk X Wx W P σ xp →
    (∀ o ρ' Hb' H', post o ρ' → EnvOk X.K W P J ρ' σ Hb' H' → Sub Hb Hb' → Q o H') → t σ H Q
@[simp ↓] def oNone : FO := fun ρ post _ => post none ρ
@[simp ↓] def oSome (F : FE) : FO := fun ρ post xp => F ρ (fun d ρ1 => match d with
  | .int i => post (some i) ρ1
  | _ => False) xp
def gCut (d : D) (lo hi : Option Int) (k : D → Prop) : Prop := match d with
  | .lst ds => k (.lst (cutL ds lo hi))
  | .slst ds => k (.lst (cutL ds lo hi))
  | .tup ds => k (.tup (cutL ds lo hi))
  | _ => False
@[simp ↓] def fCut (F : FE) (A B : FO) : FE := fun ρ post xp => F ρ (fun d ρ1 => A ρ1 (fun lo ρ2 => B ρ2 (fun hi ρ3 => gCut d lo hi fun z => post z ρ3) xp) xp) xp
theorem cutL_whole {ds : List D} {lo hi : Option Int} (h : HT.sIx ds.length 0 lo = 0 ∧ HT.sIx ds.length ds.length hi = ds.length) : cutL ds lo hi = ds := by
  unfold cutL
  rw [h.1, h.2]
  simp
section
variable {X : Cx} {Wx : WX} {P L I J J1 J2 : List Nat} {e a b c o k : Expr} {eo : Option Expr} {es : List Expr} {F G : FE} {A B : FO} {pos p2 : Pos} {ta : TE} {tl th : TO}
theorem do_none : DOp X Wx P I none tNoPart oNone I := ⟨po_none, fun W ρ σ Hb H Q post xp E f _ q => q _ _ _ _ f E (Sub.refl _)⟩
theorem do_some (h : DE X Wx P I e ta F J) : DOp X Wx P I (some e) (tPart ta) (oSome F) J := by
  obtain ⟨p, k⟩ := h
  refine ⟨po_some p, fun W ρ σ Hb H Q post xp E f x q => k W ρ σ Hb H _ _ xp E f x fun d ρ1 v Hb1 H1 f1 E1 s1 i1 => ?_⟩
  cases d <;> first | exact f1.elim | skip
  exact ⟨_, is_int i1, q _ _ _ _ f1 E1 s1⟩
theorem cut_core {lo hi : Option Expr} (h : DE X Wx P I e ta F J1) (ha : DOp X Wx P J1 lo tl A J2) (hb : DOp X Wx P J2 hi th B J) : ∀ (W : Wd) (ρ : Env) (σ : St) (Hb H : Hp) (Q : VK) (post : D → Option Int → Option Int → Env → Prop) (xp : XP), EnvOk X.K W P I ρ σ Hb H →
    F ρ (fun d ρ1 => A ρ1 (fun lo ρ2 => B ρ2 (fun hi ρ3 => post d lo hi ρ3) xp) xp) xp → XOk X Wx W P σ xp →
    ∀ r : V → Option Int → Option Int → Hp → VK → Prop, (∀ d lo hi ρ' v Hb' H', post d lo hi ρ' → EnvOk X.K W P J ρ' σ Hb' H' → Sub Hb Hb' → Is X.K Hb' v d → r v lo hi H' Q) → tSl r ta tl th σ H Q := by
  obtain ⟨p1, k1⟩ := h
  obtain ⟨p2, k2⟩ := ha
  obtain ⟨p3, k3⟩ := hb
  exact fun W ρ σ Hb H Q post xp E f x r q => k1 W ρ σ Hb H _ _ xp E f x fun d ρ1 v Hb1 H1 f1 E1 s1 i1 => k2 W ρ1 σ Hb1 H1 _ _ xp E1 f1 x fun lo ρ2 Hb2 H2 f2 E2 s2 =>
    k3 W ρ2 σ Hb2 H2 _ _ xp E2 f2 x fun hi ρ3 Hb3 H3 f3 E3 s3 => q _ _ _ _ _ _ _ f3 E3 ((s1.trans s2).trans s3) ((i1.mono s2).mono s3)
theorem de_cut {lo hi : Option Expr} (h : DE X Wx P I e ta F J1) (ha : DOp X Wx P J1 lo tl A J2) (hb : DOp X Wx P J2 hi th B J) : DE X Wx P I (.Subscript e (.Slice lo hi none p2) pos) (tSl (fun x lo hi H Q => rSlL X.K x lo hi H Q ∨ rSlA X.K x lo hi H Q) ta tl th) (fCut F A B) J := by
  have kk := cut_core h ha hb
  refine de_of (pe_slice (SlR.or sl_list sl_tupA) h.pe ha.pe hb.pe) fun W ρ σ Hb H Q post xp E f x q => kk W ρ σ Hb H Q _ xp E f x _ fun d lo hi ρ' v Hb' H' f1 E1 s1 i1 => ?_
  unfold gCut at f1
  split at f1
  · obtain ⟨a, vs, rfl, hs, l⟩ := is_lstD i1 rfl
    exact .inl ⟨a, vs, rfl, E1.sub.sqL hs, fun p hp => q _ _ _ _ _ f1 (E1.alloc hp) (s1.trans (Sub.new (E1.sub.none hp))) (.lst upd_same ((cut_is l lo hi).mono (Sub.new (E1.sub.none hp))))⟩
  · obtain ⟨a, vs, rfl, hs, l⟩ := is_lstD i1 rfl
    exact .inl ⟨a, vs, rfl, E1.sub.sqL hs, fun p hp => q _ _ _ _ _ f1 (E1.alloc hp) (s1.trans (Sub.new (E1.sub.none hp))) (.lst upd_same ((cut_is l lo hi).mono (Sub.new (E1.sub.none hp))))⟩
  · obtain ⟨a, vs, rfl, hs, l⟩ := is_tupD i1 rfl
    refine .inr ⟨a, vs, rfl, E1.sub.sqT hs, fun hw => ?_, fun hw p hp => ?_⟩
    · rw [l.length] at hw
      rw [cutL_whole hw] at f1
      exact q _ _ _ _ _ f1 E1 s1 i1
    · exact q _ _ _ _ _ f1 (E1.alloc hp) (s1.trans (Sub.new (E1.sub.none hp))) (.tup upd_same ((cut_is l lo hi).mono (Sub.new (E1.sub.none hp))))
  · exact f1.elim
/-- a slice of a list as a new cell -/
theorem dn_cut {lo hi : Option Expr} (h : DE X Wx P I e ta F J1) (ha : DOp X Wx P J1 lo tl A J2) (hb : DOp X Wx P J2 hi th B J) : DNw X Wx P I (.Subscript e (.Slice lo hi none p2) pos) (tSl (rSlL X.K) ta tl th)
    (fun ρ post xp => F ρ (fun d ρ1 => A ρ1 (fun lo ρ2 => B ρ2 (fun hi ρ3 => ∃ ds, lstD d = some ds ∧ post (.lst (cutL ds lo hi)) ρ3) xp) xp) xp) J := by
  have kk := cut_core h ha hb
  refine ⟨pe_slice sl_list h.pe ha.pe hb.pe, fun W ρ σ Hb H Q post xp E f x q => kk W ρ σ Hb H Q _ xp E f x _ fun d lo hi ρ' v Hb' H' f1 E1 s1 i1 => ?_⟩
  obtain ⟨ds, ed, f1⟩ := f1
  obtain ⟨a, vs, rfl, hs, l⟩ := is_lstD i1 ed
  exact ⟨a, vs, rfl, E1.sub.sqL hs, fun p hp => q _ _ _ _ _ f1 (E1.more hp) s1 (NewAt.mk' E1 hp ⟨_, upd_same, cut_is l lo hi⟩)⟩
end
end DL

/-! DL7: list comprehensions over data. -/
namespace DL
open PySem L2
open PyProof.Rows hiding St

@[simp] def wipeE (ρ : Env) : List Nat → Env
  | [] => ρ
  | v :: vs => put (wipeE ρ vs) v none
/-- the slots vs as they were in ρ -/
@[simp] def unwipe (ρ ρ' : Env) : List Nat → Env
  | [] => ρ'
  | v :: vs => put (unwipe ρ ρ' vs) v (get ρ v)
theorem wipeE_len (ρ : Env) : ∀ vs, (wipeE ρ vs).length = ρ.length
  | [] => rfl
  | v :: vs => (put_length _ _ _).trans (wipeE_len ρ vs)
theorem unwipe_len (ρ ρ' : Env) : ∀ vs, (unwipe ρ ρ' vs).length = ρ'.length
  | [] => rfl
  | v :: vs => (put_length _ _ _).trans (unwipe_len ρ ρ' vs)
theorem get_wipe {ρ : Env} {i : Nat} {d : D} : ∀ {vs : List Nat}, get (wipeE ρ vs) i = some d → get ρ i = some d ∧ i ∉ vs
  | [], h => ⟨h, by simp⟩
  | v :: vs, h => by
    rcases get_put (show get (put (wipeE ρ vs) v none) i = some d from h) with ⟨_, q⟩ | ⟨n, q⟩
    · cases q
    · obtain ⟨a, b⟩ := get_wipe q
      exact ⟨a, by simp only [List.mem_cons, not_or]; exact ⟨n, b⟩⟩
theorem get_unwipe {ρ ρ' : Env} {i : Nat} {d : D} : ∀ {vs : List Nat}, get (unwipe ρ ρ' vs) i = some d → (i ∈ vs ∧ get ρ i = some d) ∨ (i ∉ vs ∧ get ρ' i = some d)
  | [], h => .inr ⟨by simp, h⟩
  | v :: vs, h => by
    rcases get_put (show get (put (unwipe ρ ρ' vs) v (get ρ v)) i = some d from h) with ⟨e, q⟩ | ⟨n, q⟩
    · subst e; exact .inl ⟨List.mem_cons_self, q⟩
    · rcases get_unwipe q with ⟨a, b⟩ | ⟨a, b⟩
      · exact .inl ⟨List.mem_cons_of_mem _ a, b⟩
      · exact .inr ⟨by simp only [List.mem_cons, not_or]; exact ⟨n, a⟩, b⟩
theorem wipe_get {σ : St} {i : Nat} : ∀ {vs : List Nat}, i ∉ vs → (wipe σ vs)[i]? = σ[i]?
  | [], _ => rfl
  | v :: vs, h => by
    simp only [List.mem_cons, not_or] at h
    unfold wipe
    rw [List.getElem?_set_ne (Ne.symm h.1)]
    exact wipe_get h.2
theorem wipe_in {σ : St} {i : Nat} : ∀ {vs : List Nat}, i ∈ vs → i < σ.length → (wipe σ vs)[i]? = some none
  | [], h, _ => by cases h
  | v :: vs, h, hl => by
    unfold wipe
    by_cases e : v = i
    · subst e
      rw [List.getElem?_set_self (by rw [wipe_length]; exact hl)]
    · rw [List.getElem?_set_ne e]
      exact wipe_in ((List.mem_cons.mp h).resolve_left (Ne.symm e)) hl
theorem wipe_ext {σ σ' : St} {vs : List Nat} (hl : σ'.length = σ.length) (h : ∀ i, i ∉ vs → σ'[i]? = σ[i]?) : wipe σ' vs = wipe σ vs := by
  apply List.ext_getElem?
  intro i
  by_cases hi : i ∈ vs
  · by_cases hb : i < σ.length
    · rw [wipe_in hi hb, wipe_in hi (by rw [hl]; exact hb)]
    · rw [List.getElem?_eq_none (by rw [wipe_length]; omega), List.getElem?_eq_none (by rw [wipe_length]; omega)]
  · rw [wipe_get hi, wipe_get hi, h i hi]
section
variable {K : PySem.W.Frag} {W : Wd} {P I : List Nat} {ρ : Env} {σ : St} {Hb H : Hp} {vs : List Nat}
theorem EnvOk.wiped (E : EnvOk K W P I ρ σ Hb H) (hP : ∀ v ∈ vs, v ∉ P ∧ v ∉ I) : EnvOk K W P I (wipeE ρ vs) (wipe σ vs) Hb H where
  sub := E.sub
  stp := E.stp
  len := by rw [wipe_length, wipeE_len]; exact E.len
  val := fun i d g nP nI => by
    obtain ⟨g, h⟩ := get_wipe g
    obtain ⟨v, e, is⟩ := E.val i d g nP nI
    exact ⟨v, by rw [wipe_get h]; exact e, is⟩
  cel := fun i d hi g => by
    obtain ⟨g, h⟩ := get_wipe g
    obtain ⟨p, e, r⟩ := E.cel i d hi g
    exact ⟨p, by rw [wipe_get h]; exact e, r⟩
  sep := fun i j p hi hj gi gj ei ej => by
    have back : ∀ {k : Nat}, get (wipeE ρ vs) k ≠ none → get ρ k ≠ none ∧ k ∉ vs := fun {k} g => by
      cases q : get (wipeE ρ vs) k with
      | none => exact absurd q g
      | some d => obtain ⟨a, b⟩ := get_wipe q; exact ⟨by rw [a]; simp, b⟩
    obtain ⟨a1, b1⟩ := back gi
    obtain ⟨a2, b2⟩ := back gj
    rw [wipe_get b1] at ei
    rw [wipe_get b2] at ej
    exact E.sep i j p hi hj a1 a2 ei ej
/-- out of the block: its own names as they were -/
theorem EnvOk.unwiped {W' : Wd} {ρ' : Env} {σ' : St} {Hb' H' : Hp} (E : EnvOk K W P I ρ σ Hb H) (E' : EnvOk K W' P I ρ' σ' Hb' H') (s : Sub Hb Hb') (o : σ'.length = σ.length ∧ ∀ i, i ∉ vs → σ'[i]? = σ[i]?) (hP : ∀ v ∈ vs, v ∉ P ∧ v ∉ I) :
    EnvOk K W' P I (unwipe ρ ρ' vs) σ Hb' H' where
  sub := E'.sub
  stp := E'.stp
  len := by rw [unwipe_len, ← E'.len, o.1]
  val := fun i d g nP nI => by
    rcases get_unwipe g with ⟨a, b⟩ | ⟨a, b⟩
    · obtain ⟨v, e, is⟩ := E.val i d b nP nI
      exact ⟨v, e, is.mono s⟩
    · obtain ⟨v, e, is⟩ := E'.val i d b nP nI
      exact ⟨v, by rw [← o.2 i a]; exact e, is⟩
  cel := fun i d hi g => by
    rcases get_unwipe g with ⟨a, b⟩ | ⟨a, b⟩
    · exact absurd hi (fun q => q.elim (hP i a).1 (hP i a).2)
    · obtain ⟨p, e, r⟩ := E'.cel i d hi b
      exact ⟨p, by rw [← o.2 i a]; exact e, r⟩
  sep := fun i j p hi hj gi gj ei ej => by
    have back : ∀ {k : Nat}, (k ∈ P ∨ k ∈ I) → get (unwipe ρ ρ' vs) k ≠ none → get ρ' k ≠ none ∧ k ∉ vs := fun {k} hk g => by
      cases q : get (unwipe ρ ρ' vs) k with
      | none => exact absurd q g
      | some d =>
        rcases get_unwipe q with ⟨a, b⟩ | ⟨a, b⟩
        · exact absurd hk (fun q => q.elim (hP k a).1 (hP k a).2)
        · exact ⟨by rw [b]; simp, a⟩
    obtain ⟨a1, b1⟩ := back hi gi
    obtain ⟨a2, b2⟩ := back hj gj
    exact E'.sep i j p hi hj a1 a2 (by rw [o.2 i b1]; exact ei) (by rw [o.2 j b2]; exact ej)
/-- an object that nothing here knows is written -/
theorem EnvOk.poke {p : Addr} {o : HO} (E : EnvOk K W P I ρ σ Hb H) (nb : Hb p = none) (wn : W.H p = none) (un : ∀ i, (i ∈ P ∨ i ∈ I) → get ρ i ≠ none → σ[i]? ≠ some (some (.ref p))) : EnvOk K W P I ρ σ Hb (upd H p o) := by
  refine ⟨fun a x ea => ?_, ⟨E.stp.hb, fun a x ea n => ?_, E.stp.fs, fun a ea => ?_⟩, E.len, E.val, fun i d hi g => ?_, E.sep⟩
  · have ha : a ≠ p := fun z => by subst z; rw [nb] at ea; cases ea
    rw [upd_ne ha]; exact E.sub a x ea
  · have ha : a ≠ p := fun z => by subst z; rw [wn] at ea; cases ea
    rw [upd_ne ha]; exact E.stp.fr a x ea n
  · by_cases ha : a = p
    · subst ha; rw [upd_same] at ea; cases ea
    · rw [upd_ne ha] at ea; exact E.stp.al a ea
  · obtain ⟨q, e1, e2, e3, e4⟩ := E.cel i d hi g
    have hq : q ≠ p := fun z => by subst z; exact un i hi (by rw [g]; simp) e1
    exact ⟨q, e1, e2, e3.mono (Sub.refl _) fun o eo => by rw [upd_ne hq]; exact eo, e4⟩
theorem NewAt.grow {p : Addr} {d : D} {Hb' H' : Hp} (E : EnvOk K W P I ρ σ Hb H) (n : NewAt K W P I ρ σ Hb H p d) (g : Grow Hb H Hb' H') : NewAt K W P I ρ σ Hb' H' p d := by
  induction g with
  | refl => exact n
  | step g h ih =>
    obtain ⟨o, ho⟩ := ih.cell.some
    have hne := ne_of_none ho h
    exact ⟨by rw [upd_ne hne]; exact ih.nb, ih.cell.mono (Sub.new ((g.env E).1.sub.none h)) fun o eo => by rw [upd_ne hne]; exact eo, ih.wn, ih.un⟩
end

/-- no exception leaves a comprehension -/
def noX : XP := fun _ _ => False
abbrev WN : WX := fun _ _ _ _ => False
/-- the comprehension's turns -/
def compL (vs : List Nat) (g : FG) (T : FT) (E : FE) (post : Post) : List D → List D → Env → Prop
  | [], acc, ρ => post (.lst acc) ρ
  | d :: ds, acc, ρ => g d (wipeE ρ vs) fun ρ1 => T ρ1 (fun b ρ2 => if b = true then E ρ2 (fun y ρ3 => acc.length < 1000000 ∧ compL vs g T E post ds (acc ++ [y]) (unwipe ρ ρ3 vs)) noX else compL vs g T E post ds acc (unwipe ρ ρ2 vs)) noX
def compK (vs : List Nat) (g : FG) (T : FT) (E : FE) (post : Post) (_ : Lock post noX) (ds acc : List D) (ρ : Env) : Prop := compL vs g T E post ds acc ρ
@[simp ↓] def fLc (A : FA) (vs : List Nat) (g : FG) (T : FT) (E : FE) : FE := fun ρ post xp => A ρ (fun ds ρ1 => compK vs g T E post .mk ds [] ρ1) xp
@[simp ↓] def tYesD : FT := fun ρ post _ => post true ρ
structure DTs (X : Cx) (Wx : WX) (P I : List Nat) (ifs : List Expr) (t : TT) (F : FT) (J : List Nat) : Prop where
  pe : PTs X ifs t
  ev : ∀ (W : Wd) (ρ : Env) (σ : St) (Hb H : Hp) (Q : Bool → Hp → Prop) (post : Bool → Env → Prop) (xp : XP), EnvOk X.K W P I ρ σ Hb H → F ρ post xp → XOk X Wx W P σ xp →
    (∀ b ρ' Hb' H', post b ρ' → EnvOk X.K W P J ρ' σ Hb' H' → Sub Hb Hb' → Q b H') → t σ H Q
theorem dts_nil {X : Cx} {Wx : WX} {P I : List Nat} : DTs X Wx P I [] tYes tYesD I := ⟨pts_nil, fun W ρ σ Hb H Q post xp E f _ q => q _ _ _ _ f E (Sub.refl _)⟩
theorem dts_one {X : Cx} {Wx : WX} {P I J : List Nat} {c : Expr} {t : TT} {F : FT} (h : DT X Wx P I c t F J) : DTs X Wx P I [c] t F J := ⟨pts_one h.pe, h.ev⟩
section
variable {X : Cx} {Wx : WX} {P L I J : List Nat} {elt tg iter : Expr} {ifs : List Expr} {scope : Scope} {own : List (Str × Nat)} {pos spos py : Pos} {wi : TI} {g : TG} {tt : TT} {te : TE} {A : FA} {gd : FG} {T : FT} {E : FE} {ts : List Nat}
theorem lc_ev (hi : DI X Wx P I tg iter wi A J) (hg : ∀ (s : Shared) (H : Hp) (C : Addr) (cl : List (Str × Addr)) (fp : List Addr), DG (X.blk s H scope (compEnvC scope cl C X.env) fp) (P ++ J) [] tg ts g gd)
    (ht : ∀ (s : Shared) (H : Hp) (C : Addr) (cl : List (Str × Addr)) (fp : List Addr), DTs (X.blk s H scope (compEnvC scope cl C X.env) fp) WN (P ++ J) [] ifs tt T [])
    (he : ∀ (s : Shared) (H : Hp) (C : Addr) (cl : List (Str × Addr)) (fp : List Addr), DE (X.blk s H scope (compEnvC scope cl C X.env) fp) WN (P ++ J) [] elt te E [])
    (hts : ∀ v ∈ ts, v ∈ own.map (·.2)) (hvs : ∀ v ∈ own.map (·.2), v ∉ P ∧ v ∉ J) :
    ∀ (W : Wd) (ρ : Env) (σ : St) (Hb H : Hp) (Q : VK) (post : Post) (xp : XP), EnvOk X.K W P I ρ σ Hb H → fLc A (own.map (·.2)) gd T E ρ post xp → XOk X Wx W P σ xp →
    (∀ d ρ' p Hb' H', post d ρ' → EnvOk X.K W P J ρ' σ Hb' H' → Sub Hb Hb' → NewAt X.K W P J ρ' σ Hb' H' p d → Q (.ref p) H') → tLc wi g tt te (own.map (·.2)) σ H Q := by
  intro W ρ σ Hb H Q post xp E0 f x q
  refine hi.ev W ρ σ Hb H _ _ xp E0 f x fun ds ρ1 Jt Hb1 H1 f1 E1 s1 it => ?_
  have f1 : compL (own.map (·.2)) gd T E post ds [] ρ1 := f1
  intro D hD
  let s0 : Shared := {}
  refine ⟨fun i m H' => m = ds.length - i ∧ i ≤ ds.length ∧ ∃ ρ' Hb' acc, EnvOk X.K W P J ρ' σ Hb' H' ∧ Sub Hb1 Hb' ∧ NewAt X.K W P J ρ' σ Hb' H' D (.lst acc) ∧ compL (own.map (·.2)) gd T E post (ds.drop i) acc ρ',
    ⟨_, rfl, Nat.zero_le _, ρ1, Hb1, [], E1.more hD, Sub.refl _, NewAt.mk' E1 hD ⟨[], upd_same, .nil⟩, f1⟩, ?_⟩
  rintro i m H2 ⟨rfl, hi, ρ2, Hb2, acc, E2, s2, n2, f2⟩
  obtain ⟨i1, i2⟩ := it i H2 Hb2 s2 E2.sub
  by_cases hlt : i < ds.length
  · rw [List.drop_eq_getElem_cons hlt] at f2
    unfold compL at f2
    obtain ⟨go, yl⟩ := i1 ds[i] (List.getElem?_eq_getElem hlt)
    refine .inr ⟨go, fun H' => ∃ ρ' Hb' acc, EnvOk X.K W P J ρ' σ Hb' H' ∧ Sub Hb1 Hb' ∧ NewAt X.K W P J ρ' σ Hb' H' D (.lst acc) ∧ compL (own.map (·.2)) gd T E post (ds.drop (i + 1)) acc ρ', fun H' h => ⟨ds.length - (i + 1), by omega, rfl, hlt, h⟩, fun y H3 yy => ?_⟩
    obtain ⟨Hb3, gr, is⟩ := yl y H3 yy
    obtain ⟨E3, s3⟩ := gr.env E2
    have n3 := n2.grow E2 gr
    have hP' : ∀ v ∈ own.map (·.2), v ∉ P ++ J ∧ v ∉ ([] : List Nat) := fun v hv => ⟨fun z => (List.mem_append.mp z).elim (hvs v hv).1 (hvs v hv).2, by simp⟩
    have EL := E3.lent
    have EW := EL.wiped hP'
    have xn : ∀ (Y : Cx) (σ' : St), XOk Y WN (here P J ρ2 σ Hb3 H3) (P ++ J) σ' noX := fun Y σ' c ρ' cls dx Hb' H' z => z.elim
    refine (hg s0 H3 0 [] []).ev (here P J ρ2 σ Hb3 H3) (wipeE ρ2 (own.map (·.2))) (wipe σ (own.map (·.2))) Hb3 H3 y _ _ _ EW is f2 fun ρ4 σ4 f4 E4 o4 => ?_
    have off : σ4.length = σ.length ∧ ∀ i, i ∉ own.map (·.2) → σ4[i]? = σ[i]? := ⟨by rw [o4.1, wipe_length], fun i hi => by rw [o4.2 i fun z => hi (hts i z), wipe_get hi]⟩
    refine ⟨wipe_ext off.1 off.2, (ht s0 H3 0 [] []).ev _ ρ4 σ4 Hb3 H3 _ _ noX E4 f4 (xn _ _) fun b ρ5 Hb5 H5 f5 E5 s5 => ?_⟩
    -- the new list stands as it stood
    have keepD : ∀ {Hb' H' : Hp} {ρ' : Env} {σ' : St}, EnvOk X.K (here P J ρ2 σ Hb3 H3) (P ++ J) [] ρ' σ' Hb' H' → Hb' D = none ∧ ∀ o, H3 D = some o → H' D = some o := fun {Hb' H' ρ' σ'} E' => by
      obtain ⟨o, ho⟩ := n3.cell.some
      refine ⟨?_, fun o ho => E'.stp.fr D o ho fun k ⟨hk, gk, ek⟩ => n3.un k hk gk ek⟩
      cases z : Hb' D with
      | none => rfl
      | some u =>
        rcases E'.stp.fs D u z with r | r
        · have r : Hb3 D = some u := r
          rw [n3.nb] at r; cases r
        · have r : H3 D = none := r
          rw [ho] at r; cases r
    cases b with
    | true =>
      rw [if_pos rfl] at f5 ⊢
      refine (he s0 H3 0 [] []).ev _ ρ5 σ4 Hb5 H5 _ _ noX E5 f5 (xn _ _) fun z ρ6 v Hb6 H6 f6 E6 s6 i6 => ?_
      obtain ⟨vs, hv, lv⟩ := n3.cell
      obtain ⟨k1, k2⟩ := keepD E6
      have E7 := E3.back (EL.unwiped E6 (s5.trans s6) off hP')
      have l6 : IsL X.K Hb6 vs acc := lv.mono (s5.trans s6)
      have un7 : ∀ i, (i ∈ P ∨ i ∈ J) → get (unwipe ρ2 ρ6 (own.map (·.2))) i ≠ none → σ[i]? ≠ some (some (.ref D)) := fun i hi g => by
        intro e
        have E8 := EL.unwiped E6 (s5.trans s6) off hP'
        cases z : get (unwipe ρ2 ρ6 (own.map (·.2))) i with
        | none => exact g z
        | some d =>
          obtain ⟨p, ep, np, c, h1, _⟩ := E8.cel i d (.inl (List.mem_append.mpr hi)) z
          rw [e] at ep; cases ep
          obtain ⟨hk, gk, ek⟩ := h1 (List.mem_append.mpr hi)
          exact n3.un i hk gk ek
      refine ⟨vs, k2 _ hv, by rw [lv.length]; exact Nat.lt_of_lt_of_le f6.1 (by decide), _, Hb6, acc ++ [z], E7.poke k1 n3.wn un7, ((s2.trans s3).trans s5).trans s6, ⟨k1, ⟨_, upd_same, l6.snoc i6⟩, n3.wn, un7⟩, f6.2⟩
    | false =>
      rw [if_neg Bool.false_ne_true] at f5 ⊢
      obtain ⟨vs, hv, lv⟩ := n3.cell
      obtain ⟨k1, k2⟩ := keepD E5
      have E8 := EL.unwiped E5 s5 off hP'
      have E7 := E3.back E8
      refine ⟨_, Hb5, acc, E7, (s2.trans s3).trans s5, ⟨k1, ⟨vs, k2 _ hv, lv.mono s5⟩, n3.wn, fun i hi g e => ?_⟩, f5⟩
      cases z : get (unwipe ρ2 ρ5 (own.map (·.2))) i with
      | none => exact g z
      | some d =>
        obtain ⟨p, ep, np, c, h1, _⟩ := E8.cel i d (.inl (List.mem_append.mpr hi)) z
        rw [e] at ep; cases ep
        obtain ⟨hk, gk, ek⟩ := h1 (List.mem_append.mpr hi)
        exact n3.un i hk gk ek
  · have e : i = ds.length := by omega
    subst e
    rw [List.drop_length] at f2
    exact .inl ⟨i2 rfl, q _ _ _ _ _ f2 E2 (s1.trans s2) n2⟩
theorem dn_lc (own : List (Str × Nat)) (hc : X.calm = true) (hN : X.N.Nodup) (hi : DI X Wx P I tg iter wi A J) (ok : BlkOk X.N X.env.scope scope own)
    (hg : ∀ (s : Shared) (H : Hp) (C : Addr) (cl : List (Str × Addr)) (fp : List Addr), DG (X.blk s H scope (compEnvC scope cl C X.env) fp) (P ++ J) [] tg ts g gd)
    (ht : ∀ (s : Shared) (H : Hp) (C : Addr) (cl : List (Str × Addr)) (fp : List Addr), DTs (X.blk s H scope (compEnvC scope cl C X.env) fp) WN (P ++ J) [] ifs tt T [])
    (he : ∀ (s : Shared) (H : Hp) (C : Addr) (cl : List (Str × Addr)) (fp : List Addr), DE (X.blk s H scope (compEnvC scope cl C X.env) fp) WN (P ++ J) [] elt te E [])
    (hts : ∀ v ∈ ts, v ∈ own.map (·.2) := by decide) (hvs : ∀ v ∈ own.map (·.2), v ∉ P ∧ v ∉ J := by decide) (hs : ∀ x, foldedSetIterable iter X.env x = pure x := by intro _; rfl) :
    DNw X Wx P I (.ListComp elt [⟨tg, iter, ifs, 0⟩] scope pos) (tLc wi g tt te (own.map (·.2))) (fLc A (own.map (·.2)) gd T E) J :=
  ⟨pe_lc hc hN hi.pe ok (fun s H C cl fp => (hg s H C cl fp).pe) (fun s H C cl fp => (ht s H C cl fp).pe) (fun s H C cl fp => (he s H C cl fp).pe) hs, lc_ev hi hg ht he hts hvs⟩
/-- y = [..]: y owns its list -/
theorem ds_setLcN (i : Nat) {y : Str} (own : List (Str × Nat)) (hc : X.calm = true) (hN : X.N.Nodup) (hsw : swapsWith (.ListComp elt [⟨tg, iter, ifs, 0⟩] scope pos) (some (.Name y py)) spos.line X.env = pure true) (hi : DI X Wx P I tg iter wi A J) (ok : BlkOk X.N X.env.scope scope own)
    (hg : ∀ (s : Shared) (H : Hp) (C : Addr) (cl : List (Str × Addr)) (fp : List Addr), DG (X.blk s H scope (compEnvC scope cl C X.env) fp) (P ++ J) [] tg ts g gd)
    (ht : ∀ (s : Shared) (H : Hp) (C : Addr) (cl : List (Str × Addr)) (fp : List Addr), DTs (X.blk s H scope (compEnvC scope cl C X.env) fp) WN (P ++ J) [] ifs tt T [])
    (he : ∀ (s : Shared) (H : Hp) (C : Addr) (cl : List (Str × Addr)) (fp : List Addr), DE (X.blk s H scope (compEnvC scope cl C X.env) fp) WN (P ++ J) [] elt te E [])
    (hy : X.N[i]? = some y := by rfl) (hyl : X.env.scope.names.lookup y = some .local := by rfl) (hP : i ∉ P := by decide)
    (hts : ∀ v ∈ ts, v ∈ own.map (·.2) := by decide) (hvs : ∀ v ∈ own.map (·.2), v ∉ P ∧ v ∉ J := by decide) (hs : ∀ x, foldedSetIterable iter X.env x = pure x := by intro _; rfl) :
    DS X Wx P L I (.Assign [.Name y py] (.ListComp elt [⟨tg, iter, ifs, 0⟩] scope pos) spos) (fSetN i (fLc A (own.map (·.2)) gd T E)) (i :: J) :=
  ⟨_, ps_setLc hc hN hy hyl hsw hi.pe ok (fun s H C cl fp => (hg s H C cl fp).pe) (fun s H C cl fp => (ht s H C cl fp).pe) (fun s H C cl fp => (he s H C cl fp).pe) hs,
    fun W ρ σ Hb H D S E f q => lc_ev hi hg ht he hts hvs W ρ σ Hb H _ _ _ E f (q.xok σ) fun d ρ1 p Hb1 H1 f1 E1 s1 n => q.nx _ _ _ _ f1.2 (E1.take n hP f1.1) s1⟩
/-- y = [..]: the list is never changed -/
theorem ds_setLc (i : Nat) {y : Str} (own : List (Str × Nat)) (hc : X.calm = true) (hN : X.N.Nodup) (hsw : swapsWith (.ListComp elt [⟨tg, iter, ifs, 0⟩] scope pos) (some (.Name y py)) spos.line X.env = pure true) (hi : DI X Wx P I tg iter wi A J) (ok : BlkOk X.N X.env.scope scope own)
    (hg : ∀ (s : Shared) (H : Hp) (C : Addr) (cl : List (Str × Addr)) (fp : List Addr), DG (X.blk s H scope (compEnvC scope cl C X.env) fp) (P ++ J) [] tg ts g gd)
    (ht : ∀ (s : Shared) (H : Hp) (C : Addr) (cl : List (Str × Addr)) (fp : List Addr), DTs (X.blk s H scope (compEnvC scope cl C X.env) fp) WN (P ++ J) [] ifs tt T [])
    (he : ∀ (s : Shared) (H : Hp) (C : Addr) (cl : List (Str × Addr)) (fp : List Addr), DE (X.blk s H scope (compEnvC scope cl C X.env) fp) WN (P ++ J) [] elt te E [])
    (hy : X.N[i]? = some y := by rfl) (hyl : X.env.scope.names.lookup y = some .local := by rfl) (hP : i ∉ P := by decide) (hI : i ∉ J := by decide)
    (hts : ∀ v ∈ ts, v ∈ own.map (·.2) := by decide) (hvs : ∀ v ∈ own.map (·.2), v ∉ P ∧ v ∉ J := by decide) (hs : ∀ x, foldedSetIterable iter X.env x = pure x := by intro _; rfl) :
    DS X Wx P L I (.Assign [.Name y py] (.ListComp elt [⟨tg, iter, ifs, 0⟩] scope pos) spos) (fSet i (fLc A (own.map (·.2)) gd T E)) J :=
  ⟨_, ps_setLc hc hN hy hyl hsw hi.pe ok (fun s H C cl fp => (hg s H C cl fp).pe) (fun s H C cl fp => (ht s H C cl fp).pe) (fun s H C cl fp => (he s H C cl fp).pe) hs,
    fun W ρ σ Hb H D S E f q => lc_ev hi hg ht he hts hvs W ρ σ Hb H _ _ _ E f (q.xok σ) fun d ρ1 p Hb1 H1 f1 E1 s1 n => by
      obtain ⟨Hb2, E2, s2, i2⟩ := E1.freeze n
      exact q.nx _ _ _ _ f1 (E2.set i2 hP hI) (s1.trans s2)⟩
end
end DL

/-! DL8: a def by its body, over data; the law's end. -/
namespace DL
open PySem L2
open PyProof.Rows hiding St

/-- the lent parameters as they stand at the end -/
def maskF (io : List Nat) : Nat → Nat → Env → Env
  | _, 0, _ => []
  | i, n + 1, ρ => (if i ∈ io then get ρ i else none) :: maskF io (i + 1) n ρ
theorem maskF_len (io : List Nat) : ∀ (n i : Nat) (ρ : Env), (maskF io i n ρ).length = n
  | 0, _, _ => rfl
  | n + 1, i, ρ => congrArg (· + 1) (maskF_len io n (i + 1) ρ)
theorem get_mask (io : List Nat) : ∀ (n i j : Nat) (ρ : Env), j < n → get (maskF io i n ρ) j = if i + j ∈ io then get ρ (i + j) else none
  | 0, _, _, _, h => by omega
  | n + 1, i, 0, ρ, h => rfl
  | n + 1, i, j + 1, ρ, h => by
    have e : i + (j + 1) = i + 1 + j := by omega
    rw [e]
    exact get_mask io n (i + 1) j ρ (by omega)
theorem get_mask_some {io : List Nat} {n j : Nat} {ρ : Env} {d : D} (h : get (maskF io 0 n ρ) j = some d) : j ∈ io ∧ get ρ j = some d ∧ j < n := by
  have hl := get_lt h
  rw [maskF_len] at hl
  rw [get_mask io n 0 j ρ hl, Nat.zero_add] at h
  split at h
  · exact ⟨by assumption, h, hl⟩
  · cases h
section
variable {K : PySem.W.Frag} {io J : List Nat} {ρ ρ' : Env} {σ' : St} {Hb H Hb' H' : Hp} {vs : List V} {n m : Nat}
theorem EnvOk.masked (E : EnvOk K ⟨Hb, H, lentAt io vs⟩ io J ρ' σ' Hb' H') (hn : vs.length = n) : EnvOk K ⟨Hb, H, lentAt io vs⟩ io [] (maskF io 0 n ρ') (vs.map some) Hb' H' where
  sub := E.sub
  stp := E.stp
  len := by rw [maskF_len, List.length_map, hn]
  val := fun i d g nP _ => absurd (get_mask_some g).1 nP
  cel := fun i d hi g => by
    obtain ⟨h1, h2, h3⟩ := get_mask_some g
    obtain ⟨p, e, nb, c, hp, _⟩ := E.cel i d (.inl h1) h2
    obtain ⟨_, ev⟩ := hp h1
    exact ⟨p, by rw [List.getElem?_map, ev]; rfl, nb, c, fun _ => ⟨h1, ev⟩, fun q => by cases q⟩
  sep := fun i j p hi hj gi gj ei ej => by
    have back : ∀ {k : Nat}, get (maskF io 0 n ρ') k ≠ none → (vs.map some)[k]? = some (some (.ref p)) → k ∈ io ∧ get ρ' k ≠ none ∧ σ'[k]? = some (some (.ref p)) := fun {k} g e => by
      cases q : get (maskF io 0 n ρ') k with
      | none => exact absurd q g
      | some d =>
        obtain ⟨h1, h2, h3⟩ := get_mask_some q
        obtain ⟨p', e', _, _, hp, _⟩ := E.cel k d (.inl h1) h2
        obtain ⟨_, ev⟩ := hp h1
        rw [List.getElem?_map, ev] at e
        cases e
        exact ⟨h1, by rw [h2]; simp, e'⟩
    obtain ⟨a1, a2, a3⟩ := back gi ei
    obtain ⟨b1, b2, b3⟩ := back gj ej
    exact E.sep i j p (.inl a1) (.inl b1) a2 b2 a3 b3
theorem get_append_none : ∀ (ρ : Env) (m i : Nat) (d : D), get (ρ ++ List.replicate m none) i = some d → get ρ i = some d
  | [], 0, _, _, h => by simp [get] at h
  | [], m + 1, 0, _, h => by simp [get, List.replicate_succ] at h
  | [], m + 1, i + 1, d, h => get_append_none [] m i d (by simpa [List.replicate_succ, get] using h)
  | x :: r, m, 0, _, h => h
  | x :: r, m, i + 1, d, h => get_append_none r m i d h
theorem EnvOk.entry (E : EnvOk K ⟨Hb, H, lentAt io vs⟩ io [] ρ (vs.map some) Hb H) : EnvOk K ⟨Hb, H, lentAt io vs⟩ io [] (ρ ++ List.replicate m none) (vs.map some ++ List.replicate m none) Hb H where
  sub := E.sub
  stp := E.stp
  len := by have := E.len; rw [List.length_append, List.length_append, this, List.length_replicate, List.length_replicate]
  val := fun i d g nP nI => by
    have g := get_append_none _ _ _ _ g
    obtain ⟨v, e, is⟩ := E.val i d g nP nI
    have hl := get_lt g
    exact ⟨v, by rw [List.getElem?_append_left (by rw [E.len]; exact hl)]; exact e, is⟩
  cel := fun i d hi g => by
    have g := get_append_none _ _ _ _ g
    obtain ⟨p, e, r⟩ := E.cel i d hi g
    have hl := get_lt g
    exact ⟨p, by rw [List.getElem?_append_left (by rw [E.len]; exact hl)]; exact e, r⟩
  sep := fun i j p hi hj gi gj ei ej => by
    have back : ∀ {k : Nat}, get (ρ ++ List.replicate m none) k ≠ none → (vs.map some ++ List.replicate m none)[k]? = some (some (.ref p)) → get ρ k ≠ none ∧ (vs.map some)[k]? = some (some (.ref p)) := fun {k} g e => by
      cases q : get (ρ ++ List.replicate m none) k with
      | none => exact absurd q g
      | some d =>
        have q := get_append_none _ _ _ _ q
        have hl := get_lt q
        rw [List.getElem?_append_left (by rw [E.len]; exact hl)] at e
        exact ⟨by rw [q]; simp, e⟩
    obtain ⟨a1, a2⟩ := back gi ei
    obtain ⟨b1, b2⟩ := back gj ej
    exact E.sep i j p hi hj a1 b1 a2 b2
end
/-- how a body may end -/
def endS (io : List Nat) (n : Nat) (post : Post) (xp : XP) : SPo where
  nx := fun ρ' => post .non (maskF io 0 n ρ')
  rt := fun d ρ' => post d (maskF io 0 n ρ')
  bk := fun _ => False
  ct := fun _ => False
  ex := fun c ρ' => xp c (maskF io 0 n ρ')
abbrev WofE (E : XK) : WX := fun cls d _ H => E cls d H
section
variable {P : Program} {w : World} {K : PySem.W.Frag} {mg : Str → Option Value} {base : Heap}
theorem ok_of {x qual : Str} {st : Stmt} {f : Addr} {fd : FuncData} {N ps : List Str} {k n : Nat} {io : List Nat} {J : List Nat} {G : DFn} {Fd : FS} (F : Fun K x qual st f fd) (S : FnScope N ps (defScope st)) (hn : ps.length = n)
    (hb : ∀ (cdv : Value) (A : Around) (outer : List PySem.Env) (s : Shared) (H : Hp) (E : XK), Room k (A.deeper (envOfC qual (defScope st) s.heap.objs.size f cdv)) →
      DSs (cxOf (L2.CX P w) P w K mg base N qual (defScope st) f cdv A outer s H E) (WofE E) io [] [] (defBody st) Fd J)
    (hg : ∀ (ρ : DL.Env) (post : Post) (xp : XP), ρ.length = n → G ρ post xp → Fd (ρ ++ List.replicate (N.length - n) none) (endS io n post xp)) : FnOk P w K mg base (L2.CX P w) (k + 1) f fd ps (spD K n io G) := by
  refine F.okX S (fun vs H Q E h => h.1.trans hn.symm) fun cdv A outer s H vs Q E hr h => ?_
  obtain ⟨hl, ρ, Hb, post, xp, E0, g, q1, q2⟩ := h
  obtain ⟨t, pt, kt⟩ := (hb cdv A outer s H E hr).run
  refine ⟨t, pt, ?_⟩
  have hρ : ρ.length = n := by rw [← E0.len, List.length_map, hl]
  have e1 : L2.start N vs = vs.map some ++ List.replicate (N.length - n) none := by unfold L2.start; rw [hl]
  rw [e1]
  refine kt ⟨Hb, H, lentAt io vs⟩ _ _ Hb H _ _ E0.entry (hg ρ post xp hρ g) ⟨fun ρ' σ' Hb' H' a E' s' => ?_, fun d ρ' σ' v Hb' H' a E' is => ?_, fun _ _ _ _ a => a.elim, fun _ _ _ _ a => a.elim, fun c ρ' cls dx σ' Hb' H' a E' xi => ?_⟩
  · exact q1 _ _ _ _ _ a (E'.masked hl) .non
  · exact q1 _ _ _ _ _ a (E'.masked hl) is
  · exact q2 _ _ _ _ _ _ a (E'.masked hl) xi
/-- another promise that asks more -/
theorem spD_imp {n : Nat} {io : List Nat} {G G' : DFn} {CX : CXT} {k : Nat} {f : Addr} {fd : FuncData} {ps : List Str} (F : FnOk P w K mg base CX k f fd ps (spD K n io G)) (h : ∀ ρ post xp, G' ρ post xp → G ρ post xp) : FnOk P w K mg base CX k f fd ps (spD K n io G') :=
  F.imp fun vs H Q E ⟨hl, ρ, Hb, post, xp, E0, g, q⟩ => ⟨hl, ρ, Hb, post, xp, E0, h _ _ _ g, q⟩
end

/-! ### the law -/
def spLaw (K : PySem.W.Frag) : Sp := fun vs H Q _ => ∃ (a : Addr) (ns : List Int), vs = [.ref a] ∧ SqL K H a (ns.map V.int) ∧ ns.length ≤ 63 ∧ ∀ H', Q (.bl true) H'
theorem isL_ints {K : PySem.W.Frag} {H : Hp} : ∀ ns : List Int, IsL K H (ns.map V.int) (ns.map D.int)
  | [] => .nil
  | n :: r => .cons (.int n) (isL_ints r)
section
variable {P : Program} {w : World} {K : PySem.W.Frag} {mg : Str → Option Value} {base : Heap}
theorem ok_law {k : Nat} {f : Addr} {fd : FuncData} {ps : List Str} {G : DFn} (F : FnOk P w K mg base (L2.CX P w) k f fd ps (spD K 1 [] G))
    (h : ∀ ns : List Int, ns.length ≤ 63 → G [some (.slst (ns.map D.int))] (fun d _ => d = .bl true) fun _ _ => False) : FnOk P w K mg base (L2.CX P w) k f fd ps (spLaw K) :=
  F.imp fun vs H Q E ⟨a, ns, e, hs, hl, q⟩ => by
    subst e
    refine ⟨rfl, [some (.slst (ns.map D.int))], H, _, _, ⟨Sub.refl _, Stp.refl _ _ _, rfl, fun i d g _ _ => ?_, fun i d hi _ => ?_, fun i j p hi => ?_⟩, h ns hl, fun d ρ' v Hb' H' e _ is => ?_, fun _ _ _ _ _ _ z => z.elim⟩
    · match i, g with
      | 0, g =>
        cases g
        exact ⟨_, rfl, .slst hs (isL_ints ns)⟩
      | i + 1, g => simp [get] at g
    · rcases hi with hi | hi <;> cases hi
    · rcases hi with hi | hi <;> cases hi
    · subst e
      rw [is_bl is]
      exact q _
end
end DL

/-! DL9: isinstance, repr of flat values, chains, dict displays, stores into own lists. -/
namespace DL
open PySem L2
open PyProof.Rows hiding St

/-! ### isinstance with a built-in class -/
def tyD : D → Option String
  | .non => some "NoneType"
  | .bl _ => some "bool"
  | .int _ => some "int"
  | .str _ => some "str"
  | .tup _ => some "tuple"
  | .ktp _ => some "tuple"
  | .lst _ => some "list"
  | .slst _ => some "list"
  | .dk _ => some "dict"
  | .dt _ => some "dict"
  | _ => none
inductive Kd where
  | int | bool | str | tuple | list | dict
@[simp] def Kd.name : Kd → String
  | .int => "int"
  | .bool => "bool"
  | .str => "str"
  | .tuple => "tuple"
  | .list => "list"
  | .dict => "dict"
@[simp] def isK : Kd → D → Option Bool
  | .int, .bl _ => some true
  | .int, .int _ => some true
  | .bool, .bl _ => some true
  | .str, .str _ => some true
  | .tuple, .tup _ => some true
  | .tuple, .ktp _ => some true
  | .list, .lst _ => some true
  | .list, .slst _ => some true
  | .dict, .dk _ => some true
  | .dict, .dt _ => some true
  | _, .ty _ => none
  | _, .fn _ => none
  | _, .obj _ _ => none
  | _, _ => some false
theorem isK_kit {K : PySem.W.Frag} (c : Kd) {d : D} {b : Bool} (h : isK c d = some b) : ∃ T, tyD d = some T ∧ PySem.W.kitOne K (.type T) (.type c.name) = some b := by
  cases c <;> cases d <;> simp only [isK] at h <;> first | (cases h; done) | (cases h; exact ⟨_, rfl, kit_ty (by decide +kernel)⟩)
theorem o_tyx {K : PySem.W.Frag} {Hb H : Hp} {v : V} {d : D} {T : String} (s : Sub Hb H) (h : IsO K Hb H v d) (e : tyD d = some T) : TyX K H v (.type T) := by
  have q := h.is s
  clear h s
  cases q with
  | non => cases e; exact .base .non
  | bl b => cases e; exact .base (.bl _)
  | int i => cases e; exact .base (.int _)
  | str z => cases e; exact .base (.str _)
  | ty n => cases e
  | fn n => cases e
  | tup h l => cases e; exact .base (.tup h)
  | lst h l => cases e; exact .base (.lst h)
  | ktp h l =>
    cases e
    rcases h with (h | ⟨o, h⟩) | ⟨o, its, n, h1, h2, _⟩
    · exact .base (.tup h)
    · exact .fTuple h
    · exact .kTuple h1 h2
  | slst h l =>
    cases e
    rcases h with (h | ⟨o, h⟩) | ⟨o, its, n, h1, h2, _⟩
    · exact .base (.lst h)
    · exact .base (.frz h)
    · exact .kList h1 h2
  | dk h e2 l => cases e; exact .base (.dK h)
  | dt h e2 l => cases e; exact .base (.dT h)
  | obj c h e2 l => cases e
def gIsi (c : Kd) : GN
  | [d, .ty n], k => n = c.name ∧ ∃ b, isK c d = some b ∧ k (.bl b)
  | _, _ => False
theorem rv_isi {K : PySem.W.Frag} (c : Kd) : RVN K (rIsi K) (gIsi c) := fun Hb H xs ds k Q s l g q => by
  unfold gIsi at g
  split at g
  · obtain ⟨e, b, h, g⟩ := g
    subst e
    obtain ⟨v, w, rfl, i, j⟩ := o_two l
    obtain rfl := o_ty j
    obtain ⟨T, h1, h2⟩ := isK_kit (K := K) c h
    exact ⟨_, _, _, _, b, rfl, .ty _, o_tyx s i h1, h2, q _ _ _ _ g .refl (.bl _)⟩
  · exact g.elim

/-! ### repr of flat values -/
section
variable {X : Cx}
@[simp] def flatText : D → Option Str
  | .non => some "None"
  | .bl b => some (if b then "True" else "False")
  | .int i => if i.natAbs.log2 < 1920 then some (toString i : String) else none
  | _ => none
abbrev rReprF : List V → Hp → VK → Prop := fun xs H Q => (xs = [.non] ∧ Q (.str ("None" : Str)) H) ∨ (∃ b, xs = [.bl b] ∧ Q (.str (if b then "True" else "False" : Str)) H) ∨ (∃ i, xs = [.int i] ∧ i.natAbs.log2 < 1920 ∧ Q (.str ((toString i : String) : Str)) H)
theorem call_reprF : CallR X (.builtin "repr") rReprF := by
  intro pins s σ H xs us Q I r h
  rcases h with ⟨rfl, q⟩ | ⟨b, rfl, q⟩ | ⟨i, rfl, hz, q⟩
  · obtain ⟨u, rfl, e⟩ := vals1 r
    cases (show u = Value.none from e)
    exact PySem.P.repr_of_none ⟨.str _, H, I.tok _, ⟨_, rfl⟩, q⟩
  · obtain ⟨u, rfl, e⟩ := vals1 r
    cases (show u = Value.bool b from e)
    exact PySem.P.repr_of_bool ⟨.str _, H, I.tok _, ⟨_, rfl⟩, q⟩
  · obtain ⟨u, rfl, t, rfl⟩ := vals1 r
    exact PySem.P.repr_of_int hz ⟨.str _, H, I.tok _, ⟨_, rfl⟩, q⟩
def gReprF : GN
  | [d], k => ∃ z, flatText d = some z ∧ k (.str z)
  | _, _ => False
theorem rv_reprF {K : PySem.W.Frag} : RVN K rReprF gReprF := fun Hb H xs ds k Q s l g q => by
  unfold gReprF at g
  split at g
  · obtain ⟨z, e, g⟩ := g
    obtain ⟨v, rfl, i⟩ := o_one l
    rename_i d
    cases d <;> simp only [flatText] at e <;> first | (cases e; done) | skip
    · cases e
      obtain rfl := o_non i
      exact .inl ⟨rfl, q _ _ _ _ g .refl (.str _)⟩
    · cases e
      obtain rfl := o_bl i
      exact .inr (.inl ⟨_, rfl, q _ _ _ _ g .refl (.str _)⟩)
    · split at e
      · cases e
        obtain rfl := o_int i
        exact .inr (.inr ⟨_, rfl, by assumption, q _ _ _ _ g .refl (.str _)⟩)
      · cases e
  · exact g.elim
end

/-! ### a op b op' c -/
section
variable {X : Cx} {Wx : WX} {P L I J J1 J2 : List Nat} {e a b c o k : Expr} {es : List Expr} {F G M : FE} {A : FA} {pos pos' p2 : Pos} {ta tb tc : TE}
@[simp ↓] def fChain (g g' : G2) (F G M : FE) : FE := fun ρ post xp => F ρ (fun x ρ1 => G ρ1 (fun y ρ2 => g x y fun z => gB z fun t => if t = true then M ρ2 (fun w ρ3 => g' y w fun z => post z ρ3) xp else post (.bl false) ρ2) xp) xp
theorem chain_core {r r' : R2} {g g' : G2} (hr : RV2 X.K r g) (hr' : RV2 X.K r' g') (ha : DE X Wx P I a ta F I) (hb : DE X Wx P I b tb G I) (hc : DE X Wx P I c tc M I) :
    ∀ (W : Wd) (ρ : Env) (σ : St) (Hb H : Hp) (Q : VK) (post : Post) (xp : XP), EnvOk X.K W P I ρ σ Hb H → fChain g g' F G M ρ post xp → XOk X Wx W P σ xp →
    (∀ d ρ' v Hb' H', post d ρ' → EnvOk X.K W P I ρ' σ Hb' H' → Sub Hb Hb' → Is X.K Hb' v d → Q v H') → tChain r r' ta tb tc σ H Q := by
  intro W ρ σ Hb H Q post xp E f x q
  refine ha.ev W ρ σ Hb H _ _ xp E f x fun d ρ1 v Hb1 H1 f1 E1 s1 i1 => ?_
  refine hb.ev W ρ1 σ Hb1 H1 _ _ xp E1 f1 x fun d2 ρ2 v2 Hb2 H2 f2 E2 s2 i2 => ?_
  refine hr Hb2 H2 v v2 d d2 _ _ E2.sub (.inl (i1.mono s2)) (.inl i2) f2 fun w dz Hb3 H3 kz gr iz => ?_
  obtain ⟨E3, s3⟩ := gr.env E2
  cases dz <;> first | exact kz.elim | skip
  rename_i t
  refine ⟨t, is_bl iz, ?_⟩
  cases t with
  | true =>
    have kz : M ρ2 (fun w ρ3 => g' d2 w fun z => post z ρ3) xp := by simpa [gB] using kz
    rw [if_pos rfl]
    refine hc.ev W ρ2 σ Hb3 H3 _ _ xp E3 kz x fun d4 ρ4 v4 Hb4 H4 f4 E4 s4 i4 => ?_
    refine hr' Hb4 H4 v2 v4 d2 d4 _ _ E4.sub (.inl ((i2.mono s3).mono s4)) (.inl i4) f4 fun w dz Hb5 H5 kz gr iz => ?_
    obtain ⟨E5, s5⟩ := gr.env E4
    exact q _ _ _ _ _ kz E5 ((((s1.trans s2).trans s3).trans s4).trans s5) iz
  | false =>
    have kz : post (.bl false) ρ2 := by simpa [gB] using kz
    rw [if_neg Bool.false_ne_true]
    exact q _ _ _ _ _ kz E3 ((s1.trans s2).trans s3) (.bl _)
theorem de_chain {op op' : CmpOp} {r r' : R2} {g g' : G2} (ho : OpR X (compareOp op) r) (hr : RV2 X.K r g) (ho' : OpR X (compareOp op') r') (hr' : RV2 X.K r' g') (ha : DE X Wx P I a ta F I) (hb : DE X Wx P I b tb G I) (hc : DE X Wx P I c tc M I)
    (hm : lastMarks [op, op'] [b, c] = false := by with_unfolding_all rfl) : DE X Wx P I (.Compare a [op, op'] [b, c] pos) (tChain r r' ta tb tc) (fChain g g' F G M) I :=
  de_of (pe_chain ho ho' ha.pe hb.pe hc.pe hm) (chain_core hr hr' ha hb hc)
theorem dt_chain {op op' : CmpOp} {r r' : R2} {g g' : G2} (ho : OpR X (compareOp op) r) (hr : RV2 X.K r g) (ho' : OpR X (compareOp op') r') (hr' : RV2 X.K r' g') (ha : DE X Wx P I a ta F I) (hb : DE X Wx P I b tb G I) (hc : DE X Wx P I c tc M I)
    (hm : lastMarks [op, op'] [b, c] = false := by with_unfolding_all rfl) : DT X Wx P I (.Compare a [op, op'] [b, c] pos) (tTest (tChain r r' ta tb tc)) (fTest (fChain g g' F G M)) I := by
  refine dt_of (pt_chain ho ho' ha.pe hb.pe hc.pe hm) fun W ρ σ Hb H Q post xp E f x q => chain_core hr hr' ha hb hc W ρ σ Hb H _ _ xp E f x fun d ρ1 v Hb1 H1 f1 E1 s1 i1 => ?_
  cases d <;> first | exact f1.elim | skip
  exact ⟨_, is_bl i1, q _ _ _ _ f1 E1 s1⟩

/-! ### dict displays: {}, {'k': v, ..} -/
@[simp] def dKey : D → Option Key
  | .int i => some (.inl i)
  | .str s => some (.inr s)
  | _ => none
structure DPs (X : Cx) (Wx : WX) (P I : List Nat) (pos : Pos) (keys : List (Option Expr)) (vals : List Expr) (t : List (TE × TE)) (F : Env → (List (Key × D) → Env → Prop) → XP → Prop) : Prop where
  pe : PPs X pos keys vals t
  ev : ∀ (W : Wd) (ρ : Env) (σ : St) (Hb H : Hp) (Q : List (V × V) → Hp → Prop) (post : List (Key × D) → Env → Prop) (xp : XP), EnvOk X.K W P I ρ σ Hb H → F ρ post xp → XOk X Wx W P σ xp →
    (∀ ds ρ' (vs : List (Key × V)) Hb' H', post ds ρ' → EnvOk X.K W P I ρ' σ Hb' H' → Sub Hb Hb' → ds.length = keys.length → vs.map (·.1) = ds.map (·.1) → IsL X.K Hb' (vs.map (·.2)) (ds.map (·.2)) → Q (vs.map fun kv => (kV kv.1, kv.2)) H') → tPairs t σ H Q
theorem dps_nil : DPs X Wx P I pos [] [] [] (fun ρ post _ => post [] ρ) := ⟨pps_nil, fun W ρ σ Hb H Q post xp E f _ q => q [] ρ [] Hb H f E (Sub.refl _) rfl rfl .nil⟩
theorem dps_cons {v : Expr} {ks : List (Option Expr)} {vs : List Expr} {trs : List (TE × TE)} {R : Env → (List (Key × D) → Env → Prop) → XP → Prop} (hk : DE X Wx P I k ta F I) (hv : DE X Wx P I v tb G I) (hr : DPs X Wx P I pos ks vs trs R) :
    DPs X Wx P I pos (some k :: ks) (v :: vs) ((ta, tb) :: trs) (fun ρ post xp => F ρ (fun kd ρ1 => G ρ1 (fun d ρ2 => ∃ key, dKey kd = some key ∧ R ρ2 (fun r ρ3 => post ((key, d) :: r) ρ3) xp) xp) xp) := by
  obtain ⟨p1, k1⟩ := hk
  obtain ⟨p2, k2⟩ := hv
  obtain ⟨p3, k3⟩ := hr
  refine ⟨pps_cons p1 p2 p3, fun W ρ σ Hb H Q post xp E f x q => k1 W ρ σ Hb H _ _ xp E f x fun kd ρ1 kv Hb1 H1 f1 E1 s1 i1 => k2 W ρ1 σ Hb1 H1 _ _ xp E1 f1 x fun d ρ2 v Hb2 H2 f2 E2 s2 i2 => ?_⟩
  obtain ⟨key, ek, f2⟩ := f2
  refine k3 W ρ2 σ Hb2 H2 _ _ xp E2 f2 x fun ds ρ3 us Hb3 H3 f3 E3 s3 z3 e3 l3 => ?_
  have ekv : kv = kV key := by
    cases kd <;> simp only [dKey] at ek <;> first | (cases ek; done) | cases ek
    · exact is_int i1
    · exact is_str i1
  subst ekv
  exact q ((key, d) :: ds) ρ3 ((key, v) :: us) Hb3 H3 f3 E3 ((s1.trans s2).trans s3) (congrArg (· + 1) z3) (by simp [e3]) (.cons (i2.mono s3) l3)
@[simp] def mergeD (kvs : List (Key × D)) : List (Key × D) := kvs.foldl (fun acc kv => putD acc kv.1 kv.2) []
@[simp ↓] def fDict (R : Env → (List (Key × D) → Env → Prop) → XP → Prop) : FE := fun ρ post xp => R ρ (fun kvs ρ1 => post (.dk (mergeD kvs)) ρ1) xp
theorem any_keys {k : Key} : ∀ {vs : List (Key × V)} {ds : List (Key × D)}, vs.map (·.1) = ds.map (·.1) → (vs.any fun kv => decide (kv.1 = k)) = (ds.any fun kv => decide (kv.1 = k))
  | [], [], _ => rfl
  | v :: vs, d :: ds, e => by
    simp only [List.map_cons, List.cons.injEq] at e
    simp only [List.any_cons, e.1, any_keys e.2]
  | [], _ :: _, e => by simp at e
  | _ :: _, [], e => by simp at e
theorem putK_is {K : PySem.W.Frag} {H : Hp} {vs : List (Key × V)} {ds : List (Key × D)} {k : Key} {v : V} {d : D} (e : vs.map (·.1) = ds.map (·.1)) (l : IsL K H (vs.map (·.2)) (ds.map (·.2))) (i : Is K H v d) :
    (putK vs k v).map (·.1) = (putD ds k d).map (·.1) ∧ IsL K H ((putK vs k v).map (·.2)) ((putD ds k d).map (·.2)) := by
  unfold putK putD
  rw [any_keys e]
  split
  · have rec1 : ∀ {vs : List (Key × V)} {ds : List (Key × D)}, vs.map (·.1) = ds.map (·.1) → IsL K H (vs.map (·.2)) (ds.map (·.2)) →
        (vs.map fun kv => if kv.1 = k then (kv.1, v) else kv).map (·.1) = (ds.map fun kv => if kv.1 = k then (kv.1, d) else kv).map (·.1) ∧ IsL K H ((vs.map fun kv => if kv.1 = k then (kv.1, v) else kv).map (·.2)) ((ds.map fun kv => if kv.1 = k then (kv.1, d) else kv).map (·.2)) := by
      intro vs
      induction vs with
      | nil =>
        intro ds e l
        cases ds with
        | nil => exact ⟨rfl, .nil⟩
        | cons => simp at e
      | cons a vs ih =>
        intro ds e l
        cases ds with
        | nil => simp at e
        | cons b ds =>
          simp only [List.map_cons, List.cons.injEq] at e
          rw [List.map_cons, List.map_cons] at l
          cases l with
          | cons l1 l2 =>
            obtain ⟨r1, r2⟩ := ih e.2 l2
            rw [List.map_cons, List.map_cons, List.map_cons, List.map_cons, List.map_cons, List.map_cons, r1, e.1]
            by_cases hk : b.1 = k
            · rw [if_pos hk, if_pos hk]
              exact ⟨rfl, .cons i r2⟩
            · rw [if_neg hk, if_neg hk]
              exact ⟨by rw [e.1], .cons l1 r2⟩
    exact rec1 e l
  · simp only [List.map_append, List.map_cons, List.map_nil]
    exact ⟨by rw [e], l.snoc i⟩
theorem merge_is {K : PySem.W.Frag} {H : Hp} : ∀ {vs : List (Key × V)} {ds : List (Key × D)} {av : List (Key × V)} {ad : List (Key × D)}, vs.map (·.1) = ds.map (·.1) → IsL K H (vs.map (·.2)) (ds.map (·.2)) → av.map (·.1) = ad.map (·.1) → IsL K H (av.map (·.2)) (ad.map (·.2)) →
    (mergeK av vs).map (·.1) = (ds.foldl (fun acc kv => putD acc kv.1 kv.2) ad).map (·.1) ∧ IsL K H ((mergeK av vs).map (·.2)) ((ds.foldl (fun acc kv => putD acc kv.1 kv.2) ad).map (·.2))
  | [], [], _, _, _, _, e, l => ⟨e, l⟩
  | v :: vs, d :: ds, av, ad, e1, l1, e, l => by
    simp only [List.map_cons, List.cons.injEq] at e1
    rw [List.map_cons, List.map_cons] at l1
    cases l1 with
    | cons a l1 =>
      obtain ⟨p1, p2⟩ := putK_is (k := v.1) e l a
      have := merge_is e1.2 l1 p1 p2
      have em : mergeK av (v :: vs) = mergeK (putK av v.1 v.2) vs := rfl
      rw [em, List.foldl_cons, ← e1.1]
      exact this
  | [], _ :: _, _, _, e1, _, _, _ => by simp at e1
  | _ :: _, [], _, _, e1, _, _, _ => by simp at e1
/-- the world with one address more, that nobody lends -/
def Wd.plus (W : Wd) (p : Addr) (o : HO) : Wd := ⟨W.Hb, upd W.H p o, fun i a => W.ps i a ∧ a ≠ p⟩
theorem EnvOk.over {K : PySem.W.Frag} {W : Wd} {P I : List Nat} {ρ : Env} {σ : St} {Hb H : Hp} {p : Addr} {o : HO} (E : EnvOk K W P I ρ σ Hb H) (hp : H p = none) : EnvOk K (W.plus p o) P I ρ σ Hb (upd H p o) := by
  have E1 := E.more (o := o) hp
  have nb := E.sub.none hp
  have wn := E.stp.al p hp
  refine ⟨E1.sub, ⟨E1.stp.hb, fun a u e n => ?_, fun a u e => ?_, fun a e => ?_⟩, E1.len, E1.val, fun i d hi g => ?_, E1.sep⟩
  · by_cases ha : a = p
    · subst ha
      have e : upd W.H a o a = some u := e
      rw [upd_same] at e ⊢; exact e
    · have e : upd W.H p o a = some u := e
      rw [upd_ne ha] at e
      exact E1.stp.fr a u e fun i q => n i ⟨q, ha⟩
  · have ha : a ≠ p := fun z => by subst z; rw [nb] at e; cases e
    rcases E1.stp.fs a u e with r | r
    · exact .inl r
    · exact .inr (by show upd W.H p o a = none; rw [upd_ne ha]; exact r)
  · have ha : a ≠ p := fun z => by subst z; rw [upd_same] at e; cases e
    show upd W.H p o a = none
    rw [upd_ne ha]
    exact E1.stp.al a e
  · obtain ⟨q, e, n, c, h1, h2⟩ := E.cel i d hi g
    obtain ⟨u, hu⟩ := c.some
    have hq : q ≠ p := ne_of_none hu hp
    refine ⟨q, e, n, c.mono (Sub.refl _) fun u e => by rw [upd_ne hq]; exact e, fun z => ⟨h1 z, hq⟩, fun z => ?_⟩
    show upd W.H p o q = none
    rw [upd_ne hq]
    exact h2 z
theorem EnvOk.under {K : PySem.W.Frag} {W : Wd} {P I : List Nat} {ρ : Env} {σ : St} {Hb H : Hp} {p : Addr} {o : HO} (E : EnvOk K (W.plus p o) P I ρ σ Hb H) (wn : W.H p = none) : EnvOk K W P I ρ σ Hb H := by
  refine ⟨E.sub, ⟨E.stp.hb, fun a u e n => ?_, fun a u e => ?_, fun a e => ?_⟩, E.len, E.val, fun i d hi g => ?_, E.sep⟩
  · have ha : a ≠ p := ne_of_none e wn
    exact E.stp.fr a u (by show upd W.H p o a = some u; rw [upd_ne ha]; exact e) fun i q => n i q.1
  · rcases E.stp.fs a u e with r | r
    · exact .inl r
    · have r : upd W.H p o a = none := r
      have ha : a ≠ p := fun z => by subst z; rw [upd_same] at r; cases r
      rw [upd_ne ha] at r
      exact .inr r
  · have r : upd W.H p o a = none := E.stp.al a e
    have ha : a ≠ p := fun z => by subst z; rw [upd_same] at r; cases r
    rw [upd_ne ha] at r
    exact r
  · obtain ⟨q, e, n, c, h1, h2⟩ := E.cel i d hi g
    refine ⟨q, e, n, c, fun z => (h1 z).1, fun z => ?_⟩
    have r : upd W.H p o q = none := h2 z
    have ha : q ≠ p := fun z => by subst z; rw [upd_same] at r; cases r
    rw [upd_ne ha] at r
    exact r
theorem EnvOk.at_plus {K : PySem.W.Frag} {W : Wd} {P I : List Nat} {ρ : Env} {σ : St} {Hb H : Hp} {p : Addr} {o : HO} (E : EnvOk K (W.plus p o) P I ρ σ Hb H) (nb : W.Hb p = none) : Hb p = none ∧ H p = some o ∧ ∀ i, (i ∈ P ∨ i ∈ I) → get ρ i ≠ none → σ[i]? ≠ some (some (.ref p)) := by
  refine ⟨?_, E.stp.fr p o upd_same fun i q => q.2 rfl, fun i hi g e => ?_⟩
  · cases z : Hb p with
    | none => rfl
    | some u =>
      rcases E.stp.fs p u z with r | r
      · have r : W.Hb p = some u := r
        rw [nb] at r; cases r
      · have r : upd W.H p o p = none := r
        rw [upd_same] at r; cases r
  · cases z : get ρ i with
    | none => exact g z
    | some d =>
      obtain ⟨q, e', _, _, h1, h2⟩ := E.cel i d hi z
      rw [e] at e'; cases e'
      rcases hi with hi | hi
      · exact (h1 hi).2 rfl
      · have r : upd W.H p o p = none := h2 hi
        rw [upd_same] at r; cases r
theorem dn_dict {keys : List (Option Expr)} {vals : List Expr} {trs : List (TE × TE)} {R : Env → (List (Key × D) → Env → Prop) → XP → Prop} (h : DPs X Wx P I pos keys vals trs R) (hall : keys.all (·.isSome) = true := by rfl) (hl : keys.length = vals.length := by rfl) (h0 : keys ≠ [] := by exact fun h => nomatch h)
    (h15 : keys.length ≤ 15 := by decide) : DNw X Wx P I (.Dict keys vals pos) (tDisp trs) (fDict R) I := by
  obtain ⟨pp, kk⟩ := h
  refine ⟨pe_disp pp hall hl h0 h15, fun W ρ σ Hb H Q post xp E f x q p hp => ?_⟩
  have nb : W.Hb p = none := E.stp.hb.none (E.sub.none hp)
  have wn : W.H p = none := E.stp.al p hp
  refine kk (W.plus p (.dK [])) ρ σ Hb _ _ _ xp (E.over hp) f (fun c ρ' cls dx Hb' H' z E' xi => x c ρ' cls dx Hb' H' z (E'.under wn) xi) fun ds ρ' vs Hb2 H2 f2 E2 s2 z2 e2 l2 => ?_
  obtain ⟨n2, h2, un⟩ := E2.at_plus nb
  obtain ⟨m1, m2⟩ := merge_is (av := []) (ad := []) e2 l2 rfl .nil
  have lz : vs.length = ds.length := by
    have := congrArg List.length e2
    simpa using this
  exact ⟨h2, vs, rfl, by rw [lz, z2]; exact h15, q _ _ _ _ _ f2 ((E2.under wn).poke n2 wn un) s2 ⟨n2, ⟨_, upd_same, m1, m2⟩, wn, un⟩⟩
/-- {} -/
theorem dn_dict0 : DNw X Wx P I (.Dict [] [] pos) tDNewK (fC (.dk [])) I :=
  ⟨pe_dnewK, fun W ρ σ Hb H Q post xp E f x q p hp => q _ _ _ _ _ f (E.more hp) (Sub.refl _) (NewAt.mk' E hp ⟨[], upd_same, rfl, .nil⟩)⟩
/-- l[i] = v, l a slot's own list -/
@[simp ↓] def fPutL (i : Nat) (Fv Fk : FE) : FS := fun ρ S => Fv ρ (fun v ρ1 => (∃ ds, get ρ1 i = some (.lst ds)) ∧ Fk ρ1 (fun k ρ2 => ∃ ds j n, get ρ2 i = some (.lst ds) ∧ k = .int j ∧ ixN ds.length j = some n ∧ S.nx (put ρ2 i (some (.lst (ds.set n v))))) S.ex) S.ex
theorem ds_putL (i : Nat) {x : Str} {value : Expr} {spos : Pos} (hv : DE X Wx P I value ta F J1) (hk : DE X Wx P J1 k tb G J) (hi : i ∈ P ∨ i ∈ J1 := by decide) (hj : i ∈ P ∨ i ∈ J := by decide) (hN : X.N[i]? = some x := by rfl) (hvx : Vis X.env.scope x := by first | exact Or.inl rfl | exact Or.inr (Or.inl rfl) | exact Or.inr (Or.inr rfl)) (hd : (x == ("__debug__" : Str)) = false := by decide)
    (hcd : (x == ("__classdict__" : Str)) = false := by decide)
    (ha : ∀ v, assign (.Subscript (.Name x pos') k spos) X.env v = (do
      let ov ← holding [v] (eval (.Name x pos') X.env)
      let iv ← holding [v, ov] (eval k X.env)
      standAt spos
      holding [v, ov, iv] (setItem ov iv v)
      release [v, ov, iv] []) := by intro _; rfl)
    (hs : swapsWithSole [.Subscript (.Name x pos') k spos] value pos.line X.env = pure false := by rfl) (hw : swappedStores [.Subscript (.Name x pos') k spos] value X.env = pure none := by rfl)
    (h1 : (assignEach [.Subscript (.Name x pos') k spos] X.env).map (·.2) = [assign (.Subscript (.Name x pos') k spos) X.env] := by rfl) :
    DS X Wx P L I (.Assign [.Subscript (.Name x pos') k spos] value pos) (fPutL i F G) J := by
  obtain ⟨p1, k1⟩ := hv
  obtain ⟨p2, k2⟩ := hk
  refine ⟨_, ps_asg p1 (pg_sub (pe_var hN hvx hd hcd) p2 set_list ha) hs hw h1, fun W ρ σ Hb H D S E f q => k1 W ρ σ Hb H _ _ _ E f (q.xok σ) fun z ρ1 v Hb1 H1 f1 E1 s1 i1 => ?_⟩
  obtain ⟨⟨ds0, g0⟩, f1⟩ := f1
  obtain ⟨p, ep, _⟩ := E1.cel i _ hi g0
  refine ⟨_, ep, k2 W ρ1 σ Hb1 H1 _ _ _ E1 f1 (q.xok σ) fun kd ρ2 y Hb2 H2 f2 E2 s2 i2 => ?_⟩
  obtain ⟨ds, j, n, gd, e, hix, f2⟩ := f2
  subst e
  obtain ⟨p', ep', _, ⟨vs, hp, l⟩, _⟩ := E2.cel i _ hj gd
  rw [ep] at ep'; cases ep'
  exact ⟨p, vs, j, n, rfl, is_int i2, hp, by rw [l.length]; exact hix, q.nx _ _ _ _ f2 (E2.write hj gd ep ⟨_, upd_same, l.set n (i1.mono s2)⟩) (s1.trans s2)⟩
end
end DL

/-! DL10: calls that make a new cell; small words for the printed walks. -/
namespace DL
open PySem L2
open PyProof.Rows hiding St

/-- the promise of a def that returns a new cell -/
def spN (K : PySem.W.Frag) (n : Nat) (io : List Nat) (G : DFn) : Sp := fun vs H Q E => vs.length = n ∧ ∃ (ρ : Env) (Hb : Hp) (post : Post) (xp : XP), EnvOk K ⟨Hb, H, lentAt io vs⟩ io [] ρ (vs.map some) Hb H ∧ G ρ post xp ∧
  (∀ d ρ' p Hb' H', post d ρ' → EnvOk K ⟨Hb, H, lentAt io vs⟩ io [] ρ' (vs.map some) Hb' H' → NewAt K ⟨Hb, H, lentAt io vs⟩ io [] ρ' (vs.map some) Hb' H' p d → Q (.ref p) H') ∧
  (∀ c ρ' cls dx Hb' H', xp c ρ' → EnvOk K ⟨Hb, H, lentAt io vs⟩ io [] ρ' (vs.map some) Hb' H' → XIs K Hb' cls dx c → E cls dx H')
section
variable {X : Cx} {Wx : WX} {P I J J1 : List Nat} {e a b c : Expr} {es : List Expr} {F : FE} {A : Env → (Env → Env → Prop) → XP → Prop} {sl : List (Option Nat)} {pos p : Pos} {k n : Nat} {f : Addr} {fd : FuncData} {ps : List Str} {G : DFn} {x : Str} {io : List Nat} {tA : TA}
theorem unfill_some : ∀ (sl : List (Option Nat)) (r ρ : Env) (i : Nat), i ∉ slots sl → get (unfill sl r ρ) i ≠ none → get ρ i ≠ none := fun sl r ρ i h g => by rw [unfill_ne _ _ _ _ h] at g; exact g
theorem calln_core {t : TA} (tk : Takes X Wx) (hio : ioOf 0 sl = io) (hsl : ∀ j ∈ slots sl, j ∈ P ∨ j ∈ J) (nd : (slots sl).Nodup) (hPJ : ∀ j ∈ J, j ∉ P) (hn : sl.length = n)
    (ka : ∀ (W : Wd) (ρ : Env) (σ : St) (Hb H : Hp) (Q : List V → Hp → Prop) (post : Env → Env → Prop) (xp : XP), EnvOk X.K W P I ρ σ Hb H → A ρ post xp → XOk X Wx W P σ xp →
    (∀ ds ρ' vs Hb' H', post ds ρ' → EnvOk X.K W P J ρ' σ Hb' H' → Sub Hb Hb' → Args X.K Hb' σ sl vs ds → Q vs H') → t σ H Q) :
    ∀ (W : Wd) (ρ : Env) (σ : St) (Hb H : Hp) (Q : VK) (post : Post) (xp : XP), EnvOk X.K W P I ρ σ Hb H → fCall G sl A ρ post xp → XOk X Wx W P σ xp →
    (∀ d ρ' p Hb' H', post d ρ' → EnvOk X.K W P J ρ' σ Hb' H' → Sub Hb Hb' → NewAt X.K W P J ρ' σ Hb' H' p d → Q (.ref p) H') → t σ H fun vs H1 => spN X.K n io G vs H1 Q (WE Wx σ) := by
  intro W ρ σ Hb H Q post xp E h x q
  subst hio
  refine ka W ρ σ Hb H _ _ xp E h x fun ds ρ1 vs Hb1 H1 f1 E1 s1 ar => ?_
  obtain ⟨lo, g⟩ := f1
  have hl := lentOk_of lo
  refine ⟨by rw [← ar.slLen]; exact hn, fill sl ds ρ1, Hb1, _, _, E1.lend ar hsl nd hl, g, fun d ρ' pn Hb' H' p1 E2 nw => ?_, fun c ρ' cls dx Hb' H' p1 E2 xi => ?_⟩
  · have E3 := E1.given ar hsl nd hl E2 ar.slLen
    refine q _ _ _ _ _ p1 E3 (s1.trans E2.stp.hb) ⟨nw.nb, nw.cell, E1.stp.al pn nw.wn, fun i hi gi e => ?_⟩
    have g1 : get ρ1 i ≠ none := by
      by_cases hm : i ∈ slots sl
      · exact hl i hm
      · exact unfill_some _ _ _ _ hm gi
    cases z : get ρ1 i with
    | none => exact g1 z
    | some d0 =>
      obtain ⟨p', ep, _, c0, _⟩ := E1.cel i d0 hi z
      rw [e] at ep; cases ep
      obtain ⟨o, ho⟩ := c0.some
      have wn : H1 pn = none := nw.wn
      rw [wn] at ho; cases ho
  · have E3 := E1.given ar hsl nd hl E2 ar.slLen
    obtain ⟨Hb3, E4, s4⟩ := E3.drop (J := []) (fun j q => by cases q) hPJ
    refine x c _ cls dx Hb3 H' p1 E4 ?_
    obtain ⟨e, r | ⟨d, us, e1, e2, e3, e4⟩⟩ := xi
    · exact ⟨e, .inl r⟩
    · exact ⟨e, .inr ⟨d, us, e1, s4 _ _ e2, e3, e4.mono s4⟩⟩
theorem dn_call (Fn : FnOk X.prog X.w X.K X.mg X.base (L2.CX X.prog X.w) k f fd ps (spN X.K n io G)) (hr : Room k X.A) (hm : X.mg x = some (.ref f)) (hk : PySem.W.keepIn X.K (.ref f) = true) (hb : Binds X.K fd ps []) (tk : Takes X Wx)
    (ha : DO X Wx P I (e :: es) tA A sl J) (hio : ioOf 0 sl = io := by decide) (hsl : ∀ j ∈ slots sl, j ∈ P ∨ j ∈ J := by decide) (nd : (slots sl).Nodup := by decide) (hPJ : ∀ j ∈ J, j ∉ P := by decide) (hn : sl.length = n := by decide)
    (hg : Gl X x := by rfl) (hdb : (x == ("__debug__" : Str)) = false := by decide) (he : starEach (e :: es) X.env = (false, eval e X.env) :: starEach es X.env := by rfl) (hpl : (backTo pos (starEach es X.env)).any (·.1) = false := by rfl) :
    DNw X Wx P I (.Call (.Name x p) (e :: es) [] pos) (tCallS (spN X.K n io G) (WE Wx) tA) (fCall G sl A) J := by
  obtain ⟨pa, ka⟩ := ha
  exact ⟨pe_callS Fn hr hg hm hk hb (fun σ => passAt tk σ) pa hdb he hpl, calln_core tk hio hsl nd hPJ hn ka⟩
end
section
variable {P : Program} {w : World} {K : PySem.W.Frag} {mg : Str → Option Value} {base : Heap}
/-- def f(..): return <a new cell> -/
theorem okN_of {x qual : Str} {st : Stmt} {f : Addr} {fd : FuncData} {N ps : List Str} {k n : Nat} {e : Expr} {pos : Pos} {G : DFn} {Fd : FE} (F : Fun K x qual st f fd) (S : FnScope N ps (defScope st)) (hn : ps.length = n)
    (hbody : defBody st = [.Return (some e) pos])
    (hb : ∀ (cdv : Value) (A : Around) (outer : List PySem.Env) (s : Shared) (H : Hp) (E : XK), Room k (A.deeper (envOfC qual (defScope st) s.heap.objs.size f cdv)) →
      ∃ t, DNw (cxOf (L2.CX P w) P w K mg base N qual (defScope st) f cdv A outer s H E) (WofE E) [] [] e t Fd [])
    (hg : ∀ (ρ : DL.Env) (post : Post) (xp : XP), ρ.length = n → G ρ post xp → Fd (ρ ++ List.replicate (N.length - n) none) (fun d ρ' => post d (maskF [] 0 n ρ')) fun c ρ' => xp c (maskF [] 0 n ρ')) : FnOk P w K mg base (L2.CX P w) (k + 1) f fd ps (spN K n [] G) := by
  refine F.okX S (fun vs H Q E h => h.1.trans hn.symm) fun cdv A outer s H vs Q E hr h => ?_
  obtain ⟨hl, ρ, Hb, post, xp, E0, g, q1, q2⟩ := h
  obtain ⟨te, ht⟩ := hb cdv A outer s H E hr
  rw [hbody]
  refine ⟨_, pss_one (ps_ret ht.pe), ?_⟩
  have hρ : ρ.length = n := by rw [← E0.len, List.length_map, hl]
  have e1 : L2.start N vs = vs.map some ++ List.replicate (N.length - n) none := by unfold L2.start; rw [hl]
  rw [e1]
  refine ht.ev ⟨Hb, H, lentAt [] vs⟩ _ _ Hb H _ _ _ E0.entry (hg ρ post xp hρ g) (fun c ρ' cls dx Hb' H' a E' xi => q2 _ _ _ _ _ _ a (E'.masked hl) xi) fun d ρ' p Hb' H' a E' s' nw => ?_
  exact q1 _ _ _ _ _ a (E'.masked hl) ⟨nw.nb, nw.cell, nw.wn, fun i hi => by rcases hi with hi | hi <;> cases hi⟩
end
theorem hu65_of {A : Around} {k : Nat} (hr : Room k A) : A.units + 65 < cLine := by have := hr.un; omega
theorem hu64_of {A : Around} {k : Nat} (hr : Room k A) : A.units + 64 < cLine := by have := hr.un; omega
theorem hu0_of {A : Around} {k : Nat} (hr : Room k A) : A.units < cLine := by have := hr.un; omega
/-- readings by name -/
@[simp ↓] def fTupE (A : FA) : FE := fun ρ post xp => A ρ (fun xs ρ1 => xs.length ≤ 1000 ∧ post (.tup xs) ρ1) xp
@[simp ↓] def fLstE (A : FA) : FE := fun ρ post xp => A ρ (fun xs ρ1 => xs.length ≤ 1000000 ∧ post (.lst xs) ρ1) xp
abbrev FKv := Env → (List (Key × D) → Env → Prop) → XP → Prop
@[simp ↓] def fKvs0 : FKv := fun ρ post _ => post [] ρ
@[simp ↓] def fKvs (F G : FE) (R : FKv) : FKv := fun ρ post xp => F ρ (fun kd ρ1 => G ρ1 (fun d ρ2 => ∃ key, dKey kd = some key ∧ R ρ2 (fun r ρ3 => post ((key, d) :: r) ρ3) xp) xp) xp
@[simp ↓] def fCutN (F : FE) (A B : FO) : FE := fun ρ post xp => F ρ (fun d ρ1 => A ρ1 (fun lo ρ2 => B ρ2 (fun hi ρ3 => ∃ ds, lstD d = some ds ∧ post (.lst (cutL ds lo hi)) ρ3) xp) xp) xp
/-- a tuple of targets has as many items -/
def GS (g : FG) : Prop := ∀ d ρ k, g d ρ k → ∃ ρ1, k ρ1
def GL (r : FGs) (n : Nat) : Prop := ∀ ds ρ k, r ds ρ k → ds.length = n ∧ ∃ ρ1, k ρ1
theorem gs_nm {i : Nat} : GS (gNm i) := fun _ _ _ h => ⟨_, h⟩
theorem gl_nil : GL gNl 0 := fun ds ρ k h => by
  cases ds with
  | nil => exact ⟨rfl, _, h⟩
  | cons => exact h.elim
theorem gl_cons {g : FG} {r : FGs} {n : Nat} (hg : GS g) (hr : GL r n) : GL (gCn g r) (n + 1) := fun ds ρ k h => by
  cases ds with
  | nil => exact h.elim
  | cons d ds =>
    obtain ⟨ρ1, h⟩ := hg _ _ _ h
    obtain ⟨e, q⟩ := hr _ _ _ h
    exact ⟨congrArg (· + 1) e, q⟩
theorem gs_tp {r : FGs} {n : Nat} (h : GL r n) : GS (gTp r) := fun d ρ k q => by
  cases d <;> first | exact q.elim | exact (h _ _ _ q).2

/-! ### comprehensions whose parts' transformers may name the block -/
abbrev Bk (X : Cx) (scope : Scope) (s : Shared) (H : Hp) (C : Addr) (cl : List (Str × Addr)) (fp : List Addr) : Cx := X.blk s H scope (compEnvC scope cl C X.env) fp
section
variable {X : Cx} {Wx : WX} {P L I J : List Nat} {elt tg iter : Expr} {ifs : List Expr} {scope : Scope} {own : List (Str × Nat)} {pos spos py : Pos} {wi : TI} {A : FA} {gd : FG} {T : FT} {E : FE} {ts : List Nat}
theorem all_de {e : Expr} (h : ∀ (s : Shared) (H : Hp) (C : Addr) (cl : List (Str × Addr)) (fp : List Addr), ∃ te, DE (Bk X scope s H C cl fp) Wx P I e te E J) :
    ∃ te, ∀ (s : Shared) (H : Hp) (C : Addr) (cl : List (Str × Addr)) (fp : List Addr), DE (Bk X scope s H C cl fp) Wx P I e te E J := by
  classical
  refine ⟨fun σ H Q => ∀ s H0 C cl fp, Classical.choose (h s H0 C cl fp) σ H Q, fun s H C cl fp => ?_⟩
  have k := Classical.choose_spec (h s H C cl fp)
  refine ⟨⟨fun pins s1 σ H1 Q I1 q => k.pe.run pins s1 σ H1 Q I1 (q s H C cl fp)⟩, fun W ρ σ Hb H1 Q post xp E1 f x q s2 H2 C2 cl2 fp2 => ?_⟩
  exact (Classical.choose_spec (h s2 H2 C2 cl2 fp2)).ev W ρ σ Hb H1 Q post xp E1 f x q
theorem all_dts (h : ∀ (s : Shared) (H : Hp) (C : Addr) (cl : List (Str × Addr)) (fp : List Addr), ∃ te, DTs (Bk X scope s H C cl fp) Wx P I ifs te T J) :
    ∃ te, ∀ (s : Shared) (H : Hp) (C : Addr) (cl : List (Str × Addr)) (fp : List Addr), DTs (Bk X scope s H C cl fp) Wx P I ifs te T J := by
  classical
  refine ⟨fun σ H Q => ∀ s H0 C cl fp, Classical.choose (h s H0 C cl fp) σ H Q, fun s H C cl fp => ?_⟩
  have k := Classical.choose_spec (h s H C cl fp)
  refine ⟨⟨fun pins s1 σ H1 Q I1 q => k.pe.run pins s1 σ H1 Q I1 (q s H C cl fp)⟩, fun W ρ σ Hb H1 Q post xp E1 f x q s2 H2 C2 cl2 fp2 => ?_⟩
  exact (Classical.choose_spec (h s2 H2 C2 cl2 fp2)).ev W ρ σ Hb H1 Q post xp E1 f x q
theorem all_dg (h : ∀ (s : Shared) (H : Hp) (C : Addr) (cl : List (Str × Addr)) (fp : List Addr), ∃ g, DG (Bk X scope s H C cl fp) P I tg ts g gd) :
    ∃ g, ∀ (s : Shared) (H : Hp) (C : Addr) (cl : List (Str × Addr)) (fp : List Addr), DG (Bk X scope s H C cl fp) P I tg ts g gd := by
  classical
  refine ⟨fun v σ H Q => ∀ s H0 C cl fp, Classical.choose (h s H0 C cl fp) v σ H Q, fun s H C cl fp => ?_⟩
  have k := Classical.choose_spec (h s H C cl fp)
  refine ⟨⟨fun pins s1 σ H1 v u Q I1 r q => k.pe.run pins s1 σ H1 v u Q I1 r (q s H C cl fp)⟩, fun W ρ σ Hb H1 v d Q kk E1 i f q s2 H2 C2 cl2 fp2 => ?_⟩
  exact (Classical.choose_spec (h s2 H2 C2 cl2 fp2)).ev W ρ σ Hb H1 v d Q kk E1 i f q
/-- the new list of a comprehension -/
structure DNx (X : Cx) (Wx : WX) (P I : List Nat) (e : Expr) (F : FE) (J : List Nat) : Prop where
  ex : ∃ t, DNw X Wx P I e t F J
theorem dx_lc (N : List Str) (sc : Scope) (own : List (Str × Nat)) (vs : List Nat) (hc : X.calm = true) (hN : X.N.Nodup) (hi : DI X Wx P I tg iter wi A J) (hb : blkC N sc scope own = true)
    (hg : ∀ (s : Shared) (H : Hp) (C : Addr) (cl : List (Str × Addr)) (fp : List Addr), ∃ g, DG (Bk X scope s H C cl fp) (P ++ J) [] tg ts g gd)
    (ht : ∀ (s : Shared) (H : Hp) (C : Addr) (cl : List (Str × Addr)) (fp : List Addr), ∃ tt, DTs (Bk X scope s H C cl fp) WN (P ++ J) [] ifs tt T [])
    (he : ∀ (s : Shared) (H : Hp) (C : Addr) (cl : List (Str × Addr)) (fp : List Addr), ∃ te, DE (Bk X scope s H C cl fp) WN (P ++ J) [] elt te E [])
    (e1 : X.N = N := by rfl) (e2 : X.env.scope = sc := by rfl) (e3 : own.map (·.2) = vs := by rfl)
    (hts : ∀ v ∈ ts, v ∈ own.map (·.2) := by decide) (hvs : ∀ v ∈ own.map (·.2), v ∉ P ∧ v ∉ J := by decide) (hs : ∀ x, foldedSetIterable iter X.env x = pure x := by intro _; rfl) :
    DNx X Wx P I (.ListComp elt [⟨tg, iter, ifs, 0⟩] scope pos) (fLc A vs gd T E) J := by
  obtain ⟨g, hg⟩ := all_dg hg
  obtain ⟨tt, ht⟩ := all_dts ht
  obtain ⟨te, he⟩ := all_de he
  subst e1 e2 e3
  exact ⟨_, dn_lc own hc hN hi (blkOk_by hb) hg ht he hts hvs hs⟩
end
theorem dn_of {X : Cx} {Wx : WX} {P I J : List Nat} {e : Expr} {F : FE} (h : DNx X Wx P I e F J) : DNw X Wx P I e (Classical.choose h.ex) F J := Classical.choose_spec h.ex
section
variable {X : Cx} {Wx : WX} {P L I J : List Nat} {elt tg iter : Expr} {ifs : List Expr} {scope : Scope} {own : List (Str × Nat)} {pos spos py : Pos} {wi : TI} {A : FA} {gd : FG} {T : FT} {E : FE} {ts : List Nat}
theorem dx_setLcN (i : Nat) {y : Str} (N : List Str) (sc : Scope) (own : List (Str × Nat)) (vs : List Nat) (hc : X.calm = true) (hN : X.N.Nodup) (hsw : swapsWith (.ListComp elt [⟨tg, iter, ifs, 0⟩] scope pos) (some (.Name y py)) spos.line X.env = pure true) (hi : DI X Wx P I tg iter wi A J) (hb : blkC N sc scope own = true)
    (hg : ∀ (s : Shared) (H : Hp) (C : Addr) (cl : List (Str × Addr)) (fp : List Addr), ∃ g, DG (Bk X scope s H C cl fp) (P ++ J) [] tg ts g gd)
    (ht : ∀ (s : Shared) (H : Hp) (C : Addr) (cl : List (Str × Addr)) (fp : List Addr), ∃ tt, DTs (Bk X scope s H C cl fp) WN (P ++ J) [] ifs tt T [])
    (he : ∀ (s : Shared) (H : Hp) (C : Addr) (cl : List (Str × Addr)) (fp : List Addr), ∃ te, DE (Bk X scope s H C cl fp) WN (P ++ J) [] elt te E [])
    (e1 : X.N = N := by rfl) (e2 : X.env.scope = sc := by rfl) (e3 : own.map (·.2) = vs := by rfl)
    (hy : X.N[i]? = some y := by rfl) (hyl : X.env.scope.names.lookup y = some .local := by rfl) (hP : i ∉ P := by decide)
    (hts : ∀ v ∈ ts, v ∈ own.map (·.2) := by decide) (hvs : ∀ v ∈ own.map (·.2), v ∉ P ∧ v ∉ J := by decide) (hs : ∀ x, foldedSetIterable iter X.env x = pure x := by intro _; rfl) :
    DS X Wx P L I (.Assign [.Name y py] (.ListComp elt [⟨tg, iter, ifs, 0⟩] scope pos) spos) (fSetN i (fLc A vs gd T E)) (i :: J) := by
  obtain ⟨g, hg⟩ := all_dg hg
  obtain ⟨tt, ht⟩ := all_dts ht
  obtain ⟨te, he⟩ := all_de he
  subst e1 e2 e3
  exact ds_setLcN i own hc hN hsw hi (blkOk_by hb) hg ht he hy hyl hP hts hvs hs
theorem dx_setLc (i : Nat) {y : Str} (N : List Str) (sc : Scope) (own : List (Str × Nat)) (vs : List Nat) (hc : X.calm = true) (hN : X.N.Nodup) (hsw : swapsWith (.ListComp elt [⟨tg, iter, ifs, 0⟩] scope pos) (some (.Name y py)) spos.line X.env = pure true) (hi : DI X Wx P I tg iter wi A J) (hb : blkC N sc scope own = true)
    (hg : ∀ (s : Shared) (H : Hp) (C : Addr) (cl : List (Str × Addr)) (fp : List Addr), ∃ g, DG (Bk X scope s H C cl fp) (P ++ J) [] tg ts g gd)
    (ht : ∀ (s : Shared) (H : Hp) (C : Addr) (cl : List (Str × Addr)) (fp : List Addr), ∃ tt, DTs (Bk X scope s H C cl fp) WN (P ++ J) [] ifs tt T [])
    (he : ∀ (s : Shared) (H : Hp) (C : Addr) (cl : List (Str × Addr)) (fp : List Addr), ∃ te, DE (Bk X scope s H C cl fp) WN (P ++ J) [] elt te E [])
    (e1 : X.N = N := by rfl) (e2 : X.env.scope = sc := by rfl) (e3 : own.map (·.2) = vs := by rfl)
    (hy : X.N[i]? = some y := by rfl) (hyl : X.env.scope.names.lookup y = some .local := by rfl) (hP : i ∉ P := by decide) (hI : i ∉ J := by decide)
    (hts : ∀ v ∈ ts, v ∈ own.map (·.2) := by decide) (hvs : ∀ v ∈ own.map (·.2), v ∉ P ∧ v ∉ J := by decide) (hs : ∀ x, foldedSetIterable iter X.env x = pure x := by intro _; rfl) :
    DS X Wx P L I (.Assign [.Name y py] (.ListComp elt [⟨tg, iter, ifs, 0⟩] scope pos) spos) (fSet i (fLc A vs gd T E)) J := by
  obtain ⟨g, hg⟩ := all_dg hg
  obtain ⟨tt, ht⟩ := all_dts ht
  obtain ⟨te, he⟩ := all_de he
  subst e1 e2 e3
  exact ds_setLc i own hc hN hsw hi (blkOk_by hb) hg ht he hy hyl hP hI hts hvs hs
end
theorem cx_no {P : Program} {w : World} {outer : List PySem.Env} {H : Hp} {s s' : Shared} {u : Value} (h : L2.CX P w outer H s (fun _ _ _ => False) u s') : False := by
  obtain ⟨a, B, H', cls, d, h⟩ := h
  obtain ⟨_, _, _, _, _, _, h⟩ := h
  exact h.2

/-! ### == and != with an empty list or tuple: the items don't matter -/
section
variable {X : Cx} {K : PySem.W.Frag} {Hb H : Hp}
def rEmp (K : PySem.W.Frag) (neg : Bool) : R2 := fun x y H Q => ∃ a b xs ys, x = .ref a ∧ y = .ref b ∧ ((SqL K H a xs ∧ SqL K H b ys) ∨ (SqT K H a xs ∧ SqT K H b ys)) ∧ (xs = [] ∨ ys = []) ∧ Q (.bl (neg != decide (xs.length = ys.length))) H
theorem emp_range {n m : Nat} (h : n = 0 ∨ m = 0) (e : Nat → Bool) : (List.range (min n m)).all e = true := by
  have : min n m = 0 := by omega
  rw [this]; rfl
theorem op_eqEmp (hu : X.A.units < cLine) : OpR X (compareOp .Eq) (rEmp X.K false) := by
  intro pins s σ H x y v u Q I rx ry h
  obtain ⟨a, b, xs, ys, rfl, rfl, hs, he, q⟩ := h
  cases rx; cases ry
  rcases hs with ⟨h1, h2⟩ | ⟨h1, h2⟩
  · obtain ⟨i1, r1, p1, _⟩ := I.list h1
    obtain ⟨i2, r2, p2, _⟩ := I.list h2
    have l1 := r1.length
    have l2 := r2.length
    by_cases hl : xs.length = ys.length
    · have z : xs = [] ∧ ys = [] := by
        rcases he with e | e
        · subst e; exact ⟨rfl, List.eq_nil_of_length_eq_zero hl.symm⟩
        · subst e; exact ⟨List.eq_nil_of_length_eq_zero hl, rfl⟩
      obtain ⟨rfl, rfl⟩ := z
      cases r1; cases r2
      exact SeqAt.eq_listAt (e := fun _ => true) p1.isList p2.isList rfl hu (fun j h _ => absurd h (by simp)) ⟨.bl true, H, I, rfl, by simpa using q⟩
    · refine SeqAt.eq_list_lengthsAt p1.isList p2.isList (by simp only [List.size_toArray, bne_iff_ne, ne_eq]; omega) hu ⟨.bl false, H, I, rfl, ?_⟩
      rw [decide_eq_false hl] at q
      exact q
  · obtain ⟨i1, r1, p1, _⟩ := I.tuple h1
    obtain ⟨i2, r2, p2, _⟩ := I.tuple h2
    have l1 := r1.length
    have l2 := r2.length
    have hz : i1.toArray.size = 0 ∨ i2.toArray.size = 0 := by
      simp only [List.size_toArray]
      rcases he with e | e
      · subst e; left; simpa using l1.symm
      · subst e; right; simpa using l2.symm
    refine SeqAt.eq_tupleAt (e := fun _ => true) p1 p2 hu (fun j h h' => by omega) ?_
    rw [emp_range hz]
    refine ⟨.bl (decide (xs.length = ys.length)), H, I, ?_, by simpa using q⟩
    show Value.bool _ = Value.bool _
    congr 1
    rw [Bool.true_and, l1, l2, List.size_toArray, List.size_toArray]
    by_cases z : i1.length = i2.length
    · rw [decide_eq_true z]; simpa using z
    · rw [decide_eq_false z]; simpa using z
theorem op_neEmp (hu : X.A.units < cLine) : OpR X (compareOp .NotEq) (rEmp X.K true) := by
  intro pins s σ H x y v u Q I rx ry h
  obtain ⟨a, b, xs, ys, rfl, rfl, hs, he, q⟩ := h
  cases rx; cases ry
  rcases hs with ⟨h1, h2⟩ | ⟨h1, h2⟩
  · obtain ⟨i1, r1, p1, _⟩ := I.list h1
    obtain ⟨i2, r2, p2, _⟩ := I.list h2
    have l1 := r1.length
    have l2 := r2.length
    by_cases hl : xs.length = ys.length
    · have z : xs = [] ∧ ys = [] := by
        rcases he with e | e
        · subst e; exact ⟨rfl, List.eq_nil_of_length_eq_zero hl.symm⟩
        · subst e; exact ⟨List.eq_nil_of_length_eq_zero hl, rfl⟩
      obtain ⟨rfl, rfl⟩ := z
      cases r1; cases r2
      exact SeqAt.RcNeAt.lists (e := fun _ => true) p1.isList p2.isList rfl hu (fun j h _ => absurd h (by simp)) _ _ _ _ ⟨.bl false, H, I, rfl, by simpa using q⟩
    · refine SeqAt.RcNeAt.lists_lengths p1.isList p2.isList (by simp only [List.size_toArray, bne_iff_ne, ne_eq]; omega) hu _ _ _ _ ⟨.bl true, H, I, rfl, ?_⟩
      rw [decide_eq_false hl] at q
      exact q
  · obtain ⟨i1, r1, p1, _⟩ := I.tuple h1
    obtain ⟨i2, r2, p2, _⟩ := I.tuple h2
    have l1 := r1.length
    have l2 := r2.length
    have hz : i1.toArray.size = 0 ∨ i2.toArray.size = 0 := by
      simp only [List.size_toArray]
      rcases he with e | e
      · subst e; left; simpa using l1.symm
      · subst e; right; simpa using l2.symm
    refine SeqAt.RcNeAt.tuples (e := fun _ => true) p1 p2 hu (fun j h h' => by omega) _ _ _ _ ?_
    rw [emp_range hz]
    refine ⟨.bl (!decide (xs.length = ys.length)), H, I, ?_, by simpa using q⟩
    show Value.bool _ = Value.bool _
    congr 1
    rw [Bool.true_and, l1, l2, List.size_toArray, List.size_toArray]
    by_cases z : i1.length = i2.length
    · rw [decide_eq_true z]; simpa using z
    · rw [decide_eq_false z]; simpa using z
/-- two sequences of one kind, one of them empty -/
def empty2 : D → D → Option Bool
  | .lst a, .lst b => if a = [] ∨ b = [] then some (decide (a.length = b.length)) else none
  | .slst a, .lst b => if a = [] ∨ b = [] then some (decide (a.length = b.length)) else none
  | .tup a, .tup b => if a = [] ∨ b = [] then some (decide (a.length = b.length)) else none
  | _, _ => none
def gEqU : G2 := fun x y k => match empty2 x y with
  | some b => k (.bl b)
  | none => gEq x y k
def gNeU : G2 := fun x y k => match empty2 x y with
  | some b => k (.bl (!b))
  | none => gNe x y k
theorem emp_of (s : Sub Hb H) {v w : V} {x y : D} {b : Bool} {neg : Bool} {Q : VK} (ix : IsO K Hb H v x) (iy : IsO K Hb H w y) (e : empty2 x y = some b) (q : Q (.bl (neg != b)) H) : rEmp K neg v w H Q := by
  have L : ∀ {a b' : List D}, lstD x = some a → lstD y = some b' → (if a = [] ∨ b' = [] then some (decide (a.length = b'.length)) else none) = some b → rEmp K neg v w H Q := fun {a b'} e1 e2 e => by
    obtain ⟨p, us, rfl, h1, l1⟩ := o_lstD s ix e1
    obtain ⟨p', us', rfl, h2, l2⟩ := o_lstD s iy e2
    split at e
    · rename_i he
      cases e
      refine ⟨p, p', us, us', rfl, rfl, .inl ⟨h1, h2⟩, he.imp (fun z => ?_) (fun z => ?_), by rw [l1.length, l2.length]; exact q⟩
      · subst z; exact List.eq_nil_of_length_eq_zero (by rw [l1.length]; rfl)
      · subst z; exact List.eq_nil_of_length_eq_zero (by rw [l2.length]; rfl)
    · cases e
  unfold empty2 at e
  split at e
  · exact L rfl rfl e
  · exact L rfl rfl e
  · obtain ⟨_, p, us, rfl, h1, l1⟩ := o_tupD s ix rfl
    obtain ⟨_, p', us', rfl, h2, l2⟩ := o_tupD s iy rfl
    split at e
    · rename_i he
      cases e
      refine ⟨p, p', us, us', rfl, rfl, .inr ⟨h1, h2⟩, he.imp (fun z => ?_) (fun z => ?_), by rw [l1.length, l2.length]; exact q⟩
      · subst z; exact List.eq_nil_of_length_eq_zero (by rw [l1.length]; rfl)
      · subst z; exact List.eq_nil_of_length_eq_zero (by rw [l2.length]; rfl)
    · cases e
  · cases e
theorem op_eqU (hu : X.A.units + 64 < cLine) : OpR X (compareOp .Eq) (fun x y H Q => rEqD X.K x y H Q ∨ rEmp X.K false x y H Q) := (op_eqD hu).or (op_eqEmp (by omega))
theorem op_neU (hu : X.A.units + 64 < cLine) : OpR X (compareOp .NotEq) (fun x y H Q => rNeD X.K x y H Q ∨ rEmp X.K true x y H Q) := (op_neD hu).or (op_neEmp (by omega))
theorem rv_eqU : RV2 K (fun x y H Q => rEqD K x y H Q ∨ rEmp K false x y H Q) gEqU := fun Hb H x y dx dy k Q s ix iy g q => by
  unfold gEqU at g
  split at g
  · rename_i b e
    exact .inr (emp_of s ix iy e (by simpa using q _ _ _ _ g .refl (.bl _)))
  · exact .inl (rv_eq Hb H x y dx dy k Q s ix iy g q)
theorem rv_neU : RV2 K (fun x y H Q => rNeD K x y H Q ∨ rEmp K true x y H Q) gNeU := fun Hb H x y dx dy k Q s ix iy g q => by
  unfold gNeU at g
  split at g
  · rename_i b e
    exact .inr (emp_of s ix iy e (by simpa using q _ _ _ _ g .refl (.bl _)))
  · exact .inl (rv_ne Hb H x y dx dy k Q s ix iy g q)
end
end DL

/-! DL11: how readings are evaluated (simp). -/
namespace DL
open PySem L2

@[simp] theorem ofString_inj {a b : String} : (Str.ofString a = Str.ofString b) = (a = b) := by
  refine propext ⟨fun h => ?_, fun h => by rw [h]⟩
  rw [Str.ofString_eq_toList, Str.ofString_eq_toList] at h
  have h := congrArg (fun s : Str => s.cps.toList) h
  simp only [List.toList_toArray] at h
  have inj : ∀ {l m : List Char}, l.map Char.toNat = m.map Char.toNat → l = m := by
    intro l
    induction l with
    | nil => intro m h; cases m with
      | nil => rfl
      | cons => simp at h
    | cons x l ih => intro m h; cases m with
      | nil => simp at h
      | cons y m =>
        simp only [List.map_cons, List.cons.injEq] at h
        have e : x = y := by
          have := h.1
          exact Char.ext (UInt32.toNat_inj.mp this)
        rw [e, ih h.2]
  exact String.toList_injective (inj h)
@[simp] theorem get_zero (x : Option D) (r : Env) : get (x :: r) 0 = x := rfl
@[simp] theorem get_succ (x : Option D) (r : Env) (n : Nat) : get (x :: r) (n + 1) = get r n := rfl
@[simp] theorem put_zero (x d : Option D) (r : Env) : put (x :: r) 0 d = d :: r := rfl
@[simp] theorem put_succ (x d : Option D) (r : Env) (n : Nat) : put (x :: r) (n + 1) d = x :: put r n d := rfl
@[simp ↓] theorem gAdd_int (i j : Int) (k) : gAdd (.int i) (.int j) k = k (.int (i + j)) := rfl
@[simp ↓] theorem gAdd_lst (a b : List D) (k) : gAdd (.lst a) (.lst b) k = (a.length + b.length ≤ 1000000 ∧ k (.lst (a ++ b))) := rfl
@[simp ↓] theorem gAdd_tup (a b : List D) (k) : gAdd (.tup a) (.tup b) k = (a.length + b.length ≤ 1000000 ∧ k (.tup (a ++ b))) := rfl
@[simp ↓] theorem gAdd_str (a b : Str) (k) : gAdd (.str a) (.str b) k = (a.length + b.length ≤ 1000000 ∧ k (.str (a ++ b))) := rfl
@[simp ↓] theorem gSub_int (i j : Int) (k) : gSub (.int i) (.int j) k = k (.int (i - j)) := rfl
@[simp ↓] theorem gMul_int (i j : Int) (k) : gMul (.int i) (.int j) k = (CMulO i j ∧ k (.int (i * j))) := rfl
@[simp ↓] theorem gFdiv_int (i j : Int) (k) : gFdiv (.int i) (.int j) k = ((j ≠ 0 ∧ j.natAbs.log2 < 9000) ∧ k (.int (i.fdiv j))) := rfl
@[simp ↓] theorem gFmod_int (i j : Int) (k) : gFmod (.int i) (.int j) k = (j ≠ 0 ∧ k (.int (i.fmod j))) := rfl
@[simp ↓] theorem gPow_int (i j : Int) (k) : gPow (.int i) (.int j) k = ((0 ≤ j ∧ j ≤ 1000000 ∧ i.natAbs < 2 ^ 64) ∧ k (.int (i ^ j.toNat))) := rfl
@[simp ↓] theorem gNeg_int (i : Int) (k) : gNeg (.int i) k = k (.int (-i)) := rfl
@[simp ↓] theorem gLt_int (i j : Int) (k) : gLt (.int i) (.int j) k = k (.bl (decide (i < j))) := rfl
@[simp ↓] theorem gLe_int (i j : Int) (k) : gLe (.int i) (.int j) k = k (.bl (decide (i ≤ j))) := rfl
@[simp ↓] theorem gGt_int (i j : Int) (k) : gGt (.int i) (.int j) k = k (.bl (decide (j < i))) := rfl
@[simp ↓] theorem gGe_int (i j : Int) (k) : gGe (.int i) (.int j) k = k (.bl (decide (j ≤ i))) := rfl
@[simp ↓] theorem gEqU_lst0 (a : List D) (k) : gEqU (.lst a) (.lst []) k = k (.bl (decide (a = []))) := by
  have e : empty2 (.lst a) (.lst []) = some (decide (a = [])) := by simp [empty2, List.length_eq_zero_iff]
  show (match empty2 (.lst a) (.lst []) with | some b => k (.bl b) | none => _) = _
  rw [e]
@[simp ↓] theorem gNeU_lst0 (a : List D) (k) : gNeU (.lst a) (.lst []) k = k (.bl (!decide (a = []))) := by
  have e : empty2 (.lst a) (.lst []) = some (decide (a = [])) := by simp [empty2, List.length_eq_zero_iff]
  show (match empty2 (.lst a) (.lst []) with | some b => k (.bl (!b)) | none => _) = _
  rw [e]
theorem gEq_of {x y : D} {a b : PyData} (h1 : pd x = some a) (h2 : pd y = some b) (s1 : SeqAt.shaped a = true) (s2 : SeqAt.shaped b = true) (k : D → Prop) : gEq x y k = k (.bl (PyData.eqv a b)) := by
  refine propext ⟨fun ⟨c, d, e1, e2, _, _, h⟩ => ?_, fun h => ⟨a, b, h1, h2, s1, s2, h⟩⟩
  rw [h1] at e1; rw [h2] at e2
  cases e1; cases e2; exact h
theorem gNe_of {x y : D} {a b : PyData} (h1 : pd x = some a) (h2 : pd y = some b) (s1 : SeqAt.shaped a = true) (s2 : SeqAt.shaped b = true) (k : D → Prop) : gNe x y k = k (.bl (!PyData.eqv a b)) := by
  refine propext ⟨fun ⟨c, d, e1, e2, _, _, h⟩ => ?_, fun h => ⟨a, b, h1, h2, s1, s2, h⟩⟩
  rw [h1] at e1; rw [h2] at e2
  cases e1; cases e2; exact h
theorem shaped_int (i : Int) : SeqAt.shaped (.int i) = true := by
  simp [SeqAt.shaped, PyData.canLay0, PyData.depth]
theorem shaped_bool (i : Bool) : SeqAt.shaped (.bool i) = true := by
  simp [SeqAt.shaped, PyData.canLay0, PyData.depth]
theorem shaped_none : SeqAt.shaped .none = true := by
  simp [SeqAt.shaped, PyData.canLay0, PyData.depth]
@[simp ↓] theorem gEqU_int (i j : Int) (k) : gEqU (.int i) (.int j) k = k (.bl (decide (i = j))) := by
  show gEq _ _ _ = _
  rw [gEq_of rfl rfl (shaped_int i) (shaped_int j)]
  have e : PyData.eqv (.int i) (.int j) = decide (i = j) := by
    simp only [PyData.eqv]
    by_cases h : i = j <;> simp [h]
  rw [e]
@[simp ↓] theorem gNeU_int (i j : Int) (k) : gNeU (.int i) (.int j) k = k (.bl (!decide (i = j))) := by
  show gNe _ _ _ = _
  rw [gNe_of rfl rfl (shaped_int i) (shaped_int j)]
  have e : PyData.eqv (.int i) (.int j) = decide (i = j) := by
    simp only [PyData.eqv]
    by_cases h : i = j <;> simp [h]
  rw [e]
@[simp ↓] theorem gEqU_bl (i j : Bool) (k) : gEqU (.bl i) (.bl j) k = k (.bl (decide (i = j))) := by
  show gEq _ _ _ = _
  rw [gEq_of rfl rfl (shaped_bool i) (shaped_bool j)]
  cases i <;> cases j <;> simp [PyData.eqv]
@[simp ↓] theorem gNeU_bl (i j : Bool) (k) : gNeU (.bl i) (.bl j) k = k (.bl (!decide (i = j))) := by
  show gNe _ _ _ = _
  rw [gNe_of rfl rfl (shaped_bool i) (shaped_bool j)]
  cases i <;> cases j <;> simp [PyData.eqv]
@[simp ↓] theorem gIs_non (x : D) (k) : gIs x .non k = k (.bl (isN x)) := by cases x <;> rfl
@[simp ↓] theorem gIs_bl (a b : Bool) (k) : gIs (.bl a) (.bl b) k = k (.bl (decide (a = b))) := rfl
@[simp ↓] theorem gIsNot_non (x : D) (k) : gIsNot x .non k = k (.bl (!isN x)) := by cases x <;> rfl
@[simp ↓] theorem gIsNot_bl (a b : Bool) (k) : gIsNot (.bl a) (.bl b) k = k (.bl (!decide (a = b))) := rfl
@[simp ↓] theorem gIx_tup (a : List D) (i : Int) (k) : gIx (.tup a) (.int i) k = ∃ d, atI a i = some d ∧ k d := rfl
@[simp ↓] theorem gIx_lst (a : List D) (i : Int) (k) : gIx (.lst a) (.int i) k = ∃ d, atI a i = some d ∧ k d := rfl
@[simp ↓] theorem gIx_slst (a : List D) (i : Int) (k) : gIx (.slst a) (.int i) k = ∃ d, atI a i = some d ∧ k d := rfl
@[simp ↓] theorem gIx_dkS (a : List (Key × D)) (i : Str) (k) : gIx (.dk a) (.str i) k = ∃ d, valD a (.inr i) = some d ∧ k d := by
  show (∃ d, getK (.dk a) (.str i) = some (some d) ∧ k d) = _
  simp [getK]
@[simp ↓] theorem gIx_dkI (a : List (Key × D)) (i : Int) (k) : gIx (.dk a) (.int i) k = ∃ d, valD a (.inl i) = some d ∧ k d := by
  show (∃ d, getK (.dk a) (.int i) = some (some d) ∧ k d) = _
  simp [getK]
@[simp] theorem valD_cons {κ : Type} [DecidableEq κ] (p : κ × D) (r : List (κ × D)) (k : κ) : valD (p :: r) k = if p.1 = k then some p.2 else valD r k := by
  unfold valD
  by_cases h : p.1 = k
  · simp [List.find?_cons, h]
  · simp [List.find?_cons, h]
@[simp] theorem valD_nil {κ : Type} [DecidableEq κ] (k : κ) : valD ([] : List (κ × D)) k = none := rfl
@[simp] theorem putKD_dkS (a : List (Key × D)) (i : Str) (v d : D) : (putKD (.dk a) (.str i) v = some d) = (D.dk (putD a (.inr i) v) = d) := by simp [putKD]
@[simp] theorem putKD_dkI (a : List (Key × D)) (i : Int) (v d : D) : (putKD (.dk a) (.int i) v = some d) = (D.dk (putD a (.inl i) v) = d) := by simp [putKD]
@[simp] theorem sizeD_dk (a : List (Key × D)) : sizeD (.dk a) = a.length := rfl
@[simp] theorem isDict_dk (a : List (Key × D)) : isDict (.dk a) = True := rfl
@[simp ↓] theorem gLen_lst (a : List D) (k) : gLen [.lst a] k = k (.int a.length) := rfl
@[simp ↓] theorem gLen_slst (a : List D) (k) : gLen [.slst a] k = k (.int a.length) := rfl
@[simp ↓] theorem gLen_tup (a : List D) (k) : gLen [.tup a] k = k (.int a.length) := rfl
@[simp ↓] theorem gLen_dk (a : List (Key × D)) (k) : gLen [.dk a] k = k (.int a.length) := rfl
@[simp ↓] theorem gAbs_int (i : Int) (k) : gAbs [.int i] k = k (.int (if i < 0 then -i else i)) := rfl
@[simp ↓] theorem gInt_int (i : Int) (k) : gInt [.int i] k = k (.int i) := rfl
@[simp ↓] theorem gInt_bl (b : Bool) (k) : gInt [.bl b] k = k (.int (if b then 1 else 0)) := rfl
@[simp ↓] theorem gTuple_lst (a : List D) (k) : gTuple [.lst a] k = k (.tup a) := rfl
@[simp ↓] theorem gTuple_tup (a : List D) (k) : gTuple [.tup a] k = k (.tup a) := rfl
@[simp ↓] theorem gIsi_ty (c : Kd) (d : D) (n : String) (k) : gIsi c [d, .ty n] k = (n = c.name ∧ ∃ b, isK c d = some b ∧ k (.bl b)) := rfl
@[simp ↓] theorem gReprF_one (d : D) (k) : gReprF [d] k = ∃ z, flatText d = some z ∧ k (.str z) := rfl
@[simp ↓] theorem gCut_lst (a : List D) (lo hi : Option Int) (k) : gCut (.lst a) lo hi k = k (.lst (cutL a lo hi)) := rfl
@[simp ↓] theorem gCut_slst (a : List D) (lo hi : Option Int) (k) : gCut (.slst a) lo hi k = k (.lst (cutL a lo hi)) := rfl
@[simp ↓] theorem endS_nx (io n post xp ρ) : (endS io n post xp).nx ρ = post .non (maskF io 0 n ρ) := rfl
@[simp ↓] theorem endS_rt (io n post xp d ρ) : (endS io n post xp).rt d ρ = post d (maskF io 0 n ρ) := rfl
@[simp ↓] theorem endS_ex (io n post xp d ρ) : (endS io n post xp).ex d ρ = xp d (maskF io 0 n ρ) := rfl
@[simp] theorem maskF_zero (io i ρ) : maskF io i 0 ρ = [] := rfl
@[simp] theorem maskF_succ (io i n ρ) : maskF io i (n + 1) ρ = (if i ∈ io then get ρ i else none) :: maskF io (i + 1) n ρ := rfl
theorem atI_nat {a : List D} {i : Nat} {d : D} (h : a[i]? = some d) : atI a (i : Int) = some d := by
  obtain ⟨hl, _⟩ := List.getElem?_eq_some_iff.mp h
  unfold atI ixN
  rw [if_pos (by omega), if_pos (by omega)]
  simpa using h
/-- an item by a drawn index -/
theorem atI_lt {a : List D} {i : Int} (h0 : 0 ≤ i) (h1 : i < a.length) : ∃ d, atI a i = some d ∧ d ∈ a := by
  have hl : i.toNat < a.length := by omega
  refine ⟨a[i.toNat], ?_, List.getElem_mem hl⟩
  have := atI_nat (a := a) (i := i.toNat) (List.getElem?_eq_getElem hl)
  rwa [Int.toNat_of_nonneg h0] at this
theorem fmod_nn {i j : Int} (h : 0 < j) : 0 ≤ i.fmod j := Int.fmod_nonneg_of_pos i h
theorem fmod_lt {i j : Int} (h : 0 < j) : i.fmod j < j := Int.fmod_lt_of_pos i h
theorem fdiv_nn {i j : Int} (h : 0 ≤ i) (h' : 0 < j) : 0 ≤ i.fdiv j := by
  rw [Int.fdiv_eq_ediv_of_nonneg _ (Int.le_of_lt h')]; exact Int.ediv_nonneg h (Int.le_of_lt h')
/-- a for loop by an invariant of the items left and the environment -/
theorem loop_inv {g : FG} {B : FS} {S : SPo} (Inv : List D → Env → Prop) (h0 : ∀ ρ, Inv [] ρ → S.nx ρ)
    (h1 : ∀ d ds ρ (N : Env → Prop), (∀ ρ', Inv ds ρ' → N ρ') → Inv (d :: ds) ρ → g d ρ fun ρ1 => B ρ1 (S.lp N)) :
    ∀ ds ρ, Inv ds ρ → loopL g B S ds ρ
  | [], ρ, h => h0 ρ h
  | d :: ds, ρ, h => h1 d ds ρ _ (fun ρ' q => loop_inv Inv h0 h1 ds ρ' q) h
/-- a comprehension by an invariant -/
theorem comp_inv {vs : List Nat} {g : FG} {T : FT} {E : FE} {post : Post} (Inv : List D → List D → Env → Prop) (h0 : ∀ acc ρ, Inv [] acc ρ → post (.lst acc) ρ)
    (h1 : ∀ d ds acc ρ (N : List D → Env → Prop), (∀ acc' ρ', Inv ds acc' ρ' → N acc' ρ') → Inv (d :: ds) acc ρ →
      g d (wipeE ρ vs) fun ρ1 => T ρ1 (fun b ρ2 => if b = true then E ρ2 (fun y ρ3 => acc.length < 1000000 ∧ N (acc ++ [y]) (unwipe ρ ρ3 vs)) noX else N acc (unwipe ρ ρ2 vs)) noX) :
    ∀ ds acc ρ, Inv ds acc ρ → compL vs g T E post ds acc ρ
  | [], acc, ρ, h => h0 acc ρ h
  | d :: ds, acc, ρ, h => h1 d ds acc ρ _ (fun acc' ρ' q => comp_inv Inv h0 h1 ds acc' ρ' q) h
theorem ix_drawn {a : List D} {i : Int} {k : D → Prop} (h0 : 0 ≤ i) (h1 : i < a.length) (h : ∀ d ∈ a, k d) : ∃ d, atI a i = some d ∧ k d := by
  obtain ⟨d, e, m⟩ := atI_lt h0 h1
  exact ⟨d, e, h d m⟩
@[simp] theorem atI_ints (ns : List Int) (i : Int) (k : D → Prop) : (∃ d, atI (ns.map D.int) i = some d ∧ k d) = ∃ c, atI ns i = some c ∧ k (.int c) := by
  have e : atI (ns.map D.int) i = (atI ns i).map D.int := by
    unfold atI
    rw [List.length_map]
    cases ixN ns.length i <;> simp
  rw [e]
  refine propext ⟨fun ⟨d, h, q⟩ => ?_, fun ⟨c, h, q⟩ => ⟨_, by rw [h]; rfl, q⟩⟩
  cases z : atI ns i with
  | none => rw [z] at h; cases h
  | some c => rw [z] at h; cases h; exact ⟨c, rfl, q⟩
theorem atI_ex {α : Type} {a : List α} {i : Int} (h0 : 0 ≤ i) (h1 : i < a.length) : ∃ d, atI a i = some d := by
  have hl : i.toNat < a.length := by omega
  refine ⟨a[i.toNat], ?_⟩
  unfold atI ixN
  rw [if_pos h0, if_pos h1]
  simp [hl]
theorem draw_bound {u q a c k : Int} (hu : 0 ≤ u) (hu2 : u < q) (hq : q ≤ 2147483648) (ha : 0 ≤ a) (ha2 : a ≤ 1000000) (hc : 0 ≤ c) (hc2 : c ≤ 1000000) (hk : 0 ≤ k) (hk2 : k ≤ 1000000) : (u * (a + c) + k * a * a).natAbs < 18446744073709551616 := by
  have h1 : u * (a + c) ≤ 2147483648 * 2000000 := Int.mul_le_mul (by omega) (by omega) (by omega) (by omega)
  have h2 : k * a ≤ 1000000 * 1000000 := Int.mul_le_mul hk2 ha2 ha (by omega)
  have h3 : k * a * a ≤ (1000000 * 1000000) * 1000000 := Int.mul_le_mul h2 ha2 ha (by omega)
  have h4 : 0 ≤ u * (a + c) := Int.mul_nonneg hu (by omega)
  have h5 : 0 ≤ k * a * a := Int.mul_nonneg (Int.mul_nonneg hk ha) ha
  omega
theorem cmul_l {i j : Int} (h : -(2 ^ 64) < i) (h' : i < 2 ^ 64) : CMulO i j := .inl ⟨h, h'⟩
theorem cmul_r {i j : Int} (h : -(2 ^ 64) < j) (h' : j < 2 ^ 64) : CMulO i j := .inr (.inl ⟨h, h'⟩)
theorem draw_sum {x p b c d : Int} (hp : 0 < p) (hp2 : p ≤ 2147483648) (hb : 0 ≤ b) (hb2 : b ≤ 1000000) (ha : 0 ≤ c) (ha2 : c ≤ 1000000) (hd : 0 ≤ d) (hd2 : d ≤ 1000000) : (x.fmod p + b * c + d).natAbs < 18446744073709551616 := by
  have h1 := fmod_nn (i := x) hp
  have h2 := fmod_lt (i := x) hp
  have h3 : b * c ≤ 1000000 * 1000000 := Int.mul_le_mul hb2 ha2 ha (by omega)
  have h4 : 0 ≤ b * c := Int.mul_nonneg hb ha
  omega
theorem log_small {m : Int} (hm : 1 ≤ m) (hm2 : m ≤ 1000000) : m.natAbs.log2 < 9000 := by
  have : m.natAbs < 2 ^ 20 := by omega
  have := (Nat.log2_lt (by omega : m.natAbs ≠ 0)).mpr this
  omega
theorem boolTxt {b c : Bool} : ((if b then "True" else "False" : Str) = (if c then "True" else "False" : Str)) = (b = c) := by
  cases b <;> cases c <;> simp
theorem shaped_boolTxt (b : Bool) : SeqAt.shaped (.str (if b then "True" else "False")) = true := by cases b <;> decide +kernel
@[simp ↓] theorem gNeU_bt (b c : Bool) (k) : gNeU (.str (if b then "True" else "False")) (.str (if c then "True" else "False")) k = k (.bl (!decide (b = c))) := by
  show gNe _ _ _ = _
  rw [gNe_of rfl rfl (shaped_boolTxt b) (shaped_boolTxt c)]
  have e : PyData.eqv (.str (if b then "True" else "False")) (.str (if c then "True" else "False")) = decide (b = c) := by
    cases b <;> cases c <;> decide +kernel
  rw [e]
theorem cutL_all {a : List D} {n : Nat} (h : a.length ≤ n) : cutL a none (some (n : Int)) = a := cutL_whole ⟨rfl, by rw [HT.sIx_nat]; omega⟩
@[simp ↓] theorem gNeU_tt (k) : gNeU (.str "True") (.str "True") k = k (.bl false) := gNeU_bt true true k
@[simp ↓] theorem gNeU_tf (k) : gNeU (.str "True") (.str "False") k = k (.bl true) := gNeU_bt true false k
@[simp ↓] theorem gNeU_ft (k) : gNeU (.str "False") (.str "True") k = k (.bl true) := gNeU_bt false true k
@[simp ↓] theorem gNeU_ff (k) : gNeU (.str "False") (.str "False") k = k (.bl false) := gNeU_bt false false k
theorem lk_nil (g : FG) (B : FS) (S : SPo) (l : LockS S) (ρ : Env) : loopK g B S l [] ρ = S.nx ρ := rfl
theorem lk_cons (g : FG) (B : FS) (S : SPo) (l : LockS S) (d : D) (ds : List D) (ρ : Env) : loopK g B S l (d :: ds) ρ = g d ρ fun ρ1 => B ρ1 (S.lp (loopK g B S l ds)) := rfl
theorem ix_at {a : List D} {i : Nat} {d : D} (h : a[i]? = some d) (k : D → Prop) : (∃ d', atI a (i : Int) = some d' ∧ k d') = k d := by
  rw [DL.atI_nat h]; simp
@[simp ↓] theorem ix_0 (x : D) (l : List D) (k : D → Prop) : (∃ d', atI (x :: l) 0 = some d' ∧ k d') = k x := ix_at (i := 0) rfl k
@[simp ↓] theorem ix_1 (x0 x1 : D) (l : List D) (k : D → Prop) : (∃ d', atI (x0 :: x1 :: l) 1 = some d' ∧ k d') = k x1 := ix_at (i := 1) rfl k
@[simp ↓] theorem ix_2 (x0 x1 x2 : D) (l : List D) (k : D → Prop) : (∃ d', atI (x0 :: x1 :: x2 :: l) 2 = some d' ∧ k d') = k x2 := ix_at (i := 2) rfl k
@[simp ↓] theorem ix_3 (x0 x1 x2 x3 : D) (l : List D) (k : D → Prop) : (∃ d', atI (x0 :: x1 :: x2 :: x3 :: l) 3 = some d' ∧ k d') = k x3 := ix_at (i := 3) rfl k
@[simp ↓] theorem ix_4 (x0 x1 x2 x3 x4 : D) (l : List D) (k : D → Prop) : (∃ d', atI (x0 :: x1 :: x2 :: x3 :: x4 :: l) 4 = some d' ∧ k d') = k x4 := ix_at (i := 4) rfl k
@[simp ↓] theorem ix_5 (x0 x1 x2 x3 x4 x5 : D) (l : List D) (k : D → Prop) : (∃ d', atI (x0 :: x1 :: x2 :: x3 :: x4 :: x5 :: l) 5 = some d' ∧ k d') = k x5 := ix_at (i := 5) rfl k
theorem all_snoc {α : Type} {U : List α} {p : α} {P : α → Prop} : (∀ q ∈ U ++ [p], P q) ↔ (∀ q ∈ U, P q) ∧ P p := by
  simp [or_imp, forall_and]
end DL

/-! DG0: promises of defs that know that no repr is under way (guards); their calls; the law's end. -/
namespace DL
open PySem L2
open PyProof.Rows hiding St

/-- a def's promise by positional values, where no repr is under way -/
def FnG (P : Program) (w : World) (K : PySem.W.Frag) (mg : Str → Option Value) (base : Heap) (k : Nat) (f : Addr) (sp : Sp) : Prop :=
  ∀ (A : Around) (frs_ : List PySem.Env) (s : Shared) (H : Hp) (us : List Value) (vs : List V) (Q : VK) (E : XK), Room k A → A.guards = some [] → Env0 P w K mg base A frs_ s H → Vals vs us → sp vs H Q E →
    codeAny (model P w) A (.call (.ref f) ⟨us, []⟩) (CR (L2.CX P w) frs_ P w H s Q E) s
section
variable {P : Program} {w : World} {K : PySem.W.Frag} {mg : Str → Option Value} {base : Heap} {j k : Nat} {f : Addr} {sp sp' : Sp}
theorem FnG.mono (F : FnG P w K mg base j f sp) (h : j ≤ k) : FnG P w K mg base k f sp := fun A o s H us vs Q E r => F A o s H us vs Q E (r.mono h)
theorem FnG.imp (F : FnG P w K mg base k f sp) (h : ∀ vs H Q E, sp' vs H Q E → sp vs H Q E) : FnG P w K mg base k f sp' := fun A o s H us vs Q E r g e v q => F A o s H us vs Q E r g e v (h _ _ _ _ q)
/-- a def by its body -/
theorem fnG_of {x qual : Str} {st : Stmt} {fd : FuncData} {N ps : List Str} (F : Fun K x qual st f fd) (S : FnScope N ps (defScope st)) (B : Binds K fd ps []) (len : ∀ vs H Q E, sp vs H Q E → vs.length = ps.length)
    (body : ∀ (cdv : Value) (A : Around) (o : List PySem.Env) (s : Shared) (H : Hp) (vs : List V) (Q : VK) (E : XK), Room k (A.deeper (envOfC qual (defScope st) s.heap.objs.size f cdv)) → A.guards = some [] → sp vs H Q E →
      ∃ t, PSs (cxOf (L2.CX P w) P w K mg base N qual (defScope st) f cdv A o s H E) (defBody st) t ∧ t { nx := fun _ H' => Q .non H', rt := Q } (L2.start N vs) H) : FnG P w K mg base (k + 1) f sp := by
  intro A o s H us vs Q E room hg ev rel hsp
  have nlen := len _ _ _ _ hsp
  have here : K.In s.heap := ev.mod.kin.keeps fun b u e => (ev.bs b u e).1
  have nolim : s.heap.NoLimit := ev.mod.nolimit.keeps fun b u e => (ev.bs b u e).1
  have bnd := B s us here (by rw [List.append_nil, ← rel.length]; exact nlen)
  rw [List.append_nil] at bnd
  obtain ⟨oc, od, kV, doc, pm, an, cdv, ct, osl, rfl, lk, hcd⟩ := F.ex
  have kinds : ∀ y ∈ ps.zip us, (defScope st).names.lookup y.1 = some .local ∨ ((defScope st).names.lookup y.1 = some .cell ∧ ((cellsFrom (s.heap.objs.size + 1) (defScope st).names []).lookup y.1).isSome = true) := by
    rintro ⟨n, v⟩ hy
    refine (S.par n (List.of_mem_zip hy).1).imp id fun q => ⟨q, PySem.W.cellsFrom_some _ _ _ (.inl q)⟩
  refine codeAny_call_function room.depth (here _ _ lk) rfl S.co S.gen rfl (PySem.W.codeRec_of here hcd) (bnd _ _ _ _ ?_)
  refine wpAny_newFunctionEnv_cells S.kind kinds fun env same s1 laid => ?_
  subst same
  refine ⟨nolim.keeps laid.toInCall.keep, codeAny_func ?_⟩
  obtain ⟨t, pt, ht⟩ := body cdv A o s H vs Q E (room.deeper _) hg hsp
  refine wpAny_mono (pt.run [] s1 (L2.start N vs) H _ (inv_start S room.hd ev nlen rel laid) ht) (fun fl s2 q => ?_) fun _ _ q => q
  cases fl with
  | next =>
    obtain ⟨σ2, H2, J, q⟩ := q
    exact ⟨.non, H2, J.os, J.bare, J.base, J.hok, rfl, q⟩
  | ret u =>
    obtain ⟨v, σ2, H2, J, rv, q⟩ := q
    exact ⟨v, H2, J.os, J.bare, J.base, J.hok, rv, q⟩
  | brk =>
    obtain ⟨_, _, _, q⟩ := q
    exact (show False from q).elim
  | cont =>
    obtain ⟨_, _, _, q⟩ := q
    exact (show False from q).elim
end
section
variable {X : Cx} {k : Nat} {f : Addr} {sp : Sp} {E : St → XK} {x m : Str} {p pos apos : Pos} {e o : Expr} {es : List Expr} {ta : TE} {t : TA}
/-- the callee runs -/
theorem run_G {pins : List (Addr × Obj)} {σ : St} {H : Hp} {s : Shared} {Q : VK} {us : List Value} {vs : List V} (F : FnG X.prog X.w X.K X.mg X.base k f sp) (hr : Room k X.A) (hg : X.A.guards = some []) (hx : PassesAt (L2.CX X.prog X.w) X σ (E σ))
    (I : Inv X pins σ H s) (r : Vals vs us) (h : sp vs H Q (E σ)) : codeAny (model X.prog X.w) X.A (.call (.ref f) ⟨us, []⟩) (fun r s' => match r with | .ok (.ret v) => EP X pins σ Q v s' | .ok _ => False | .error e => X.xe e s') s := by
  refine codeAny_mono (F X.A X.stack s H us vs Q (E σ) hr hg I.env0 r h) fun res s2 q => ?_
  cases res with
  | error er => exact hx pins H s er s2 I q
  | ok fl =>
    cases fl with
    | ret u => exact I.after q
    | next => exact q.elim
    | brk => exact q.elim
    | cont => exact q.elim
theorem pe_callG (F : FnG X.prog X.w X.K X.mg X.base k f sp) (hr : Room k X.A) (hgu : X.A.guards = some []) (hg : Gl X x) (hm : X.mg x = some (.ref f)) (hk : PySem.W.keepIn X.K (.ref f) = true) (hx : ∀ σ, PassesAt (L2.CX X.prog X.w) X σ (E σ))
    (ha : PA X (e :: es) t) (hdb : (x == ("__debug__" : Str)) = false := by decide) (he : starEach (e :: es) X.env = (false, eval e X.env) :: starEach es X.env := by rfl) (hpl : (backTo pos (starEach es X.env)).any (·.1) = false := by rfl) :
    PE X (.Call (.Name x p) (e :: es) [] pos) (tCallS sp E t) := ⟨fun pins s σ H Q I h =>
  wpAny_Call_Name_kw (ld_glob I hg hm (PySem.W.callWith_K (h₀ := X.base) I.ok.mod.kin hk (thn (ha.run pos pins s σ H _ I h) fun us s1 ⟨vs, H1, I1, r, q⟩ => ⟨I1.kIn, wpAny_call (run_G F hr hgu (hx σ) I1 r q)⟩) he hpl) hdb)⟩
/-- o.m(e, ..) -/
def tMethG (C : Addr) (m : Str) (sp : Sp) (E : St → XK) (ta : TE) (t : TA) : TE := fun σ H Q => ta σ H fun x H1 => ∃ a dx fs, x = .ref a ∧ H1 a = some (.ins C dx fs) ∧ fs.lookup m = none ∧ t σ H1 fun vs H2 => sp (x :: vs) H2 Q (E σ)
theorem pe_methG {C : Addr} {pl : Sem Bool} (ho : PE X o ta) (c : Cls X.K C) (hm : Meth X.K C m f) (F : FnG X.prog X.w X.K X.mg X.base k f sp) (hr : Room k X.A) (hgu : X.A.guards = some []) (hx : ∀ σ, PassesAt (L2.CX X.prog X.w) X σ (E σ)) (ha : PA X (e :: es) t)
    (hst : starEach (e :: es) X.env = (false, eval e X.env) :: starEach es X.env := by rfl) (hpl : (backTo pos (starEach es X.env)).any (·.1) = false := by rfl)
    (ht : eval (.Call (.Attribute o m apos) (e :: es) [] pos) X.env = (do
      let ov ← eval o X.env
      standAt apos.atName
      let (f, first) ← holding [ov] (getMethod ov m pl)
      callWith pos f first (backTo pos (starEach (e :: es) X.env)) (backToKw pos (keywordEach [] X.env))) := by rfl) :
    PE X (.Call (.Attribute o m apos) (e :: es) [] pos) (tMethG C m sp E ta t) := ⟨fun pins s σ H Q I h => by
  refine PySem.W.methodCall_KW (pl := pl) (thn (ho.run pins s σ H _ I h) fun ov s1 ⟨x, H1, I1, rx, a, dx, fs, ex, ea, l, q⟩ => ?_) ht
  subst ex
  have er : ov = Value.ref a := rx
  subst er
  exact getmeth_ok I1 ea c hm l (PySem.W.callWith_K (first := [.ref a]) (h₀ := X.base) I.ok.mod.kin hm.kp (thn (ha.run pos pins s1 σ H1 _ I1 q) fun us s2 ⟨vs, H2, I2, r, q2⟩ =>
    ⟨I2.kIn, wpAny_call (run_G (us := .ref a :: us) (vs := .ref a :: vs) F hr hgu (hx σ) I2 (.cons rfl r) q2)⟩) hst hpl)⟩
/-- o.m() -/
theorem pe_methG0 {C : Addr} {pl : Sem Bool} (ho : PE X o ta) (c : Cls X.K C) (hm : Meth X.K C m f) (F : FnG X.prog X.w X.K X.mg X.base k f sp) (hr : Room k X.A) (hgu : X.A.guards = some []) (hx : ∀ σ, PassesAt (L2.CX X.prog X.w) X σ (E σ))
    (ht : eval (.Call (.Attribute o m apos) [] [] pos) X.env = (do
      let ov ← eval o X.env
      standAt apos.atName
      let (f, first) ← holding [ov] (getMethod ov m pl)
      callWith pos f first (backTo pos (starEach [] X.env)) (backToKw pos (keywordEach [] X.env))) := by rfl) :
    PE X (.Call (.Attribute o m apos) [] [] pos) (tMethG C m sp E ta tNil) := ⟨fun pins s σ H Q I h => by
  refine PySem.W.methodCall_KW (pl := pl) (thn (ho.run pins s σ H _ I h) fun ov s1 ⟨x, H1, I1, rx, a, dx, fs, ex, ea, l, q⟩ => ?_) ht
  subst ex
  have er : ov = Value.ref a := rx
  subst er
  exact getmeth_ok I1 ea c hm l (PySem.W.callWith_K0 (first := [.ref a]) I1.kIn hm.kp (wpAny_call (run_G (us := [.ref a]) (vs := [.ref a]) F hr hgu (hx σ) I1 (.cons rfl .nil) q)))⟩
end
/-! ### properties, making -/
section
variable {X : Cx} {k : Nat} {f : Addr} {sp : Sp} {E : St → XK} {x m : Str} {p pos apos : Pos} {e o : Expr} {es : List Expr} {ta : TE} {t : TA} {C : Addr}
def tMakeG (C : Addr) (sp : Sp) (E : St → XK) (t : TA) : TE := fun σ H Q => t σ H fun vs H1 => ∀ x dx, H1 x = none → H1 dx = none → dx ≠ x → sp (.ref x :: vs) (upd (upd H1 dx (.own x)) x (.ins C dx [])) (fun v H2 => v = .non ∧ Q (.ref x) H2) (E σ)
theorem run_makeG {pins : List (Addr × Obj)} {σ : St} {H : Hp} {s : Shared} {Q : VK} {us : List Value} {vs : List V} (M : Mk X.K C f) (F : FnG X.prog X.w X.K X.mg X.base k f sp) (hr : Room (k + 1) X.A) (hgu : X.A.guards = some []) (hx : ∀ σ, PassesAt (L2.CX X.prog X.w) X σ (E σ)) (I : Inv X pins σ H s) (r : Vals vs us)
    (h : ∀ x dx, H x = none → H dx = none → dx ≠ x → sp (.ref x :: vs) (upd (upd H dx (.own x)) x (.ins C dx [])) (fun v H2 => v = .non ∧ Q (.ref x) H2) (E σ)) :
    wpAny (model X.prog X.w) X.A (call (.ref C) us) (EP X pins σ Q) X.xe s := by
  let n := s.heap.objs.size
  have I2 := Inv.made (C := C) I
  have hq := h (n + 1) n (I.hok.fresh (Nat.le_succ _)) (I.hok.fresh (Nat.le_refl _)) (Nat.ne_of_lt (Nat.lt_succ_self _))
  have r2 : Vals (.ref (n + 1) :: vs) (Value.ref (n + 1) :: us) := .cons rfl r
  refine wpAny_call (make_map (f := f) I.kIn M.makes M.init (beq_iff_eq.mp M.fn) (codeAny_mono (F _ X.stack _ _ (Value.ref (n + 1) :: us) _ _ (E σ) (hr.make C us []) ?_ (I2.env0.make C us []) r2 hq) fun res s2 q => ?_))
  · show pushGuards (Code.builtin "type.__call__" ⟨.ref C :: us, []⟩).guards X.A.guards = some []
    rw [hgu]
    rfl
  cases res with
  | error er => exact hx σ pins _ _ er s2 I2 q
  | ok fl =>
    cases fl with
    | ret u =>
      obtain ⟨v, H3, I3, rv, ev, q3⟩ := I2.after q
      subst ev
      exact ⟨rv, ⟨.ref (n + 1), H3, I3, rfl, q3⟩⟩
    | next => exact q.elim
    | brk => exact q.elim
    | cont => exact q.elim
theorem pe_makeG (M : Mk X.K C f) (F : FnG X.prog X.w X.K X.mg X.base k f sp) (hr : Room (k + 1) X.A) (hgu : X.A.guards = some []) (hg : Gl X x) (hm : X.mg x = some (.ref C)) (hx : ∀ σ, PassesAt (L2.CX X.prog X.w) X σ (E σ)) (ha : PA X (e :: es) t)
    (hdb : (x == ("__debug__" : Str)) = false := by decide) (he : starEach (e :: es) X.env = (false, eval e X.env) :: starEach es X.env := by rfl) (hpl : (backTo pos (starEach es X.env)).any (·.1) = false := by rfl) :
    PE X (.Call (.Name x p) (e :: es) [] pos) (tMakeG C sp E t) := ⟨fun pins s σ H Q I h =>
  wpAny_Call_Name_kw (ld_glob I hg hm (PySem.W.callWith_K (h₀ := X.base) I.ok.mod.kin M.kp (thn (ha.run pos pins s σ H _ I h) fun us s1 ⟨vs, H1, I1, r, q⟩ => ⟨I1.kIn, run_makeG M F hr hgu hx I1 r q⟩) he hpl) hdb)⟩
theorem pe_makeG0 (M : Mk X.K C f) (F : FnG X.prog X.w X.K X.mg X.base k f sp) (hr : Room (k + 1) X.A) (hgu : X.A.guards = some []) (hg : Gl X x) (hm : X.mg x = some (.ref C)) (hx : ∀ σ, PassesAt (L2.CX X.prog X.w) X σ (E σ))
    (hdb : (x == ("__debug__" : Str)) = false := by decide) : PE X (.Call (.Name x p) [] [] pos) (tMakeG C sp E tNil) := ⟨fun pins s σ H Q I h =>
  wpAny_Call_Name_kw (ld_glob I hg hm (PySem.W.callWith_K0 I.kIn M.kp (run_makeG M F hr hgu hx I .nil h)) hdb)⟩
end
section
variable {X : Cx} {k : Nat} {C p g a dx : Addr} {fs : List (Str × V)} {f : Str} {sp : Sp} {e : Expr} {pos : Pos} {ta : TE}
/-- e.f, f a property: nothing is raised in it -/
def tPropG (C : Addr) (sp : Sp) (ta : TE) : TE := fun σ H Q => ta σ H fun x H1 => ∃ a dx fs, x = .ref a ∧ H1 a = some (.ins C dx fs) ∧ sp [.ref a] H1 Q fun _ _ _ => False
theorem propG_ok {pins : List (Addr × Obj)} {σ : St} {H : Hp} {s : Shared} {Q : VK} {b : Bool} {E' : Value → Shared → Prop} (I : Inv X pins σ H s) (ea : H a = some (.ins C dx fs)) (c : Cls X.K C) (hp : PropOf X.K C f p g)
    (F : FnG X.prog X.w X.K X.mg X.base k g sp) (hr : Room (k + 1) X.A) (hgu : X.A.guards = some []) (h : sp [.ref a] H Q fun _ _ _ => False) : wpAny (model X.prog X.w) X.A (getAttr (.ref a) f b) (EP X pins σ Q) E' s := by
  obtain ⟨mA, O, _, _, _, _⟩ := ins_get I.hok ea
  obtain ⟨od, J, _⟩ := O.look
  obtain ⟨rest, rc⟩ := hp.rec_
  have known : (PySem.W.clsIn X.K C).isSome = true := by
    obtain ⟨cd, z, _⟩ := PySem.W.any_some c.hd
    rw [z]; rfl
  have I1 := I.tok (s.toks + 1)
  have gp := PySem.W.plainGet_of (c.get f)
  refine PySem.W.get_bind I.kIn J gp.1 (PySem.W.findObj_data known hp.at_ hp.get hp.tak) gp.2 (wpAny_call (PySem.W.prop_get (s := { s with toks := s.toks + 1 }) I.kIn rc (codeAny_mono (F X.A.in1 X.stack { s with toks := s.toks + 1 } H [.ref a] [.ref a] Q _ hr.in1 hgu I1.env0.in1 (.cons rfl .nil) h) fun res s2 q => ?_)))
  cases res with
  | error er => exact (cx_no q).elim
  | ok fl =>
    cases fl with
    | ret u =>
      obtain ⟨v, H3, I3, rv, q3⟩ := I1.after q
      show wpAny _ _ (handedOut u) _ _ _
      rw [PySem.W.handedOut_of (handed_of rv)]
      exact wpAny_pure ⟨v, H3, I3, rv, q3⟩
    | next => exact q.elim
    | brk => exact q.elim
    | cont => exact q.elim
theorem pe_propG (he : PE X e ta) (c : Cls X.K C) (hp : PropOf X.K C f p g) (F : FnG X.prog X.w X.K X.mg X.base k g sp) (hr : Room (k + 1) X.A) (hgu : X.A.guards = some [])
    (hab : attributeBase e f X.env (eval e X.env) = eval e X.env) : PE X (.Attribute e f pos) (tPropG C sp ta) := ⟨fun pins s σ H Q I h =>
  attr_of hab (thn (he.run pins s σ H _ I h) fun u s1 ⟨x, H1, I1, rx, a, dx, fs, ex, ea, q⟩ => by
    subst ex
    have er : u = Value.ref a := rx
    subst er
    exact propG_ok I1 ea c hp F hr hgu q)⟩
end

/-! ### the law's end -/
theorem law_callG {P : Program} {w : World} {K : PySem.W.Frag} {mg mb : Str → Option Value} {k : Nat} {fa a : Addr} {sp : Sp} {z : Shared} {vs : List Value} {ns : List Int}
    (kin : K.In z.heap) (glob : z.heap.Ns mainGlobals mg) (bns : z.heap.Ns builtinsNs mb) (boot : ∀ x : Str, x ≠ "__name__" → mb x = bootBuiltins x) (lim : z.heap.NoLimit) (gens : z.gens = #[])
    (at_ : z.heap.get? a = some { cls := .type "list", data := .seq vs.toArray }) (num : IntsAre vs ns) (short : ns.length ≤ sizeLine) (room : Room k callerA)
    (F : ∀ base : Heap, K.In base → base.Ns mainGlobals mg → FnG P w K mg base k fa sp)
    (hsp : ∀ H : Hp, Only H → SqL K H a (ns.map V.int) → sp [.ref a] H (fun v _ => v = .bl true) fun _ _ _ => False) :
    codeAny (model P w) callerA (.call (.ref fa) ⟨[.ref a], []⟩) (fun r s2 => r = .ok (.ret (.bool true)) ∧ OldK z.heap s2.heap ∧ s2.os = z.os ∧ AllBare s2.gens) z := by
  have rel := vals_ints num
  suffices main : ∀ H : Hp, Only H → SqL K H a (ns.map V.int) → HOk P w H z.heap → (∀ b, H b ≠ none → b = a) → (H a ≠ none → K.lookup a = none) →
      codeAny (model P w) callerA (.call (.ref fa) ⟨[.ref a], []⟩) (fun r s2 => r = .ok (.ret (.bool true)) ∧ OldK z.heap s2.heap ∧ s2.os = z.os ∧ AllBare s2.gens) z by
    cases look : K.lookup a with
    | some o =>
      have eo := kin a o look
      rw [at_] at eo; cases eo
      exact main (fun _ => none) (fun _ => .inl rfl) (.inr ⟨_, vs.toArray, _, look, rfl, rfl, rfl, by rw [List.size_toArray, num.length]; exact short, by simpa using rel⟩) (fun _ _ q => nomatch q) (fun _ q => absurd rfl q) fun q => absurd rfl q
    | none =>
      let H0 : Hp := fun b => if b = a then some (.frz { cls := .type "list", data := .seq vs.toArray } (.lst (ns.map V.int))) else none
      have ha : H0 a = some (.frz { cls := .type "list", data := .seq vs.toArray } (.lst (ns.map V.int))) := if_pos rfl
      have hn : ∀ {b}, b ≠ a → H0 b = none := fun {b} q => if_neg q
      have only : ∀ b, H0 b ≠ none → b = a := fun b q => Classical.byContradiction fun n => q (hn n)
      refine main H0 (fun b => ?_) (.inl (.inr ⟨_, ha⟩)) (fun b u q => ?_) only fun _ => look
      · by_cases e : b = a
        · subst e; exact .inr ⟨_, _, ha⟩
        · exact .inl (hn e)
      · have e := only b (by rw [q]; simp)
        subst e
        rw [ha] at q; cases q
        exact ⟨at_, by rw [List.length_map]; exact short, vs, _, rel, at_⟩
  intro H only sq ok own nk
  have free : ∀ {b : Addr} {o : Obj}, z.heap.get? b = some o → (∀ n, o.data ≠ .seq vs.toArray n) → H b = none := fun {b o} e d => by
    cases q : H b with
    | none => rfl
    | some u =>
      have e' := own b (by rw [q]; simp)
      subst e'
      rw [at_] at e; cases e
      exact absurd rfl (d _)
  have dictNs : ∀ {b : Addr} {m : Str → Option Value}, z.heap.Ns b m → (hidT z.heap H).Ns b m := fun {b m} ⟨o, es, ep, e, d, r⟩ => ⟨o, es, ep, hidT_get e (free e fun n q => by rw [d] at q; cases q), d, r⟩
  have kb : K.In (hidT z.heap H) := fun b o e => hidT_get (kin b o e) (by
    cases q : H b with
    | none => rfl
    | some u =>
      have e' := own b (by rw [q]; simp)
      subst e'
      have nl := nk (by rw [q]; simp)
      rw [nl] at e; cases e)
  obtain ⟨mc, l1, l2⟩ := lim
  have env : Env0 P w K mg (hidT z.heap H) callerA [] z H := ⟨rfl, ⟨kb, dictNs glob, ⟨mb, dictNs bns, boot⟩, mc, dictNs l1, l2⟩, fun _ _ e => of_hidT e, Nat.le_of_eq (hidT_size _ _), trivial, fun b q => absurd (show b ∈ ([] : List Addr) from q) List.not_mem_nil, ok, .of_eq gens⟩
  refine codeAny_mono (F _ kb (dictNs glob) callerA [] z H [.ref a] [.ref a] _ _ room rfl env (.cons rfl .nil) (hsp H only sq)) fun res s2 q => ?_
  cases res with
  | error er => exact (cx_no q).elim
  | ok fl =>
    cases fl with
    | next => exact q.elim
    | brk => exact q.elim
    | cont => exact q.elim
    | ret u =>
      obtain ⟨v, H2, os, bare, un, ok2, rv, ev⟩ := q
      have ev : v = .bl true := ev
      subst ev
      have eu : u = Value.bool true := rv
      subst eu
      refine ⟨rfl, OldK.of_keep fun b o e => ?_, os, bare⟩
      cases q : H b with
      | none => exact un.keep b o e q (fun n => absurd (show b ∈ ([] : List Addr) from n) List.not_mem_nil) (fun n => absurd n List.not_mem_nil)
      | some y =>
        rcases only b with r | ⟨ob, xs, r⟩
        · rw [q] at r; cases r
        · obtain ⟨e1, _⟩ := ok b _ r
          obtain ⟨e2, _⟩ := ok2 b _ (un.frzs b ob _ r)
          rw [e] at e1; cases e1
          exact e2
theorem walk_ofG {l : PySem.W.OpenLaw} {n k : Nat} {q : Program} {loose : List Str} {XP : (Str → Option Value) → Heap → Prop} {YP : World → Heap → Prop} {d : DefRec} {K : Params → PySem.W.Frag} {sp : World → Sp}
    (hn : l.most = some n) (wide : n ≤ sizeLine) (nodf : d.params.defaults = []) (room : Room k callerA) (hY : ∀ (w : World) (h : Heap), YP w h → (K w.params).In h)
    (F : ∀ (w : World) (mg : Str → Option Value) (fa : Addr) (h : Heap), (K w.params).In h → h.Ns mainGlobals mg → mg d.name = some (.ref fa) → ∀ base : Heap, (K w.params).In base → base.Ns mainGlobals mg → FnG l.prog w (K w.params) mg base k fa (sp w))
    (hsp : ∀ (w : World) (H : Hp) (a : Addr) (ns : List Int), ns.length ≤ n → Only H → SqL (K w.params) H a (ns.map V.int) → sp w [.ref a] H (fun v _ => v = .bl true) fun _ _ _ => False) :
    PySem.W.WalkO q loose XP YP l.row.toRowW d [] (fun f vs => PySem.call f vs) :=
  Att.attach_call hn nodf fun w s₀ s₁ mg mb fa o pm cd doc a vs ns G Y ho hd hcd hmg hobj hints hlen hg =>
    law_callG (hY w _ Y) G.T.g G.T.b G.T.builtins G.T.nolimit hg hobj hints (Nat.le_trans hlen wide) room (F w mg fa _ (hY w _ Y) G.T.g hmg) fun H hO hS => hsp w H a ns hlen hO hS
end DL

/-! DG1: defs and calls over data, with guards; repr; instances. -/
namespace DL
open PySem L2
open PyProof.Rows hiding St

section
variable {X : Cx} {Wx : WX} {P I J J1 : List Nat} {e a b c : Expr} {es : List Expr} {F : FE} {A : Env → (Env → Env → Prop) → XP → Prop} {sl : List (Option Nat)} {pos p : Pos} {k n : Nat} {f : Addr} {G : DFn} {x : Str} {io : List Nat} {tA : TA}
theorem de_callG (Fn : FnG X.prog X.w X.K X.mg X.base k f (spD X.K n io G)) (hr : Room k X.A) (hgu : X.A.guards = some []) (hm : X.mg x = some (.ref f)) (hk : PySem.W.keepIn X.K (.ref f) = true) (tk : Takes X Wx)
    (ha : DO X Wx P I (e :: es) tA A sl J) (hio : ioOf 0 sl = io := by decide) (hsl : ∀ j ∈ slots sl, j ∈ P ∨ j ∈ J := by decide) (nd : (slots sl).Nodup := by decide) (hPJ : ∀ j ∈ J, j ∉ P := by decide) (hn : sl.length = n := by decide)
    (hg : Gl X x := by rfl) (hdb : (x == ("__debug__" : Str)) = false := by decide) (he : starEach (e :: es) X.env = (false, eval e X.env) :: starEach es X.env := by rfl) (hpl : (backTo pos (starEach es X.env)).any (·.1) = false := by rfl) :
    DE X Wx P I (.Call (.Name x p) (e :: es) [] pos) (tCallS (spD X.K n io G) (WE Wx) tA) (fCall G sl A) J := by
  obtain ⟨pa, ka⟩ := ha
  exact de_of (pe_callG Fn hr hgu hg hm hk (fun σ => passAt tk σ) pa hdb he hpl) (call_core tk hio hsl nd hPJ hn ka)
theorem dn_callG (Fn : FnG X.prog X.w X.K X.mg X.base k f (spN X.K n io G)) (hr : Room k X.A) (hgu : X.A.guards = some []) (hm : X.mg x = some (.ref f)) (hk : PySem.W.keepIn X.K (.ref f) = true) (tk : Takes X Wx)
    (ha : DO X Wx P I (e :: es) tA A sl J) (hio : ioOf 0 sl = io := by decide) (hsl : ∀ j ∈ slots sl, j ∈ P ∨ j ∈ J := by decide) (nd : (slots sl).Nodup := by decide) (hPJ : ∀ j ∈ J, j ∉ P := by decide) (hn : sl.length = n := by decide)
    (hg : Gl X x := by rfl) (hdb : (x == ("__debug__" : Str)) = false := by decide) (he : starEach (e :: es) X.env = (false, eval e X.env) :: starEach es X.env := by rfl) (hpl : (backTo pos (starEach es X.env)).any (·.1) = false := by rfl) :
    DNw X Wx P I (.Call (.Name x p) (e :: es) [] pos) (tCallS (spN X.K n io G) (WE Wx) tA) (fCall G sl A) J := by
  obtain ⟨pa, ka⟩ := ha
  exact ⟨pe_callG Fn hr hgu hg hm hk (fun σ => passAt tk σ) pa hdb he hpl, calln_core tk hio hsl nd hPJ hn ka⟩
end

section
variable {P : Program} {w : World} {K : PySem.W.Frag} {mg : Str → Option Value} {base : Heap}
theorem okG_of {x qual : Str} {st : Stmt} {f : Addr} {fd : FuncData} {N ps : List Str} {k n : Nat} {io : List Nat} {J : List Nat} {G : DFn} {Fd : FS} (F : Fun K x qual st f fd) (B : Binds K fd ps []) (S : FnScope N ps (defScope st)) (hn : ps.length = n)
    (hb : ∀ (cdv : Value) (A : Around) (outer : List PySem.Env) (s : Shared) (H : Hp) (E : XK), Room k (A.deeper (envOfC qual (defScope st) s.heap.objs.size f cdv)) → A.guards = some [] →
      DSs (cxOf (L2.CX P w) P w K mg base N qual (defScope st) f cdv A outer s H E) (WofE E) io [] [] (defBody st) Fd J)
    (hg : ∀ (ρ : DL.Env) (post : Post) (xp : XP), ρ.length = n → G ρ post xp → Fd (ρ ++ List.replicate (N.length - n) none) (endS io n post xp)) : FnG P w K mg base (k + 1) f (spD K n io G) := by
  refine fnG_of F S B (fun vs H Q E h => h.1.trans hn.symm) fun cdv A outer s H vs Q E hr gu h => ?_
  obtain ⟨hl, ρ, Hb, post, xp, E0, g, q1, q2⟩ := h
  obtain ⟨t, pt, kt⟩ := (hb cdv A outer s H E hr gu).run
  refine ⟨t, pt, ?_⟩
  have hρ : ρ.length = n := by rw [← E0.len, List.length_map, hl]
  have e1 : L2.start N vs = vs.map some ++ List.replicate (N.length - n) none := by unfold L2.start; rw [hl]
  rw [e1]
  refine kt ⟨Hb, H, lentAt io vs⟩ _ _ Hb H _ _ E0.entry (hg ρ post xp hρ g) ⟨fun ρ' σ' Hb' H' a E' s' => ?_, fun d ρ' σ' v Hb' H' a E' is => ?_, fun _ _ _ _ a => a.elim, fun _ _ _ _ a => a.elim, fun c ρ' cls dx σ' Hb' H' a E' xi => ?_⟩
  · exact q1 _ _ _ _ _ a (E'.masked hl) .non
  · exact q1 _ _ _ _ _ a (E'.masked hl) is
  · exact q2 _ _ _ _ _ _ a (E'.masked hl) xi
theorem okNG_of {x qual : Str} {st : Stmt} {f : Addr} {fd : FuncData} {N ps : List Str} {k n : Nat} {e : Expr} {pos : Pos} {G : DFn} {Fd : FE} (F : Fun K x qual st f fd) (B : Binds K fd ps []) (S : FnScope N ps (defScope st)) (hn : ps.length = n)
    (hbody : defBody st = [.Return (some e) pos])
    (hb : ∀ (cdv : Value) (A : Around) (outer : List PySem.Env) (s : Shared) (H : Hp) (E : XK), Room k (A.deeper (envOfC qual (defScope st) s.heap.objs.size f cdv)) → A.guards = some [] →
      ∃ t, DNw (cxOf (L2.CX P w) P w K mg base N qual (defScope st) f cdv A outer s H E) (WofE E) [] [] e t Fd [])
    (hg : ∀ (ρ : DL.Env) (post : Post) (xp : XP), ρ.length = n → G ρ post xp → Fd (ρ ++ List.replicate (N.length - n) none) (fun d ρ' => post d (maskF [] 0 n ρ')) fun c ρ' => xp c (maskF [] 0 n ρ')) : FnG P w K mg base (k + 1) f (spN K n [] G) := by
  refine fnG_of F S B (fun vs H Q E h => h.1.trans hn.symm) fun cdv A outer s H vs Q E hr gu h => ?_
  obtain ⟨hl, ρ, Hb, post, xp, E0, g, q1, q2⟩ := h
  obtain ⟨te, ht⟩ := hb cdv A outer s H E hr gu
  rw [hbody]
  refine ⟨_, pss_one (ps_ret ht.pe), ?_⟩
  have hρ : ρ.length = n := by rw [← E0.len, List.length_map, hl]
  have e1 : L2.start N vs = vs.map some ++ List.replicate (N.length - n) none := by unfold L2.start; rw [hl]
  rw [e1]
  refine ht.ev ⟨Hb, H, lentAt [] vs⟩ _ _ Hb H _ _ _ E0.entry (hg ρ post xp hρ g) (fun c ρ' cls dx Hb' H' a E' xi => q2 _ _ _ _ _ _ a (E'.masked hl) xi) fun d ρ' p Hb' H' a E' s' nw => ?_
  exact q1 _ _ _ _ _ a (E'.masked hl) ⟨nw.nb, nw.cell, nw.wn, fun i hi => by rcases hi with hi | hi <;> cases hi⟩
theorem okG_law {k : Nat} {f : Addr} {G : DFn} (F : FnG P w K mg base k f (spD K 1 [] G))
    (h : ∀ ns : List Int, ns.length ≤ 63 → G [some (.slst (ns.map D.int))] (fun d _ => d = .bl true) fun _ _ => False) : FnG P w K mg base k f (spLaw K) :=
  F.imp fun vs H Q E ⟨a, ns, e, hs, hl, q⟩ => by
    subst e
    refine ⟨rfl, [some (.slst (ns.map D.int))], H, _, _, ⟨Sub.refl _, Stp.refl _ _ _, rfl, fun i d g _ _ => ?_, fun i d hi _ => ?_, fun i j p hi => ?_⟩, h ns hl, fun d ρ' v Hb' H' e _ is => ?_, fun _ _ _ _ _ _ z => z.elim⟩
    · match i, g with
      | 0, g =>
        cases g
        exact ⟨_, rfl, .slst hs (isL_ints ns)⟩
      | i + 1, g => simp [get] at g
    · rcases hi with hi | hi <;> cases hi
    · rcases hi with hi | hi <;> cases hi
    · subst e
      rw [is_bl is]
      exact q _
end

/-! ### repr of plain data -/
section
variable {X : Cx} {K : PySem.W.Frag}
theorem call_reprD (hgu : X.A.guards = some []) (hu : X.A.units + 65 < cLine) : CallR X (.builtin "repr") (fun xs H Q => ∃ v d, xs = [v] ∧ Dp X.K H v d ∧ d.showable = true ∧ d.hasDict = false ∧ d.depth ≤ 60 ∧ d.shown.length ≤ sizeLine ∧ Q (.str d.shown) H) := by
  intro pins s σ H xs us Q I r h
  obtain ⟨v, d, rfl, hd, hs, nd, dp, hz, q⟩ := h
  obtain ⟨u, rfl, e⟩ := vals1 r
  have fin : ∀ (h' : Heap) (u : Tok) (tk : Nat), (∀ b o, s.heap.get? b = some o → h'.get? b = some o) → EP X pins σ Q (.str d.shown u) { s with heap := h', toks := tk } := fun h' u tk hk => ⟨.str d.shown, H, I.kept (t' := tk) hk, ⟨u, rfl⟩, q⟩
  obtain ⟨as, rd⟩ := Dp.reads I d v u hd e
  cases hd with
  | non =>
    cases (show u = Value.none from e)
    exact PySem.P.repr_of_none ⟨.str _, H, I.tok _, ⟨_, rfl⟩, q⟩
  | bl b =>
    cases (show u = Value.bool b from e)
    exact PySem.P.repr_of_bool ⟨.str _, H, I.tok _, ⟨_, rfl⟩, q⟩
  | int i =>
    obtain ⟨t, rfl⟩ := e
    exact PySem.P.repr_of_int (by simpa [PyData.showable] using hs) ⟨.str _, H, I.tok _, ⟨_, rfl⟩, q⟩
  | str x =>
    obtain ⟨t, rfl⟩ := e
    exact PySem.P.repr_of_str ⟨.str _, H, I.tok _, ⟨_, rfl⟩, q⟩ hz
  | lst hl l =>
    cases (show u = Value.ref _ from e)
    exact repr_of_reads' rd hs (PyData.noDict_hsm nd) hgu (by omega) (fun _ _ e => e) (fun h' u tk hk => fin h' u tk hk) hz
  | tup hl l =>
    cases (show u = Value.ref _ from e)
    exact repr_of_reads' rd hs (PyData.noDict_hsm nd) hgu (by omega) (fun _ _ e => e) (fun h' u tk hk => fin h' u tk hk) hz
def gRepr : GN
  | [d], k => ∃ z, pd d = some z ∧ z.showable = true ∧ z.hasDict = false ∧ z.depth ≤ 60 ∧ z.shown.length ≤ 1000000 ∧ k (.str z.shown)
  | _, _ => False
theorem rv_repr : RVN K (fun xs H Q => ∃ v d, xs = [v] ∧ Dp K H v d ∧ d.showable = true ∧ d.hasDict = false ∧ d.depth ≤ 60 ∧ d.shown.length ≤ sizeLine ∧ Q (.str d.shown) H) gRepr := fun Hb H xs ds k Q s l g q => by
  unfold gRepr at g
  split at g
  · obtain ⟨z, e, h1, h2, h3, h4, g⟩ := g
    obtain ⟨v, rfl, i⟩ := o_one l
    exact ⟨v, z, rfl, (i.is s).dp e, h1, h2, h3, Nat.le_trans h4 (by decide), q _ _ _ _ g .refl (.str _)⟩
  · exact g.elim
end
end DL

/-! DG2: instances over data. -/
namespace DL
open PySem L2
open PyProof.Rows hiding St

/-! ### fields -/
section
variable {K : PySem.W.Frag} {Hb H : Hp}
theorem o_obj (s : Sub Hb H) {v : V} {n : Str} {fs : List (Str × D)} (h : IsO K Hb H v (.obj n fs)) : ∃ (a C dx : Addr) (vs : List (Str × V)), v = .ref a ∧ IsCl K n C ∧ H a = some (.ins C dx vs) ∧ vs.map (·.1) = fs.map (·.1) ∧ IsL K Hb (vs.map (·.2)) (fs.map (·.2)) := by
  rcases h with h | ⟨p, rfl, C, dx, vs, c, h, e, l⟩
  · cases h with
    | obj c h e l => exact ⟨_, _, _, _, rfl, c, s _ _ h, e, l⟩
  · exact ⟨p, C, dx, vs, rfl, c, h, e, l⟩
theorem look_is {f : Str} {d : D} : ∀ {vs : List (Str × V)} {fs : List (Str × D)}, vs.map (·.1) = fs.map (·.1) → IsL K H (vs.map (·.2)) (fs.map (·.2)) → fs.lookup f = some d → ∃ v, vs.lookup f = some v ∧ Is K H v d
  | [], [], _, _, h => by cases h
  | v :: vs, x :: fs, e, l, h => by
    simp only [List.map_cons, List.cons.injEq] at e
    rw [List.map_cons, List.map_cons] at l
    cases l with
    | cons a l =>
      rw [show x = (x.1, x.2) from rfl, List.lookup_cons] at h
      rw [show v = (v.1, v.2) from rfl, List.lookup_cons, e.1]
      split at h
      · rename_i z
        cases h
        exact ⟨_, rfl, a⟩
      · rename_i z
        obtain ⟨w, hw, iw⟩ := look_is e.2 l h
        exact ⟨w, hw, iw⟩
  | [], _ :: _, e, _, _ => by simp at e
  | _ :: _, [], e, _, _ => by simp at e
theorem look_none {f : Str} : ∀ {vs : List (Str × V)} {fs : List (Str × D)}, vs.map (·.1) = fs.map (·.1) → fs.lookup f = none → vs.lookup f = none
  | [], [], _, _ => rfl
  | v :: vs, x :: fs, e, h => by
    simp only [List.map_cons, List.cons.injEq] at e
    rw [show x = (x.1, x.2) from rfl, List.lookup_cons] at h
    rw [show v = (v.1, v.2) from rfl, List.lookup_cons, e.1]
    split at h
    · cases h
    · rename_i z
      exact look_none e.2 h
  | [], _ :: _, e, _ => by simp at e
  | _ :: _, [], e, _ => by simp at e
@[simp] def putFd (f : Str) (d : D) : List (Str × D) → List (Str × D)
  | [] => [(f, d)]
  | (g, x) :: r => if g = f then (g, d) :: r else (g, x) :: putFd f d r
theorem putF_is {f : Str} {v : V} {d : D} (i : Is K H v d) : ∀ {vs : List (Str × V)} {fs : List (Str × D)}, vs.map (·.1) = fs.map (·.1) → IsL K H (vs.map (·.2)) (fs.map (·.2)) → (putF f v vs).map (·.1) = (putFd f d fs).map (·.1) ∧ IsL K H ((putF f v vs).map (·.2)) ((putFd f d fs).map (·.2))
  | [], [], _, _ => ⟨rfl, .cons i .nil⟩
  | (g, x) :: vs, (g', y) :: fs, e, l => by
    simp only [List.map_cons, List.cons.injEq] at e
    rw [List.map_cons, List.map_cons] at l
    obtain ⟨e1, e2⟩ := e
    subst e1
    cases l with
    | cons a l =>
      obtain ⟨r1, r2⟩ := putF_is i e2 l
      unfold putF putFd
      by_cases h : g = f
      · rw [if_pos h, if_pos h]
        exact ⟨by simp [e2], .cons i l⟩
      · rw [if_neg h, if_neg h]
        exact ⟨by simp [r1], .cons a r2⟩
  | [], _ :: _, e, _ => by simp at e
  | _ :: _, [], e, _ => by simp at e
end
def gFld (n f : Str) : G1
  | .obj m fs, k => m = n ∧ ∃ x, fs.lookup f = some x ∧ k x
  | _, _ => False
@[simp ↓] theorem gFld_obj (n f m : Str) (fs : List (Str × D)) (k) : gFld n f (.obj m fs) k = (m = n ∧ ∃ x, fs.lookup f = some x ∧ k x) := rfl
section
variable {X : Cx} {Wx : WX} {P L I J J1 J2 : List Nat} {e a b c o value : Expr} {es : List Expr} {F Fo : FE} {A : FA} {B : Env → (Env → Env → Prop) → XP → Prop} {sl : List (Option Nat)} {pos pos' p apos : Pos} {k : Nat} {f : Addr} {G : DFn} {x m : Str} {io : List Nat} {ta tv : TE} {tA : TA} {C : Addr}
theorem de_fld (n : Str) (hc : IsCl X.K n C) (cl : Cls X.K C) (na : NoAttr X.K C m) (ha : DEo X Wx P I e ta F J) (hb : attributeBase e m X.env (eval e X.env) = eval e X.env := by rfl) : DE X Wx P I (.Attribute e m pos) (tFld X.K ta m) (fUn (gFld n m) F) J := by
  obtain ⟨pa, ka⟩ := ha
  refine de_of (pe_fld pa hb) fun W ρ σ Hb H Q post xp E f x q => ka W ρ σ Hb H _ _ xp E f x fun d ρ1 v Hb1 H1 f1 E1 s1 i1 => ?_
  cases d <;> first | exact f1.elim | skip
  obtain ⟨e0, d, hd, f1⟩ := f1
  subst e0
  obtain ⟨a, C', dx, vs, rfl, hc', hh, e1, l1⟩ := o_obj E1.sub i1
  obtain rfl := hc.eq hc'
  obtain ⟨w, hw, iw⟩ := look_is e1 l1 hd
  exact ⟨a, C, dx, vs, w, rfl, hh, cl, na, hw, q _ _ _ _ _ f1 E1 s1 iw⟩
/-- self.m = value, self a slot's own instance -/
@[simp ↓] def fPutF (i : Nat) (n m : Str) (F : FE) : FS := fun ρ S => F ρ (fun d ρ1 => ∃ fs, get ρ1 i = some (.obj n fs) ∧ fs.length < 1000 ∧ S.nx (put ρ1 i (some (.obj n (putFd m d fs))))) S.ex
theorem ds_fld (i : Nat) (n : Str) {y : Str} (hc : IsCl X.K n C) (cl : Cls X.K C) (na : NoAttr X.K C m) (hv : DE X Wx P I value tv F J) (hj : i ∈ P ∨ i ∈ J := by decide) (hN : X.N[i]? = some y := by rfl) (hvx : Vis X.env.scope y := by first | exact Or.inl rfl | exact Or.inr (Or.inl rfl) | exact Or.inr (Or.inr rfl)) (hd : (y == ("__debug__" : Str)) = false := by decide)
    (hcd : (y == ("__classdict__" : Str)) = false := by decide) (hs : swapsWith value (some (.Attribute (.Name y p) m pos')) pos.line X.env = pure false := by rfl) :
    DS X Wx P L I (.Assign [.Attribute (.Name y p) m pos'] value pos) (fPutF i n m F) J := by
  obtain ⟨p1, k1⟩ := hv
  refine ⟨_, ps_fld (pe_var hN hvx hd hcd) p1 hs, fun W ρ σ Hb H D S E f q => k1 W ρ σ Hb H _ _ _ E f (q.xok σ) fun z ρ1 v Hb1 H1 f1 E1 s1 i1 => ?_⟩
  obtain ⟨fs, g, hl, f1⟩ := f1
  obtain ⟨a, ea, nb, ⟨C', dx, vs, hc', hh, e1, l1⟩, _, _⟩ := E1.cel i _ hj g
  obtain rfl := hc.eq hc'
  obtain ⟨r1, r2⟩ := putF_is (f := m) i1 e1 l1
  have lz : vs.length = fs.length := by
    have := congrArg List.length e1
    simpa using this
  exact ⟨_, ea, a, C, dx, vs, rfl, hh, cl, na, by rw [lz]; exact hl, q.nx _ _ _ _ f1 (E1.write hj g ea ⟨C, dx, _, hc, upd_same, r1, r2⟩) s1⟩
/-! ### methods, properties -/
def tSelf (C : Addr) (m : Str) (ta : TE) (t : TA) : TA := fun σ H Q => ta σ H fun x H1 => ∃ a dx fs, x = .ref a ∧ H1 a = some (.ins C dx fs) ∧ fs.lookup m = none ∧ t σ H1 fun vs H2 => Q (x :: vs) H2
@[simp ↓] def oSelf (n m : Str) (Fo : FE) (B : Env → (Env → Env → Prop) → XP → Prop) : Env → (Env → Env → Prop) → XP → Prop := fun ρ post xp => Fo ρ (fun d ρ1 => (∃ fs, d = .obj n fs ∧ fs.lookup m = none) ∧ B ρ1 (fun ds ρ2 => post (some d :: ds) ρ2) xp) xp
theorem self_ev {n : Str} (hc : IsCl X.K n C) (ho : DE X Wx P I o ta Fo J1) (hb : DO X Wx P J1 es tA B sl J) : ∀ (W : Wd) (ρ : Env) (σ : St) (Hb H : Hp) (Q : List V → Hp → Prop) (post : Env → Env → Prop) (xp : XP), EnvOk X.K W P I ρ σ Hb H → oSelf n m Fo B ρ post xp → XOk X Wx W P σ xp →
    (∀ ds ρ' vs Hb' H', post ds ρ' → EnvOk X.K W P J ρ' σ Hb' H' → Sub Hb Hb' → Args X.K Hb' σ (none :: sl) vs ds → Q vs H') → tSelf C m ta tA σ H Q := by
  intro W ρ σ Hb H Q post xp E f x q
  refine ho.ev W ρ σ Hb H _ _ xp E f x fun d ρ1 v Hb1 H1 f1 E1 s1 i1 => ?_
  obtain ⟨⟨fs, e, hl⟩, f1⟩ := f1
  subst e
  obtain ⟨a, C', dx, vs, rfl, hc', hh, e1, l1⟩ := o_obj E1.sub (.inl i1)
  obtain rfl := hc.eq hc'
  exact ⟨a, dx, vs, rfl, hh, look_none e1 hl, hb.ev W ρ1 σ Hb1 H1 _ _ xp E1 f1 x fun ds ρ2 us Hb2 H2 f2 E2 s2 i2 => q _ _ _ _ _ f2 E2 (s1.trans s2) ⟨⟨_, rfl, i1.mono s2⟩, i2⟩⟩
theorem de_methG {nn : Nat} {n : Str} {pl : Sem Bool} (hc : IsCl X.K n C) (cl : Cls X.K C) (hm : Meth X.K C m f) (Fn : FnG X.prog X.w X.K X.mg X.base k f (spD X.K nn io G)) (hr : Room k X.A) (hgu : X.A.guards = some []) (tk : Takes X Wx)
    (ho : DE X Wx P I o ta Fo J1) (hb : DO X Wx P J1 (e :: es) tA B sl J) (hio : ioOf 0 (none :: sl) = io := by decide) (hsl : ∀ j ∈ slots (none :: sl), j ∈ P ∨ j ∈ J := by decide) (nd : (slots (none :: sl)).Nodup := by decide) (hPJ : ∀ j ∈ J, j ∉ P := by decide) (hn : (none :: sl).length = nn := by decide)
    (hst : starEach (e :: es) X.env = (false, eval e X.env) :: starEach es X.env := by rfl) (hpl : (backTo pos (starEach es X.env)).any (·.1) = false := by rfl)
    (ht : eval (.Call (.Attribute o m apos) (e :: es) [] pos) X.env = (do
      let ov ← eval o X.env
      standAt apos.atName
      let (f, first) ← holding [ov] (getMethod ov m pl)
      callWith pos f first (backTo pos (starEach (e :: es) X.env)) (backToKw pos (keywordEach [] X.env))) := by rfl) :
    DE X Wx P I (.Call (.Attribute o m apos) (e :: es) [] pos) (tMethG C m (spD X.K nn io G) (WE Wx) ta tA) (fCall G (none :: sl) (oSelf n m Fo B)) J :=
  de_of (pe_methG ho.pe cl hm Fn hr hgu (fun σ => passAt tk σ) hb.pe hst hpl ht) (call_core (t := tSelf C m ta tA) tk hio hsl nd hPJ hn (self_ev hc ho hb))
theorem de_methG0 {nn : Nat} {n : Str} {pl : Sem Bool} (hc : IsCl X.K n C) (cl : Cls X.K C) (hm : Meth X.K C m f) (Fn : FnG X.prog X.w X.K X.mg X.base k f (spD X.K nn io G)) (hr : Room k X.A) (hgu : X.A.guards = some []) (tk : Takes X Wx)
    (ho : DE X Wx P I o ta Fo J) (hio : ioOf 0 [none] = io := by decide) (hPJ : ∀ j ∈ J, j ∉ P := by decide) (hn : 1 = nn := by decide)
    (ht : eval (.Call (.Attribute o m apos) [] [] pos) X.env = (do
      let ov ← eval o X.env
      standAt apos.atName
      let (f, first) ← holding [ov] (getMethod ov m pl)
      callWith pos f first (backTo pos (starEach [] X.env)) (backToKw pos (keywordEach [] X.env))) := by rfl) :
    DE X Wx P I (.Call (.Attribute o m apos) [] [] pos) (tMethG C m (spD X.K nn io G) (WE Wx) ta tNil) (fCall G [none] (oSelf n m Fo oNil)) J :=
  de_of (pe_methG0 ho.pe cl hm Fn hr hgu (fun σ => passAt tk σ) ht) (call_core (t := tSelf C m ta tNil) tk hio (fun j h => by simp [slots] at h) (by simp [slots]) hPJ hn (self_ev hc ho do_nil))
/-- a property: nothing is raised in it -/
@[simp ↓] def fProp (n : Str) (G : DFn) (F : FE) : FE := fun ρ post xp => F ρ (fun d ρ1 => (∃ fs, d = .obj n fs) ∧ callD G [some d] (fun z _ => post z ρ1) noX .mk) xp
theorem de_propG {n : Str} {g q : Addr} (hc : IsCl X.K n C) (cl : Cls X.K C) (hp : PropOf X.K C m q g) (Fn : FnG X.prog X.w X.K X.mg X.base k g (spD X.K 1 [] G)) (hr : Room (k + 1) X.A) (hgu : X.A.guards = some [])
    (ho : DE X Wx P I o ta Fo J) (hab : attributeBase o m X.env (eval o X.env) = eval o X.env := by rfl) : DE X Wx P I (.Attribute o m pos) (tPropG C (spD X.K 1 [] G) ta) (fProp n G Fo) J := by
  refine de_of (pe_propG ho.pe cl hp Fn hr hgu hab) fun W ρ σ Hb H Q post xp E f x q => ho.ev W ρ σ Hb H _ _ xp E f x fun d ρ1 v Hb1 H1 f1 E1 s1 i1 => ?_
  obtain ⟨⟨fs, e⟩, f1⟩ := f1
  subst e
  obtain ⟨a, C', dx, vs, rfl, hc', hh, e1, l1⟩ := o_obj E1.sub (.inl i1)
  obtain rfl := hc.eq hc'
  have ar : Args X.K Hb1 σ [none] [V.ref a] [some (.obj n fs)] := ⟨⟨_, rfl, i1⟩, trivial⟩
  have hsl : ∀ j ∈ slots [none], j ∈ P ∨ j ∈ J := fun j h => by simp [slots] at h
  have hl : ∀ j ∈ slots [none], get ρ1 j ≠ none := fun j h => by simp [slots] at h
  refine ⟨a, dx, vs, rfl, hh, rfl, [some (.obj n fs)], Hb1, _, _, E1.lend ar hsl (by simp [slots]) hl, f1, fun d ρ' v Hb' H' p1 E2 is => ?_, fun c ρ' cls dx Hb' H' p1 => p1.elim⟩
  have E3 := E1.given ar hsl (by simp [slots]) hl E2 rfl
  have eu : unfill [none] ρ' ρ1 = ρ1 := by cases ρ' <;> rfl
  rw [eu] at E3
  exact q _ _ _ _ _ p1 E3 (s1.trans E2.stp.hb) is
end
/-! ### making an instance -/
@[simp ↓] def fMake (n : Str) (m : Nat) (G : DFn) (A : FA) : FE := fun ρ post xp => A ρ (fun ds ρ1 => ds.length + 1 = m ∧ callD G (some (.obj n []) :: ds.map some) (fun d r => d = .non ∧ ∃ fs, get r 0 = some (.obj n fs) ∧ post (.obj n fs) ρ1) (fun c _ => xp c ρ1) .mk) xp
section
variable {K : PySem.W.Frag} {W : Wd} {P J : List Nat} {ρ : Env} {σ : St} {Hb H : Hp} {n : Str} {C x dx : Addr} {vs : List V} {ds : List D}
theorem get_map_some : ∀ {ds : List D} {i : Nat} {d : D}, get (ds.map some) i = some d → ds[i]? = some d
  | [], _, _, h => by simp [get] at h
  | x :: r, 0, d, h => by simpa [get] using h
  | x :: r, i + 1, d, h => by
    have := get_map_some (ds := r) (i := i) (d := d) (by simpa [get] using h)
    simpa using this
theorem made_env (E : EnvOk K W P J ρ σ Hb H) (hc : IsCl K n C) (nx : H x = none) (nd : H dx = none) (ne : dx ≠ x) (l : IsL K Hb vs ds) :
    EnvOk K ⟨Hb, upd (upd H dx (.own x)) x (.ins C dx []), lentAt [0] (.ref x :: vs)⟩ [0] [] (some (.obj n []) :: ds.map some) ((V.ref x :: vs).map some) Hb (upd (upd H dx (.own x)) x (.ins C dx [])) where
  sub := ((E.more (o := .own x) nd).more (o := .ins C dx []) (by rw [upd_ne ne.symm]; exact nx)).sub
  stp := Stp.refl _ _ _
  len := by simp [l.length]
  val := fun i d g nP _ => by
    cases i with
    | zero => exact absurd (List.mem_singleton.mpr rfl) nP
    | succ i =>
      obtain ⟨v, hv, iv⟩ := l.get (get_map_some (by simpa [get] using g))
      exact ⟨v, by simp [hv], iv⟩
  cel := fun i d hi g => by
    have e : i = 0 := by simpa using hi
    subst e
    cases g
    exact ⟨x, rfl, E.sub.none nx, ⟨C, dx, [], hc, upd_same, rfl, .nil⟩, fun _ => ⟨List.mem_singleton.mpr rfl, rfl⟩, fun q => by cases q⟩
  sep := fun i j p hi hj _ _ _ _ => by
    have e : i = 0 := by simpa using hi
    have e' : j = 0 := by simpa using hj
    rw [e, e']
theorem made_back {ρ' : Env} {Hb' H' : Hp} (E : EnvOk K W P J ρ σ Hb H) (nx : H x = none) (nd : H dx = none) (ne : dx ≠ x)
    (E4 : EnvOk K ⟨Hb, upd (upd H dx (.own x)) x (.ins C dx []), lentAt [0] (.ref x :: vs)⟩ [0] [] ρ' ((V.ref x :: vs).map some) Hb' H') : EnvOk K W P J ρ σ Hb' H' := by
  have E3 := (E.more (o := .own x) nd).more (o := .ins C dx []) (p := x) (by rw [upd_ne ne.symm]; exact nx)
  have only : ∀ i p, lentAt [0] (V.ref x :: vs) i p → p = x := fun i p ⟨hi, e⟩ => by
    have : i = 0 := by simpa using hi
    subst this
    have e : (some (V.ref x) : Option V) = some (.ref p) := e
    cases e; rfl
  refine ⟨E4.sub, E3.stp.trans E4.stp fun i p h => .inr (by rw [only i p h]; exact E.stp.al x nx), E.len, fun i d g nP nJ => ?_, fun i d hi g => ?_, E.sep⟩
  · obtain ⟨v, e, is⟩ := E.val i d g nP nJ
    exact ⟨v, e, is.mono E4.stp.hb⟩
  · obtain ⟨q, e, nb, c, h1, h2⟩ := E3.cel i d hi g
    obtain ⟨_, _, _, c0, _⟩ := E.cel i d hi g
    obtain ⟨q', e', _, c0, _⟩ := E.cel i d hi g
    rw [e] at e'; cases e'
    obtain ⟨u, hu⟩ := c0.some
    have qx : q ≠ x := ne_of_none hu nx
    have keep : ∀ o, upd (upd H dx (.own x)) x (.ins C dx []) q = some o → H' q = some o := fun o ho => E4.stp.fr q o ho fun k hk => qx (only k q hk)
    refine ⟨q, e, ?_, c.mono E4.stp.hb keep, h1, h2⟩
    cases z : Hb' q with
    | none => rfl
    | some o =>
      rcases E4.stp.fs q o z with r | r
      · have r : Hb q = some o := r
        rw [nb] at r; cases r
      · have r : upd (upd H dx (.own x)) x (.ins C dx []) q = none := r
        rw [upd_ne qx, upd_ne (ne_of_none hu nd)] at r
        rw [hu] at r; cases r
end
section
variable {X : Cx} {Wx : WX} {P I J : List Nat} {e : Expr} {es : List Expr} {A : FA} {pos p : Pos} {k : Nat} {f : Addr} {G : DFn} {y : Str} {tA : TA} {C : Addr} {n : Str} {m : Nat}
theorem make_core {t : TA} (hc : IsCl X.K n C) (hPJ : ∀ j ∈ J, j ∉ P)
    (ka : ∀ (W : Wd) (ρ : Env) (σ : St) (Hb H : Hp) (Q : List V → Hp → Prop) (post : List D → Env → Prop) (xp : XP), EnvOk X.K W P I ρ σ Hb H → A ρ post xp → XOk X Wx W P σ xp →
    (∀ ds ρ' vs Hb' H', post ds ρ' → EnvOk X.K W P J ρ' σ Hb' H' → Sub Hb Hb' → IsL X.K Hb' vs ds → Q vs H') → t σ H Q) :
    ∀ (W : Wd) (ρ : Env) (σ : St) (Hb H : Hp) (Q : VK) (post : Post) (xp : XP), EnvOk X.K W P I ρ σ Hb H → fMake n m G A ρ post xp → XOk X Wx W P σ xp →
    (∀ d ρ' p Hb' H', post d ρ' → EnvOk X.K W P J ρ' σ Hb' H' → Sub Hb Hb' → NewAt X.K W P J ρ' σ Hb' H' p d → Q (.ref p) H') → tMakeG C (spD X.K m [0] G) (WE Wx) t σ H Q := by
  intro W ρ σ Hb H Q post xp E h x q
  refine ka W ρ σ Hb H _ _ xp E h x fun ds ρ1 vs Hb1 H1 f1 E1 s1 l1 a dx nx nd ne => ?_
  obtain ⟨hm, f1⟩ := f1
  refine ⟨by rw [List.length_cons, l1.length]; exact hm, _, Hb1, _, _, made_env E1 hc nx nd ne l1, f1, fun d ρ' v Hb' H' p1 E4 is => ?_, fun c ρ' cls dx' Hb' H' p1 E4 xi => ?_⟩
  · obtain ⟨e, fs, g, p1⟩ := p1
    subst e
    obtain ⟨p', ep, nb, c, _, _⟩ := E4.cel 0 _ (.inl (List.mem_singleton.mpr rfl)) g
    have ep : (some (some (V.ref a)) : Option (Option V)) = some (some (.ref p')) := ep
    cases ep
    refine ⟨is_non is, q _ _ _ _ _ p1 (made_back E1 nx nd ne E4) (s1.trans E4.stp.hb) ⟨nb, c, E1.stp.al a nx, fun i hi gi ei => ?_⟩⟩
    cases z : get ρ1 i with
    | none => exact gi z
    | some d0 =>
      obtain ⟨p', ep, _, c0, _⟩ := E1.cel i d0 hi z
      rw [ei] at ep; cases ep
      obtain ⟨o, ho⟩ := c0.some
      rw [nx] at ho; cases ho
  · obtain ⟨Hb3, E5, s5⟩ := (made_back E1 nx nd ne E4).drop (J := []) (fun j q => by cases q) hPJ
    refine x c _ cls dx' Hb3 H' p1 E5 ?_
    obtain ⟨e, r | ⟨d, us, e1, e2, e3, e4⟩⟩ := xi
    · exact ⟨e, .inl r⟩
    · exact ⟨e, .inr ⟨d, us, e1, s5 _ _ e2, e3, e4.mono s5⟩⟩
theorem dn_makeG {fi : Addr} (M : Mk X.K C fi) (hc : IsCl X.K n C) (Fn : FnG X.prog X.w X.K X.mg X.base k fi (spD X.K m [0] G)) (hr : Room (k + 1) X.A) (hgu : X.A.guards = some []) (hm : X.mg y = some (.ref C)) (tk : Takes X Wx) (ha : DA X Wx P I (e :: es) tA A J)
    (hPJ : ∀ j ∈ J, j ∉ P := by decide) (hg : Gl X y := by rfl) (hdb : (y == ("__debug__" : Str)) = false := by decide) (he : starEach (e :: es) X.env = (false, eval e X.env) :: starEach es X.env := by rfl) (hpl : (backTo pos (starEach es X.env)).any (·.1) = false := by rfl) :
    DNw X Wx P I (.Call (.Name y p) (e :: es) [] pos) (tMakeG C (spD X.K m [0] G) (WE Wx) tA) (fMake n m G A) J :=
  ⟨pe_makeG M Fn hr hgu hg hm (fun σ => passAt tk σ) ha.pe hdb he hpl, make_core hc hPJ ha.ev⟩
theorem dn_makeG0 {fi : Addr} (M : Mk X.K C fi) (hc : IsCl X.K n C) (Fn : FnG X.prog X.w X.K X.mg X.base k fi (spD X.K m [0] G)) (hr : Room (k + 1) X.A) (hgu : X.A.guards = some []) (hm : X.mg y = some (.ref C)) (tk : Takes X Wx)
    (hPJ : ∀ j ∈ I, j ∉ P := by decide) (hg : Gl X y := by rfl) (hdb : (y == ("__debug__" : Str)) = false := by decide) :
    DNw X Wx P I (.Call (.Name y p) [] [] pos) (tMakeG C (spD X.K m [0] G) (WE Wx) tNil) (fMake n m G fNil) I :=
  ⟨pe_makeG0 M Fn hr hgu hg hm (fun σ => passAt tk σ) hdb, make_core hc hPJ (da_nil (X := X) (Wx := Wx)).ev⟩
end

/-! ### def f(a, .., *rest) -/
/-- the promise by the flat values: those behind the first j are one tuple -/
def spStar (j : Nat) (sp : Sp) : Sp := fun vs H Q E => ∃ ws rest, vs = ws ++ rest ∧ ws.length = j ∧ rest.length ≤ sizeLine ∧ ∀ p, H p = none → sp (ws ++ [V.ref p]) (upd H p (.tup rest)) Q E
section
variable {P : Program} {w : World} {K : PySem.W.Frag} {mg : Str → Option Value} {base : Heap} {k : Nat} {f : Addr} {sp : Sp}
theorem fnG_star {x qual : Str} {st : Stmt} {fd : FuncData} {N ps : List Str} {pv : Str} (F : Fun K x qual st f fd) (S : FnScope N (ps ++ [pv]) (defScope st))
    (B : ∀ us rest : List Value, us.length = ps.length → bindArgs fd ⟨us ++ rest, []⟩ = (newTuple rest >>= fun t => pure (ps.zip us ++ [(pv, t)])))
    (body : ∀ (cdv : Value) (A : Around) (o : List PySem.Env) (s : Shared) (H : Hp) (vs : List V) (Q : VK) (E : XK), Room k (A.deeper (envOfC qual (defScope st) s.heap.objs.size f cdv)) → A.guards = some [] → sp vs H Q E →
      ∃ t, PSs (cxOf (L2.CX P w) P w K mg base N qual (defScope st) f cdv A o s H E) (defBody st) t ∧ t { nx := fun _ H' => Q .non H', rt := Q } (L2.start N vs) H) : FnG P w K mg base (k + 1) f (spStar ps.length sp) := by
  intro A o s H us vs Q E room hg ev rel hsp
  obtain ⟨ws, rest, rfl, lw, lr, hq⟩ := hsp
  obtain ⟨u1, u2, rfl, r1, r2⟩ := StX.vals_split rel
  obtain ⟨oc, od, kV, doc, pm, an, cdv, ct, osl, rfl, lk, hcd⟩ := F.ex
  have n1 : u1.length = ps.length := by rw [← r1.length]; exact lw
  have fresh : H s.heap.objs.size = none := ev.hok.fresh (Nat.le_refl _)
  refine StX.run_bnd (CX := L2.CX P w) lk hcd S room ev (G := fun xs H2 => ∃ p, H p = none ∧ xs = ws ++ [V.ref p] ∧ H2 = upd H p (.tup rest)) (fun A' Ex Q' h => ?_) fun s2 H2 xs ⟨p, hp, ex, eH⟩ room' => ?_
  · rw [B u1 u2 n1]
    refine wpAny_bind (wpAny_newTuple (wpAny_pure ?_) (by rw [← r2.length]; exact lr))
    let ob : Obj := { cls := .type "tuple", data := .seq u2.toArray }
    have new : ObjOk P w (upd H s.heap.objs.size (.tup rest)) (s.heap.push ob) s.heap.objs.size (.tup rest) := ⟨lr, u2, r2, ⟨_, Heap.get?_push_size _ rfl, rfl, _, rfl⟩⟩
    have un := StX.un_laid (fs := frs o) (s := s) (o := ob) (u := .tup rest) fresh
    have done := h _ _ (ws ++ [V.ref s.heap.objs.size]) (u1 ++ [Value.ref s.heap.objs.size]) (StX.env0_laid ev new) un rfl (fun e s' => StX.cxUp o s H _ _ E e s' un (fun b o q => Heap.get?_push_of_some _ q) rfl) (r1.append (.cons rfl .nil))
      (by simp [lw]) ⟨_, fresh, rfl, rfl⟩
    rw [List.zip_append n1.symm] at done
    exact done
  · subst ex eH
    exact body cdv A o s2 _ _ Q E room' hg (hq p hp)
end
end DL

/-! DG3: star defs over data, in by an own __contains__, isinstance of own classes. -/
namespace DL
open PySem L2
open PyProof.Rows hiding St

/-! ### star defs -/
section
variable {P : Program} {w : World} {K : PySem.W.Frag} {mg : Str → Option Value} {base : Heap}
theorem okGS_of {x qual : Str} {st : Stmt} {f : Addr} {fd : FuncData} {N ps : List Str} {pv : Str} {k n : Nat} {io : List Nat} {J : List Nat} {G : DFn} {Fd : FS} (F : Fun K x qual st f fd)
    (B : ∀ us rest : List Value, us.length = ps.length → bindArgs fd ⟨us ++ rest, []⟩ = (newTuple rest >>= fun t => pure (ps.zip us ++ [(pv, t)]))) (S : FnScope N (ps ++ [pv]) (defScope st))
    (hb : ∀ (cdv : Value) (A : Around) (outer : List PySem.Env) (s : Shared) (H : Hp) (E : XK), Room k (A.deeper (envOfC qual (defScope st) s.heap.objs.size f cdv)) → A.guards = some [] →
      DSs (cxOf (L2.CX P w) P w K mg base N qual (defScope st) f cdv A outer s H E) (WofE E) io [] [] (defBody st) Fd J)
    (hg : ∀ (ρ : DL.Env) (post : Post) (xp : XP), ρ.length = n → G ρ post xp → Fd (ρ ++ List.replicate (N.length - n) none) (endS io n post xp)) : FnG P w K mg base (k + 1) f (spStar ps.length (spD K n io G)) := by
  refine fnG_star F S B fun cdv A outer s H vs Q E hr gu h => ?_
  obtain ⟨hl, ρ, Hb, post, xp, E0, g, q1, q2⟩ := h
  obtain ⟨t, pt, kt⟩ := (hb cdv A outer s H E hr gu).run
  refine ⟨t, pt, ?_⟩
  have hρ : ρ.length = n := by rw [← E0.len, List.length_map, hl]
  have e1 : L2.start N vs = vs.map some ++ List.replicate (N.length - n) none := by unfold L2.start; rw [hl]
  rw [e1]
  refine kt ⟨Hb, H, lentAt io vs⟩ _ _ Hb H _ _ E0.entry (hg ρ post xp hρ g) ⟨fun ρ' σ' Hb' H' a E' s' => ?_, fun d ρ' σ' v Hb' H' a E' is => ?_, fun _ _ _ _ a => a.elim, fun _ _ _ _ a => a.elim, fun c ρ' cls dx σ' Hb' H' a E' xi => ?_⟩
  · exact q1 _ _ _ _ _ a (E'.masked hl) .non
  · exact q1 _ _ _ _ _ a (E'.masked hl) is
  · exact q2 _ _ _ _ _ _ a (E'.masked hl) xi
end
@[simp ↓] def fMakeS (n : Str) (G : DFn) (A : FA) : FE := fun ρ post xp => A ρ (fun ds ρ1 => ds.length ≤ 1000 ∧ callD G [some (.obj n []), some (.tup ds)] (fun d r => d = .non ∧ ∃ fs, get r 0 = some (.obj n fs) ∧ post (.obj n fs) ρ1) (fun c _ => xp c ρ1) .mk) xp
section
variable {X : Cx} {Wx : WX} {P I J J1 : List Nat} {a b e : Expr} {es : List Expr} {A : FA} {pos p : Pos} {k : Nat} {f : Addr} {G : DFn} {y : Str} {tA : TA} {ta tb : TE} {C : Addr} {n : Str} {m : Nat} {Fa Fb : FE}
theorem makeS_core {t : TA} (hc : IsCl X.K n C) (hPJ : ∀ j ∈ J, j ∉ P)
    (ka : ∀ (W : Wd) (ρ : Env) (σ : St) (Hb H : Hp) (Q : List V → Hp → Prop) (post : List D → Env → Prop) (xp : XP), EnvOk X.K W P I ρ σ Hb H → A ρ post xp → XOk X Wx W P σ xp →
    (∀ ds ρ' vs Hb' H', post ds ρ' → EnvOk X.K W P J ρ' σ Hb' H' → Sub Hb Hb' → IsL X.K Hb' vs ds → Q vs H') → t σ H Q) :
    ∀ (W : Wd) (ρ : Env) (σ : St) (Hb H : Hp) (Q : VK) (post : Post) (xp : XP), EnvOk X.K W P I ρ σ Hb H → fMakeS n G A ρ post xp → XOk X Wx W P σ xp →
    (∀ d ρ' p Hb' H', post d ρ' → EnvOk X.K W P J ρ' σ Hb' H' → Sub Hb Hb' → NewAt X.K W P J ρ' σ Hb' H' p d → Q (.ref p) H') → tMakeG C (spStar 1 (spD X.K 2 [0] G)) (WE Wx) t σ H Q := by
  intro W ρ σ Hb H Q post xp E h x q
  refine ka W ρ σ Hb H _ _ xp E h x fun ds ρ1 vs Hb1 H1 f1 E1 s1 l1 a dx nx nd ne => ?_
  obtain ⟨hm, f1⟩ := f1
  refine ⟨[.ref a], vs, rfl, rfl, by rw [l1.length]; exact Nat.le_trans hm (by decide), fun pt ft => ?_⟩
  -- the tuple first, as plain data of the caller
  have fa : pt ≠ a := fun z => by subst z; rw [upd_same] at ft; cases ft
  have fd : pt ≠ dx := fun z => by subst z; rw [upd_ne ne, upd_same] at ft; cases ft
  have f1n : H1 pt = none := by rw [upd_ne fa, upd_ne fd] at ft; exact ft
  have Et := E1.alloc (o := .tup vs) f1n
  have nbt : Hb1 pt = none := E1.sub.none f1n
  have lt : IsL X.K (upd Hb1 pt (.tup vs)) [V.ref pt] [D.tup ds] := .cons (.tup upd_same (l1.mono (Sub.new nbt))) .nil
  have nx' : upd H1 pt (.tup vs) a = none := by rw [upd_ne fa.symm]; exact nx
  have nd' : upd H1 pt (.tup vs) dx = none := by rw [upd_ne fd.symm]; exact nd
  have comm : upd (upd (upd H1 dx (.own a)) a (.ins C dx [])) pt (.tup vs) = upd (upd (upd H1 pt (.tup vs)) dx (.own a)) a (.ins C dx []) := by
    funext z
    by_cases z1 : z = pt
    · subst z1; rw [upd_same, upd_ne fa, upd_ne fd, upd_same]
    · by_cases z2 : z = a
      · subst z2; rw [upd_ne z1, upd_same, upd_same]
      · by_cases z3 : z = dx
        · subst z3; rw [upd_ne z1, upd_ne z2, upd_same, upd_ne z2, upd_same]
        · rw [upd_ne z1, upd_ne z2, upd_ne z3, upd_ne z2, upd_ne z3, upd_ne z1]
  show spD X.K 2 [0] G [V.ref a, V.ref pt] _ _ _
  rw [comm]
  refine ⟨rfl, _, _, _, _, made_env Et hc nx' nd' ne lt, f1, fun d ρ' v Hb' H' p1 E4 is => ?_, fun c ρ' cls dx' Hb' H' p1 E4 xi => ?_⟩
  · obtain ⟨e, fs, g, p1⟩ := p1
    subst e
    obtain ⟨p', ep, nb, c, _, _⟩ := E4.cel 0 _ (.inl (List.mem_singleton.mpr rfl)) g
    have ep : (some (some (V.ref a)) : Option (Option V)) = some (some (.ref p')) := ep
    cases ep
    refine ⟨is_non is, q _ _ _ _ _ p1 (made_back Et nx' nd' ne E4) ((s1.trans (Sub.new nbt)).trans E4.stp.hb) ⟨nb, c, E1.stp.al a nx, fun i hi gi ei => ?_⟩⟩
    cases z : get ρ1 i with
    | none => exact gi z
    | some d0 =>
      obtain ⟨p', ep, _, c0, _⟩ := E1.cel i d0 hi z
      rw [ei] at ep; cases ep
      obtain ⟨o, ho⟩ := c0.some
      rw [nx] at ho; cases ho
  · obtain ⟨Hb3, E5, s5⟩ := (made_back Et nx' nd' ne E4).drop (J := []) (fun j q => by cases q) hPJ
    refine x c _ cls dx' Hb3 H' p1 E5 ?_
    obtain ⟨e, r | ⟨d, us, e1, e2, e3, e4⟩⟩ := xi
    · exact ⟨e, .inl r⟩
    · exact ⟨e, .inr ⟨d, us, e1, s5 _ _ e2, e3, e4.mono s5⟩⟩
theorem dn_makeS {fi : Addr} (M : Mk X.K C fi) (hc : IsCl X.K n C) (Fn : FnG X.prog X.w X.K X.mg X.base k fi (spStar 1 (spD X.K 2 [0] G))) (hr : Room (k + 1) X.A) (hgu : X.A.guards = some []) (hm : X.mg y = some (.ref C)) (tk : Takes X Wx) (ha : DA X Wx P I (e :: es) tA A J)
    (hPJ : ∀ j ∈ J, j ∉ P := by decide) (hg : Gl X y := by rfl) (hdb : (y == ("__debug__" : Str)) = false := by decide) (he : starEach (e :: es) X.env = (false, eval e X.env) :: starEach es X.env := by rfl) (hpl : (backTo pos (starEach es X.env)).any (·.1) = false := by rfl) :
    DNw X Wx P I (.Call (.Name y p) (e :: es) [] pos) (tMakeG C (spStar 1 (spD X.K 2 [0] G)) (WE Wx) tA) (fMakeS n G A) J :=
  ⟨pe_makeG M Fn hr hgu hg hm (fun σ => passAt tk σ) ha.pe hdb he hpl, makeS_core hc hPJ ha.ev⟩
theorem dn_makeS0 {fi : Addr} (M : Mk X.K C fi) (hc : IsCl X.K n C) (Fn : FnG X.prog X.w X.K X.mg X.base k fi (spStar 1 (spD X.K 2 [0] G))) (hr : Room (k + 1) X.A) (hgu : X.A.guards = some []) (hm : X.mg y = some (.ref C)) (tk : Takes X Wx)
    (hPJ : ∀ j ∈ I, j ∉ P := by decide) (hg : Gl X y := by rfl) (hdb : (y == ("__debug__" : Str)) = false := by decide) :
    DNw X Wx P I (.Call (.Name y p) [] [] pos) (tMakeG C (spStar 1 (spD X.K 2 [0] G)) (WE Wx) tNil) (fMakeS n G fNil) I :=
  ⟨pe_makeG0 M Fn hr hgu hg hm (fun σ => passAt tk σ) hdb, makeS_core hc hPJ (da_nil (X := X) (Wx := Wx)).ev⟩

/-! ### x in o, o with an own __contains__ in which nothing is raised -/
def rInOwn (C : Addr) (sp : Sp) (neg : Bool) : R2 := fun x y H Q => ∃ a dx fs, y = .ref a ∧ H a = some (.ins C dx fs) ∧ sp [.ref a, x] H (fun z H2 => ∃ b, z = .bl b ∧ Q (.bl (neg != b)) H2) fun _ _ _ => False
theorem op_inOwn {sp : Sp} (M : Meth X.K C "__contains__" f) (F : FnG X.prog X.w X.K X.mg X.base k f sp) (hr : Room k X.A) (hgu : X.A.guards = some []) : OpR X (compareOp .In) (rInOwn C sp false) := by
  intro pins s σ H x y v u Q I rx ry h
  obtain ⟨a, dx, fs, rfl, ha, hs⟩ := h
  have eu : u = Value.ref a := ry
  subst eu
  obtain ⟨mA, O, _⟩ := ins_get I.hok ha
  obtain ⟨od, J, _⟩ := O.look
  obtain ⟨m, fr⟩ := I.fr
  refine PySem.W.in_K fr I.ok.mod.kin J M.at_ M.fn (wpAny_call (codeAny_mono (F X.A X.stack s H [.ref a, v] [.ref a, x] _ _ hr hgu I.env0 (.cons rfl (.cons rx .nil)) hs) fun res s2 q => ?_))
  cases res with
  | error er => exact (cx_no q).elim
  | ok fl =>
    cases fl with
    | ret u =>
      obtain ⟨z, H3, I3, rz, b, ez, q3⟩ := I.after q
      subst ez
      have ez : u = Value.bool b := rz
      subst ez
      exact wpAny_truthy_bool ⟨.bl b, H3, I3, rfl, by simpa using q3⟩
    | next => exact q.elim
    | brk => exact q.elim
    | cont => exact q.elim
theorem op_notInOwn {sp : Sp} (M : Meth X.K C "__contains__" f) (F : FnG X.prog X.w X.K X.mg X.base k f sp) (hr : Room k X.A) (hgu : X.A.guards = some []) : OpR X (compareOp .NotIn) (rInOwn C sp true) := by
  intro pins s σ H x y v u Q I rx ry h
  obtain ⟨a, dx, fs, rfl, ha, hs⟩ := h
  have eu : u = Value.ref a := ry
  subst eu
  obtain ⟨mA, O, _⟩ := ins_get I.hok ha
  obtain ⟨od, J, _⟩ := O.look
  obtain ⟨m, fr⟩ := I.fr
  refine PySem.W.notIn_K fr I.ok.mod.kin J M.at_ M.fn (wpAny_call (codeAny_mono (F X.A X.stack s H [.ref a, v] [.ref a, x] _ _ hr hgu I.env0 (.cons rfl (.cons rx .nil)) hs) fun res s2 q => ?_))
  cases res with
  | error er => exact (cx_no q).elim
  | ok fl =>
    cases fl with
    | ret u =>
      obtain ⟨z, H3, I3, rz, b, ez, q3⟩ := I.after q
      subst ez
      have ez : u = Value.bool b := rz
      subst ez
      exact wpAny_truthy_bool ⟨.bl (!b), H3, I3, rfl, by simpa using q3⟩
    | next => exact q.elim
    | brk => exact q.elim
    | cont => exact q.elim
@[simp ↓] def fInOwn (n : Str) (neg : Bool) (G : DFn) (Fa Fb : FE) : FE := fun ρ post xp => Fa ρ (fun x ρ1 => Fb ρ1 (fun o ρ2 => (∃ fs, o = .obj n fs) ∧ callD G [some o, some x] (fun z _ => gB z fun b => post (.bl (neg != b)) ρ2) noX .mk) xp) xp
theorem inOwn_core (hc : IsCl X.K n C) (neg : Bool) (ha : DE X Wx P I a ta Fa J1) (hb : DE X Wx P J1 b tb Fb J) : ∀ (W : Wd) (ρ : Env) (σ : St) (Hb H : Hp) (Q : VK) (post : Post) (xp : XP), EnvOk X.K W P I ρ σ Hb H → fInOwn n neg G Fa Fb ρ post xp → XOk X Wx W P σ xp →
    (∀ d ρ' v Hb' H', post d ρ' → EnvOk X.K W P J ρ' σ Hb' H' → Sub Hb Hb' → Is X.K Hb' v d → Q v H') → tOp (rInOwn C (spD X.K 2 [] G) neg) ta tb σ H Q := by
  intro W ρ σ Hb H Q post xp E f x q
  refine ha.ev W ρ σ Hb H _ _ xp E f x fun d ρ1 v Hb1 H1 f1 E1 s1 i1 => ?_
  refine hb.ev W ρ1 σ Hb1 H1 _ _ xp E1 f1 x fun d2 ρ2 v2 Hb2 H2 f2 E2 s2 i2 => ?_
  obtain ⟨⟨fs, e⟩, f2⟩ := f2
  subst e
  obtain ⟨a, C', dx, vs, rfl, hc', hh, e1, l1⟩ := o_obj E2.sub (.inl i2)
  obtain rfl := hc.eq hc'
  have ar : Args X.K Hb2 σ [none, none] [V.ref a, v] [some (.obj n fs), some d] := ⟨⟨_, rfl, i2⟩, ⟨_, rfl, i1.mono s2⟩, trivial⟩
  have hsl : ∀ j ∈ slots [none, none], j ∈ P ∨ j ∈ J := fun j h => by simp [slots] at h
  have hl : ∀ j ∈ slots [none, none], get ρ2 j ≠ none := fun j h => by simp [slots] at h
  refine ⟨a, dx, vs, rfl, hh, rfl, [some (.obj n fs), some d], Hb2, _, _, E2.lend ar hsl (by simp [slots]) hl, f2, fun z ρ' v Hb' H' p1 E4 is => ?_, fun c ρ' cls dx Hb' H' p1 => p1.elim⟩
  have E3 := E2.given ar hsl (by simp [slots]) hl E4 rfl
  have eu : unfill [none, none] ρ' ρ2 = ρ2 := by
    cases ρ' with
    | nil => rfl
    | cons a r => cases r <;> rfl
  rw [eu] at E3
  cases z <;> first | exact p1.elim | skip
  exact ⟨_, is_bl is, q _ _ _ _ _ p1 E3 ((s1.trans s2).trans E4.stp.hb) (.bl _)⟩
theorem de_inOwn (hc : IsCl X.K n C) (M : Meth X.K C "__contains__" f) (F : FnG X.prog X.w X.K X.mg X.base k f (spD X.K 2 [] G)) (hr : Room k X.A) (hgu : X.A.guards = some []) (ha : DE X Wx P I a ta Fa J1) (hb : DE X Wx P J1 b tb Fb J) (hm : behindInMarks .In b = false := by first | exact nomark _ | rfl) :
    DE X Wx P I (.Compare a [.In] [b] pos) (tOp (rInOwn C (spD X.K 2 [] G) false) ta tb) (fInOwn n false G Fa Fb) J := de_of (pe_cmpR (op_inOwn M F hr hgu) ha.pe hb.pe hm) (inOwn_core hc false ha hb)
theorem de_notInOwn (hc : IsCl X.K n C) (M : Meth X.K C "__contains__" f) (F : FnG X.prog X.w X.K X.mg X.base k f (spD X.K 2 [] G)) (hr : Room k X.A) (hgu : X.A.guards = some []) (ha : DE X Wx P I a ta Fa J1) (hb : DE X Wx P J1 b tb Fb J) (hm : behindInMarks .NotIn b = false := by first | exact nomark _ | rfl) :
    DE X Wx P I (.Compare a [.NotIn] [b] pos) (tOp (rInOwn C (spD X.K 2 [] G) true) ta tb) (fInOwn n true G Fa Fb) J := de_of (pe_cmpR (op_notInOwn M F hr hgu) ha.pe hb.pe hm) (inOwn_core hc true ha hb)
theorem dt_inOwn (neg : Bool) {op : CmpOp} (hop : OpR X (compareOp op) (rInOwn C (spD X.K 2 [] G) neg)) (hc : IsCl X.K n C) (ha : DE X Wx P I a ta Fa J1) (hb : DE X Wx P J1 b tb Fb J) (hm : behindInMarks op b = false := by first | exact nomark _ | rfl) :
    DT X Wx P I (.Compare a [op] [b] pos) (tTest (tOp (rInOwn C (spD X.K 2 [] G) neg) ta tb)) (fTest (fInOwn n neg G Fa Fb)) J := by
  refine dt_of (pt_cmpR hop ha.pe hb.pe hm) fun W ρ σ Hb H Q post xp E f x q => inOwn_core hc neg ha hb W ρ σ Hb H _ _ xp E f x fun d ρ1 v Hb1 H1 f1 E1 s1 i1 => ?_
  cases d <;> first | exact f1.elim | skip
  exact ⟨_, is_bl i1, q _ _ _ _ f1 E1 s1⟩
end
end DL

/-! DG4: while by a measure; numbers. -/
namespace DL
open PySem L2
theorem while_fuel {T : FT} {B : FS} {S : SPo} (Inv : Nat → Env → Prop)
    (h : ∀ m ρ (N : Env → Prop), (∀ m' ρ', m' < m → Inv m' ρ' → N ρ') → Inv m ρ → T ρ (fun b ρ1 => if b = true then B ρ1 (S.lp N) else S.nx ρ1) S.ex) :
    ∀ k m ρ, m < k → Inv m ρ → whileN T B S k ρ
  | 0, _, _, hm, _ => by omega
  | k + 1, m, ρ, hm, i => h m ρ (whileN T B S k) (fun m' ρ' hl i' => while_fuel Inv h k m' ρ' (by omega) i') i
/-- a while loop by an invariant with a measure -/
theorem while_meas {T : FT} {B : FS} {S : SPo} (Inv : Nat → Env → Prop)
    (h : ∀ m ρ (N : Env → Prop), (∀ m' ρ', m' < m → Inv m' ρ' → N ρ') → Inv m ρ → T ρ (fun b ρ1 => if b = true then B ρ1 (S.lp N) else S.nx ρ1) S.ex)
    {m : Nat} {ρ : Env} (i : Inv m ρ) : ∃ n, whileN T B S n ρ := ⟨m + 1, while_fuel Inv h (m + 1) m ρ (by omega) i⟩
theorem fmod_abs {a b : Int} (h : b ≠ 0) : (a.fmod b).natAbs < b.natAbs := by
  by_cases hb : 0 < b
  · have h1 := fmod_nn (i := a) hb
    have h2 := fmod_lt (i := a) hb
    omega
  · have hb' : 0 < -b := by omega
    have e := Int.neg_fmod_neg (-a) (-b)
    rw [Int.neg_neg, Int.neg_neg] at e
    have h1 := fmod_nn (i := -a) hb'
    have h2 := fmod_lt (i := -a) hb'
    rw [e]
    omega
theorem gcd_fmod (a b : Int) : Int.gcd b (a.fmod b) = Int.gcd a b := by
  rw [Int.fmod_def, Int.gcd_sub_mul_left_right, Int.gcd_comm]
/-- return x, x a slot that owns its cell: handed on as plain data -/
theorem ds_retO {X : Cx} {Wx : WX} {P L I J1 : List Nat} {p pos : Pos} (i : Nat) {x : Str} (hP : i ∉ P := by decide) (hPI : ∀ j ∈ I, j ∉ P := by decide) (hN : X.N[i]? = some x := by rfl) (hv : Vis X.env.scope x := by first | exact Or.inl rfl | exact Or.inr (Or.inl rfl) | exact Or.inr (Or.inr rfl)) (hd : (x == ("__debug__" : Str)) = false := by decide)
    (hcd : (x == ("__classdict__" : Str)) = false := by decide) : DS X Wx P L I (.Return (some (.Name x p)) pos) (fRet (fVar i)) J1 :=
  ⟨_, ps_ret (pe_var hN hv hd hcd), fun W ρ σ Hb H D S E f q => by
    unfold fRet fVar at f
    split at f
    · rename_i d g
      obtain ⟨Hb2, E2, s2⟩ := E.drop (J := []) (fun j q => by cases q) hPI
      obtain ⟨v, e, is⟩ := E2.val i d g hP (by simp)
      exact ⟨v, e, q.rt _ _ _ _ _ _ f E2 is⟩
    · exact f.elim⟩
end DL

/-! DG5: code that is never reached, constants of classes, C(*xs), tuple > tuple. -/
namespace DL
open PySem L2 ClX
open PyProof.Rows hiding St
/-- never reached -/
def fDead : FE := fun _ _ _ => False
def fDeadS : FS := fun _ _ => False
section
variable {X : Cx} {Wx : WX} {P L I J J1 J2 : List Nat} {e a b : Expr} {es : List Expr} {F Fa Fb : FE} {A : FA} {pos p apos : Pos} {k : Nat} {f : Addr} {G : DFn} {x m y n : Str} {ta tb : TE} {tA : TA} {C : Addr} {st : Stmt}
theorem de_dead : DE X Wx P I e (fun _ _ _ => False) fDead J := de_of ⟨fun _ _ _ _ _ _ h => h.elim⟩ fun _ _ _ _ _ _ _ _ _ f => f.elim
theorem ds_dead : DS X Wx P L I st fDeadS J := ⟨_, ⟨fun _ _ _ _ _ _ h => (show False from h).elim⟩, fun _ _ _ _ _ _ _ _ f => (show False from f).elim⟩
/-- the constant of a class -/
theorem de_ccon {i : Int} {mc u : Value} (hm : X.mg x = some (.ref C)) (cr : CRead X.K C mc) (cv : CVal X.K C mc m (.int i) u) (hg : Gl X x := by rfl) (hdb : (x == ("__debug__" : Str)) = false := by decide) (hab : attributeBase (.Name x p) m X.env (eval (.Name x p) X.env) = eval (.Name x p) X.env := by rfl) :
    DE X Wx P I (.Attribute (.Name x p) m pos) (tCVal X.K (tC (.ref C)) m) (fC (.int i)) I :=
  de_of (pe_cval (pe_glob hg hm rfl hdb) hab) fun W ρ σ Hb H Q post xp E f _ q => ⟨C, mc, .int i, u, rfl, cr, cv, q _ _ _ _ _ f E (Sub.refl _) (.int i)⟩
end
section
variable {X : Cx} {k : Nat} {C f : Addr} {sp : Sp} {E : St → XK} {x : Str} {e : Expr} {p pos sp_ : Pos} {te : TE}
def tStar1 (K : PySem.W.Frag) (te : TE) : TA := fun σ H Q => te σ H fun y H1 => ∃ a xs, y = V.ref a ∧ (SqT K H1 a xs ∨ SqL K H1 a xs) ∧ Q xs H1
theorem pe_makeGS1 (M : Mk X.K C f) (F : FnG X.prog X.w X.K X.mg X.base k f sp) (hr : Room (k + 1) X.A) (hgu : X.A.guards = some []) (hg : Gl X x) (hm : X.mg x = some (.ref C)) (hx : ∀ σ, PassesAt (L2.CX X.prog X.w) X σ (E σ)) (he : PE X e te)
    (hdb : (x == ("__debug__" : Str)) = false := by decide) (hst : starEach [.Starred e sp_] X.env = [(true, eval e X.env)] := by rfl) :
    PE X (.Call (.Name x p) [.Starred e sp_] [] pos) (tMakeG C sp E (tStar1 X.K te)) := ⟨fun pins s σ H Q I h =>
  wpAny_Call_Name_kw (ld_glob I hg hm (PySem.W.callWith_S (h₀ := X.base) I.ok.mod.kin M.kp (thn (he.run pins s σ H _ I h) fun v s1 ⟨y, H1, I1, ry, a, xs, ey, hxs, q⟩ => by
    subst ey
    obtain rfl : v = Value.ref a := ry
    exact StX.star_any I1 hxs fun us s2 I2 rv => ⟨I2.kIn, run_makeG M F hr hgu hx I2 rv q⟩) hst) hdb)⟩
end
def fStar (F : FE) : FA := fun ρ post xp => F ρ (fun d ρ1 => ∃ es, (tupD d = some es ∨ lstD d = some es) ∧ post es ρ1) xp
section
variable {X : Cx} {Wx : WX} {P L I J J1 J2 : List Nat} {e a b : Expr} {es : List Expr} {F Fa Fb : FE} {A : FA} {pos p apos sp_ : Pos} {k : Nat} {f : Addr} {G : DFn} {x m y n : Str} {ta tb te : TE} {tA : TA} {C : Addr} {st : Stmt}
/-- C(*xs) -/
theorem dn_makeSS {fi : Addr} (M : Mk X.K C fi) (hc : IsCl X.K n C) (Fn : FnG X.prog X.w X.K X.mg X.base k fi (spStar 1 (spD X.K 2 [0] G))) (hr : Room (k + 1) X.A) (hgu : X.A.guards = some []) (hm : X.mg y = some (.ref C)) (tk : Takes X Wx) (ha : DE X Wx P I e te F J)
    (hPJ : ∀ j ∈ J, j ∉ P := by decide) (hg : Gl X y := by rfl) (hdb : (y == ("__debug__" : Str)) = false := by decide) (hst : starEach [.Starred e sp_] X.env = [(true, eval e X.env)] := by rfl) :
    DNw X Wx P I (.Call (.Name y p) [.Starred e sp_] [] pos) (tMakeG C (spStar 1 (spD X.K 2 [0] G)) (WE Wx) (tStar1 X.K te)) (fMakeS n G (fStar F)) J :=
  ⟨pe_makeGS1 M Fn hr hgu hg hm (fun σ => passAt tk σ) ha.pe hdb hst, makeS_core hc hPJ fun W ρ σ Hb H Q post xp E f x q => ha.ev W ρ σ Hb H _ _ xp E f x fun d ρ1 v Hb1 H1 f1 E1 s1 i1 => by
    obtain ⟨xs, hxs, f1⟩ := f1
    have i2 : IsO X.K Hb1 H1 v d := .inl i1
    obtain ⟨a, vs, e1, h1, l1⟩ := o_seqD E1.sub i2 hxs
    exact ⟨a, vs, e1, h1.symm, q _ _ _ _ _ f1 E1 s1 l1⟩⟩
end
/-! ### tuple > tuple -/
def rGtT (K : PySem.W.Frag) : R2 := fun x y H Q => ∃ (a b : Addr) (ns ms : List Int), x = .ref a ∧ y = .ref b ∧ SqT K H a (ns.map V.int) ∧ SqT K H b (ms.map V.int) ∧
  Q (.bl (Ob.lexAt (fun j => decide (ns.getD j 0 = ms.getD j 0)) (fun j => decide (ms.getD j 0 < ns.getD j 0)) (decide (ns.length > ms.length)) 0 (min ns.length ms.length))) H
theorem op_gtT {X : Cx} (hu : X.A.units < cLine) : OpR X (compareOp .Gt) (rGtT X.K) := by
  intro pins s σ H x y v u Q I rx ry h
  obtain ⟨a, b, ns, ms, rfl, rfl, ha, hb, q⟩ := h
  cases rx
  cases ry
  obtain ⟨its, r1, p1, _⟩ := I.tuple ha
  obtain ⟨its2, r2, p2, _⟩ := I.tuple hb
  have i1 : IntsAre its ns := Vals.ints r1
  have i2 : IntsAre its2 ms := Vals.ints r2
  have e1 : its.toArray.size = ns.length := by rw [List.size_toArray]; exact i1.length
  have e2 : its2.toArray.size = ms.length := by rw [List.size_toArray]; exact i2.length
  have at1 : ∀ j (h1 : j < its.toArray.size), ∃ t, its.toArray[j] = .int (ns.getD j 0) t := fun j h1 => PyProof.Rows.IntsAre.int_at i1 _ _ (by simp at h1; simp [h1])
  have at2 : ∀ j (h1 : j < its2.toArray.size), ∃ t, its2.toArray[j] = .int (ms.getD j 0) t := fun j h1 => PyProof.Rows.IntsAre.int_at i2 _ _ (by simp at h1; simp [h1])
  have R := Ob.RcOp.tuples_gt (A := X.A) (s := s) (e := fun j => decide (ns.getD j 0 = ms.getD j 0)) (r := fun j => decide (ms.getD j 0 < ns.getD j 0)) p1 p2 hu (fun j h1 h2 => by
    obtain ⟨t, et⟩ := at1 j h1
    obtain ⟨t', et'⟩ := at2 j h2
    rw [et, et']
    have z : (ns.getD j 0 == ms.getD j 0) = decide (ns.getD j 0 = ms.getD j 0) := by
      by_cases q : ns.getD j 0 = ms.getD j 0
      · rw [decide_eq_true q]; exact beq_iff_eq.mpr q
      · rw [decide_eq_false q]; exact beq_eq_false_iff_ne.mpr q
    rw [← z]
    exact SeqAt.EqAt.int_int _ _ _ _) (fun j h1 h2 _ => by
    obtain ⟨t, et⟩ := at1 j h1
    obtain ⟨t', et'⟩ := at2 j h2
    rw [et, et']
    exact Ob.RcOp.gt_int _ _ _ _)
  rw [e1, e2] at R
  have z : wpAny (model X.prog X.w) X.A (compareOp .Gt (.ref a) (.ref b)) (EP X pins σ Q) X.xe s := R X.prog X.w X.xe (EP X pins σ Q) ⟨.bl _, H, I, rfl, q⟩
  exact z
abbrev rGtU (K : PySem.W.Frag) : R2 := fun x y H Q => (rI0 fun i j => .bl (decide (j < i))) x y H Q ∨ rGtT K x y H Q
theorem op_gtU {X : Cx} (hu : X.A.units < cLine) : OpR X (compareOp .Gt) (rGtU X.K) := op_gt.or (op_gtT hu)
def gGtU : G2
  | .int i, .int j, k => k (.bl (decide (j < i)))
  | x, y, k => ∃ a b ns ms, tupD x = some a ∧ tupD y = some b ∧ dInts a = some ns ∧ dInts b = some ms ∧ k (.bl (Ob.lexAt (fun j => decide (ns.getD j 0 = ms.getD j 0)) (fun j => decide (ms.getD j 0 < ns.getD j 0)) (decide (ns.length > ms.length)) 0 (min ns.length ms.length)))
@[simp ↓] theorem gGtU_int (i j : Int) (k) : gGtU (.int i) (.int j) k = k (.bl (decide (j < i))) := rfl
theorem rv_gtU {K : PySem.W.Frag} : RV2 K (rGtU K) gGtU := fun Hb H x y dx dy k Q s ix iy g q => by
  unfold gGtU at g
  split at g
  · exact .inl ⟨_, _, o_int ix, o_int iy, q _ _ _ _ g .refl (.bl _)⟩
  · obtain ⟨a, b, ns, ms, e1, e2, e3, e4, g⟩ := g
    obtain ⟨p, h1, h2⟩ := tups_ints s ix e1 e3
    obtain ⟨p', h3, h4⟩ := tups_ints s iy e2 e4
    exact .inr ⟨p, p', ns, ms, h1, h3, h2, h4, q _ _ _ _ g .refl (.bl _)⟩
@[simp ↓] theorem gEqU_tup0 (a : List D) (k) : gEqU (.tup a) (.tup []) k = k (.bl (decide (a = []))) := by
  have e : empty2 (.tup a) (.tup []) = some (decide (a = [])) := by simp [empty2, List.length_eq_zero_iff]
  show (match empty2 (.tup a) (.tup []) with | some b => k (.bl b) | none => _) = _
  rw [e]
@[simp ↓] theorem gNeU_tup0 (a : List D) (k) : gNeU (.tup a) (.tup []) k = k (.bl (!decide (a = []))) := by
  have e : empty2 (.tup a) (.tup []) = some (decide (a = [])) := by simp [empty2, List.length_eq_zero_iff]
  show (match empty2 (.tup a) (.tup []) with | some b => k (.bl (!b)) | none => _) = _
  rw [e]
theorem gList_tup (a : List D) (k : D → Prop) (h : k (.lst a)) : gList [.tup a] k := ⟨_, _, rfl, .inl rfl, h⟩
theorem gList_lst (a : List D) (k : D → Prop) (h : k (.lst a)) : gList [.lst a] k := ⟨_, _, rfl, .inr rfl, h⟩
theorem gList_slst (a : List D) (k : D → Prop) (h : k (.lst a)) : gList [.slst a] k := ⟨_, _, rfl, .inr rfl, h⟩
end DL

/-! DG6: == and != by an own __eq__, either side. -/
namespace DE6
open PySem PySem.Spec PyProof.Rows PySem.SeqAt
section
variable {prog : Program} {w : World} {A : Around} {E : Value → Shared → Prop} {s : Shared} {K : PySem.W.Frag} {x C f : Addr} {ox : Obj} {od : Option Obj} {b tb : Value}
theorem ifBound_ne {M : Model} {args : List Value} {Q : Option Value → Shared → Prop} (X : K.In s.heap) (I : PySem.W.InstAt s.heap x ox C od) (hs : PySem.W.findIn K (.ref C) "__ne__" = some (some (.builtin "object.__ne__")))
    (h : wpAny M A (call (.builtin "object.__ne__") (.ref x :: args)) (fun v => Q (some v)) E s) : wpAny M A (callSpecialIfBound? (.ref x) "__ne__" args) Q E s := by
  simp only [callSpecialIfBound?, bindSpecialIfBound?]
  refine wpAny_holding (wpAny_bind (wpAny_bind (wpAny_bind (I.type.here ((PySem.W.looks_findIn X hs).here ?_)))))
  refine wpAny_bind (wpAny_askSetting (wpAny_ite ?_))
  have fin : wpAny M A (call (.builtin "object.__ne__") ([.ref x] ++ args) >>= fun v => pure (some v)) Q E s := wpAny_bind (wpAny_mono h (fun v s' h' => wpAny_pure h') fun _ _ h' => h')
  split
  · exact wpAny_bind (wpAny_of_eq (F.cmp_object.ne.bind _) (wpAny_pure (by exact fin)))
  · exact wpAny_tryCatch (wpAny_bind (wpAny_of_eq (F.cmp_object.ne.bind _) (wpAny_pure (by exact fin))))
theorem special_eqK {M : Model} {Q : Option Value → Shared → Prop} (X : K.In s.heap) (I : PySem.W.InstAt s.heap x ox C od) (hs : PySem.W.findIn K (.ref C) "__eq__" = some (some (.ref f))) (hf : PySem.W.isFn K (.ref f) = true)
    (h : wpAny M A (call (.ref f) [.ref x, b]) (fun v => Q (some v)) E s) : wpAny M A (callSpecialIfBound? (.ref x) "__eq__" [b]) Q E s := PySem.W.ifBound_K X I hs hf h
theorem entry_ne {Q : Fin → Shared → Prop} (X : K.In s.heap) (I : PySem.W.InstAt s.heap x ox C od) (hu : A.units < cLine) (hs : PySem.W.findIn K (.ref C) "__eq__" = some (some (.ref f))) (hf : PySem.W.isFn K (.ref f) = true)
    (h : wpAny (model prog w) A (call (.ref f) [.ref x, b]) (fun v s' => ∃ c : Bool, v = .bool c ∧ Q (.done (.ret (.bool (!c)))) s') E s) : wpAny (model prog w) A (Builtin.«object.__ne__» ⟨[.ref x, b], []⟩) Q E s := by
  unfold Builtin.«object.__ne__»
  repeat (first | with_reducible refine wpAny_cRoomFor hu ?_ | with_reducible refine special_eqK X I hs hf ?_ | with_reducible refine wpAny_mono h ?_ fun _ _ e => e | wp_step)
  rintro v s' ⟨c, rfl, q⟩
  exact wpAny_bind (wpAny_truthy_bool (wpAny_pure q))
theorem call_ne {Q : Value → Shared → Prop} (X : K.In s.heap) (I : PySem.W.InstAt s.heap x ox C od) (hm : PySem.W.mroIn K C (.type "object") = some true) (hu : A.units + 1 < cLine) (hs : PySem.W.findIn K (.ref C) "__eq__" = some (some (.ref f))) (hf : PySem.W.isFn K (.ref f) = true)
    (h : wpAny (model prog w) A.in1 (call (.ref f) [.ref x, b]) (fun v s' => ∃ c : Bool, v = .bool c ∧ Q (.bool (!c)) s') E s) : wpAny (model prog w) A (call (.builtin "object.__ne__") [.ref x, b]) Q E s :=
  wpAny_call (codeAny_call_builtin F.cmp_object.ne.plain F.cmpEntry_ne (PySem.W.check_slot F.cmpKind_ne F.cmpSplit_ne (I.type.andThen (PySem.W.looks_mroIn X hm)) (F.cmpArgs_ne _ _) (entry_ne X I hu hs hf h)))
theorem cmp_ne {Q : Value → Shared → Prop} (hu : A.units + 1 < cLine) (X : K.In s.heap) (I : PySem.W.InstAt s.heap x ox C od) (hb : PySem.W.Looks (model prog w) s.heap (typeOf b) tb) (hn : PySem.W.notFirst K C tb = true)
    (hm : PySem.W.mroIn K C (.type "object") = some true) (hne : PySem.W.findIn K (.ref C) "__ne__" = some (some (.builtin "object.__ne__"))) (hs : PySem.W.findIn K (.ref C) "__eq__" = some (some (.ref f))) (hf : PySem.W.isFn K (.ref f) = true)
    (h : wpAny (model prog w) A.in1 (call (.ref f) [.ref x, b]) (fun v s' => ∃ c : Bool, v = .bool c ∧ Q (.bool (!c)) s') E s) : wpAny (model prog w) A (richCompare .NotEq (.ref x) b) Q E s := by
  have one : wpAny (model prog w) A (tryCompare (.ref x) "__ne__" b) (fun r s' => ∃ c : Bool, r = some (.bool c) ∧ Q (.bool c) s') E s := by
    unfold tryCompare
    refine wpAny_bind (ifBound_ne X I hne (call_ne X I hm hu hs hf (wpAny_mono h (fun v s' hv => ?_) fun _ _ e => e)))
    obtain ⟨c, rfl, q⟩ := hv
    exact ⟨c, rfl, wpAny_pure ⟨_, rfl, q⟩⟩
  unfold richCompare
  simp only [oneThing_ref]
  refine wpAny_holding (wpAny_bind (wpAny_cRoomFor (by omega) ?_))
  refine wpAny_bind (I.type.here (wpAny_bind (hb.here ?_)))
  split
  · rename_i q
    have e : PySem.W.subIn K tb (.ref C) = some false := by
      rcases Bool.or_eq_true_iff.mp hn with e | e
      · rw [beq_iff_eq.mp e] at q; simp at q
      · exact beq_iff_eq.mp e
    refine wpAny_bind ((PySem.W.looks_subIn X e).here ?_)
    simp only [Bool.false_eq_true, if_false]
    refine wpAny_bind (wpAny_mono one (fun r s' z => ?_) fun _ _ e => e)
    obtain ⟨v, rfl, hq⟩ := z
    exact wpAny_pure hq
  · refine wpAny_bind (wpAny_pure ?_)
    simp only [Bool.false_eq_true, if_false]
    refine wpAny_bind (wpAny_mono one (fun r s' z => ?_) fun _ _ e => e)
    obtain ⟨v, rfl, hq⟩ := z
    exact wpAny_pure hq
/-- v declines to compare with the instance x -/
def Declines (s : Shared) (x : Addr) (v : Value) (nm : Str) : Prop := ∀ (prog : Program) (w : World) (A : Around) (E : Value → Shared → Prop) (Q : Option Value → Shared → Prop), Q none s → wpAny (model prog w) A (tryCompare v nm (.ref x)) Q E s
theorem dec_none_eq : Declines s x .none "__eq__" := fun prog w A E Q q =>
  wpAny_tryCompare_declines (show s.TypeIs .none "NoneType" from rfl) F.slot_NoneType_eq (call_gives F.slot_NoneType_eq rfl F.entry_NoneType_eq (F.args_NoneType_eq_2 _ _) (NoneType___eq___none_ref_0 x) ⟨rfl, q⟩)
theorem dec_none_ne : Declines s x .none "__ne__" := fun prog w A E Q q =>
  wpAny_tryCompare_declines (show s.TypeIs .none "NoneType" from rfl) F.slot_NoneType_ne (call_gives F.slot_NoneType_ne rfl F.entry_NoneType_ne (F.args_NoneType_ne_2 _ _) (NoneType___ne___none_ref_0 x) ⟨rfl, q⟩)
theorem isInst_no {M : Model} {T : String} {Q : Bool → Shared → Prop} (X : K.In s.heap) (I : PySem.W.InstAt s.heap x ox C od) (hm : PySem.W.mroIn K C (.type T) = some false) (q : Q false s) : wpAny M A (isInstance (.ref x) (.type T)) Q E s :=
  by
  show wpAny M A (typeOf (.ref x) >>= fun t => isSubtype t (.type T)) Q E s
  exact (PySem.W.Looks.andThen (f := fun t => isSubtype t (.type T)) I.type (PySem.W.looks_mroIn X hm)).here q
theorem tup_eq_no {M : Model} {l : Value} {Q : Fin → Shared → Prop} (X : K.In s.heap) (I : PySem.W.InstAt s.heap x ox C od) (hm : PySem.W.mroIn K C (.type "tuple") = some false) (q : Q (.done (.ret .notImplemented)) s) : wpAny M A (Builtin.«tuple.__eq__» ⟨[l, .ref x], []⟩) Q E s := by
  unfold Builtin.«tuple.__eq__»
  repeat (first | with_reducible refine isInst_no X I hm ?_ | wp_step)
  exact q
theorem tup_ne_no {M : Model} {l : Value} {Q : Fin → Shared → Prop} (X : K.In s.heap) (I : PySem.W.InstAt s.heap x ox C od) (hm : PySem.W.mroIn K C (.type "tuple") = some false) (q : Q (.done (.ret .notImplemented)) s) : wpAny M A (Builtin.«tuple.__ne__» ⟨[l, .ref x], []⟩) Q E s := by
  unfold Builtin.«tuple.__ne__»
  repeat (first | with_reducible refine isInst_no X I hm ?_ | wp_step)
  exact q
theorem int_eq_no {M : Model} {i : Int} {t : Tok} {dx : Addr} {Q : Fin → Shared → Prop} (hx : s.heap.get? x = some (PySem.W.instObj C dx)) (q : Q (.done (.ret .notImplemented)) s) : wpAny M A (Builtin.«int.__eq__» ⟨[.int i t, .ref x], []⟩) Q E s := by
  unfold Builtin.«int.__eq__»
  repeat (first | with_reducible refine wpAny_load hx ?_ | wp_step)
  exact q
theorem int_ne_no {M : Model} {i : Int} {t : Tok} {dx : Addr} {Q : Fin → Shared → Prop} (hx : s.heap.get? x = some (PySem.W.instObj C dx)) (q : Q (.done (.ret .notImplemented)) s) : wpAny M A (Builtin.«int.__ne__» ⟨[.int i t, .ref x], []⟩) Q E s := by
  unfold Builtin.«int.__ne__»
  repeat (first | with_reducible refine wpAny_load hx ?_ | wp_step)
  exact q
theorem dec_tup_eq {l : Addr} (X : K.In s.heap) (I : PySem.W.InstAt s.heap x ox C od) (hm : PySem.W.mroIn K C (.type "tuple") = some false) (ht : s.TypeIs (.ref l) "tuple") : Declines s x (.ref l) "__eq__" := fun prog w A E Q q =>
  wpAny_tryCompare_declines ht F.slot_tuple_eq (GQ.call_here F.slot_tuple_eq ht F.entry_tuple_eq (F.args_tuple_eq_2 _ _) (tup_eq_no X I hm ⟨rfl, q⟩))
theorem dec_tup_ne {l : Addr} (X : K.In s.heap) (I : PySem.W.InstAt s.heap x ox C od) (hm : PySem.W.mroIn K C (.type "tuple") = some false) (ht : s.TypeIs (.ref l) "tuple") : Declines s x (.ref l) "__ne__" := fun prog w A E Q q =>
  wpAny_tryCompare_declines ht F.slot_tuple_ne (GQ.call_here F.slot_tuple_ne ht F.entry_tuple_ne (F.args_tuple_ne_2 _ _) (tup_ne_no X I hm ⟨rfl, q⟩))
theorem dec_int_eq {i : Int} {t : Tok} {dx : Addr} (hx : s.heap.get? x = some (PySem.W.instObj C dx)) : Declines s x (.int i t) "__eq__" := fun prog w A E Q q =>
  wpAny_tryCompare_declines (show s.TypeIs (.int i t) "int" from rfl) F.slot_int_eq (GQ.call_here F.slot_int_eq rfl F.entry_int_eq (F.args_int_eq_2 _ _) (int_eq_no hx ⟨rfl, q⟩))
theorem dec_int_ne {i : Int} {t : Tok} {dx : Addr} (hx : s.heap.get? x = some (PySem.W.instObj C dx)) : Declines s x (.int i t) "__ne__" := fun prog w A E Q q =>
  wpAny_tryCompare_declines (show s.TypeIs (.int i t) "int" from rfl) F.slot_int_ne (GQ.call_here F.slot_int_ne rfl F.entry_int_ne (F.args_int_ne_2 _ _) (int_ne_no hx ⟨rfl, q⟩))
/-- v == x, v declines -/
theorem cmp_reflEq {v : Value} {T : String} {Q : Value → Shared → Prop} (hu : A.units < cLine) (X : K.In s.heap) (I : PySem.W.InstAt s.heap x ox C od) (ho : oneThing? .Eq v (.ref x) = none) (hT : s.TypeIs v T) (hm : PySem.W.mroIn K C (.type T) = some false)
    (hd : Declines s x v "__eq__") (hs : PySem.W.findIn K (.ref C) "__eq__" = some (some (.ref f))) (hf : PySem.W.isFn K (.ref f) = true)
    (h : wpAny (model prog w) A (call (.ref f) [.ref x, v]) (PySem.W.CmpBack Q) E s) : wpAny (model prog w) A (richCompare .Eq v (.ref x)) Q E s := by
  have one : wpAny (model prog w) A (tryCompare (.ref x) "__eq__" v) (fun r s' => ∃ v, r = some v ∧ Q v s') E s := by
    unfold tryCompare
    refine wpAny_bind (PySem.W.ifBound_K X I hs hf (wpAny_mono h (fun v s' hv => ?_) fun _ _ e => e))
    cases v <;> first | exact hv.elim | exact wpAny_pure ⟨_, rfl, hv⟩
  unfold richCompare
  simp only [ho]
  refine wpAny_holding (wpAny_bind (wpAny_cRoomFor hu ?_))
  refine wpAny_bind (wpAny_typeOf hT (wpAny_bind (I.type.here ?_)))
  split
  · refine wpAny_bind ((PySem.W.looks_mroIn X hm).here ?_)
    simp only [Bool.false_eq_true, if_false, Bool.not_false, if_true]
    refine wpAny_bind (hd prog w A E _ ?_)
    refine wpAny_bind (wpAny_mono one (fun r s' z => ?_) fun _ _ e => e)
    obtain ⟨v, rfl, hq⟩ := z
    exact wpAny_pure hq
  · rename_i q
    exact absurd (by simp) q
theorem cmp_reflNe {v : Value} {T : String} {Q : Value → Shared → Prop} (hu : A.units + 1 < cLine) (X : K.In s.heap) (I : PySem.W.InstAt s.heap x ox C od) (ho : oneThing? .NotEq v (.ref x) = none) (hT : s.TypeIs v T) (hm : PySem.W.mroIn K C (.type T) = some false)
    (hd : Declines s x v "__ne__") (hmo : PySem.W.mroIn K C (.type "object") = some true) (hne : PySem.W.findIn K (.ref C) "__ne__" = some (some (.builtin "object.__ne__"))) (hs : PySem.W.findIn K (.ref C) "__eq__" = some (some (.ref f))) (hf : PySem.W.isFn K (.ref f) = true)
    (h : wpAny (model prog w) A.in1 (call (.ref f) [.ref x, v]) (fun v s' => ∃ c : Bool, v = .bool c ∧ Q (.bool (!c)) s') E s) : wpAny (model prog w) A (richCompare .NotEq v (.ref x)) Q E s := by
  have one : wpAny (model prog w) A (tryCompare (.ref x) "__ne__" v) (fun r s' => ∃ c : Bool, r = some (.bool c) ∧ Q (.bool c) s') E s := by
    unfold tryCompare
    refine wpAny_bind (ifBound_ne X I hne (call_ne X I hmo hu hs hf (wpAny_mono h (fun v s' hv => ?_) fun _ _ e => e)))
    obtain ⟨c, rfl, q⟩ := hv
    exact ⟨c, rfl, wpAny_pure ⟨_, rfl, q⟩⟩
  unfold richCompare
  simp only [ho]
  refine wpAny_holding (wpAny_bind (wpAny_cRoomFor (by omega) ?_))
  refine wpAny_bind (wpAny_typeOf hT (wpAny_bind (I.type.here ?_)))
  split
  · refine wpAny_bind ((PySem.W.looks_mroIn X hm).here ?_)
    simp only [Bool.false_eq_true, if_false, Bool.not_false, if_true]
    refine wpAny_bind (hd prog w A E _ ?_)
    refine wpAny_bind (wpAny_mono one (fun r s' z => ?_) fun _ _ e => e)
    obtain ⟨v, rfl, hq⟩ := z
    exact wpAny_pure hq
  · rename_i q
    exact absurd (by simp) q
end
end DE6
namespace DL
open PySem L2
open PyProof.Rows hiding St
structure EqFacts (K : PySem.W.Frag) (C f : Addr) : Prop where
  eq : PySem.W.findIn K (.ref C) "__eq__" = some (some (.ref f))
  fn : PySem.W.isFn K (.ref f) = true
  ne : PySem.W.findIn K (.ref C) "__ne__" = some (some (.builtin "object.__ne__"))
  mo : PySem.W.mroIn K C (.type "object") = some true
  mN : PySem.W.mroIn K C (.type "NoneType") = some false
  mI : PySem.W.mroIn K C (.type "int") = some false
  mT : PySem.W.mroIn K C (.type "tuple") = some false
theorem nf_none {K : PySem.W.Frag} {C : Addr} : PySem.W.notFirst K C (.type "NoneType") = true := by
  have e : PySem.W.subIn K (.type "NoneType") (.ref C) = some false := HN.sub_none
  unfold PySem.W.notFirst
  rw [e]; simp
theorem nf_int {K : PySem.W.Frag} {C : Addr} : PySem.W.notFirst K C (.type "int") = true := by
  have e0 : fastBuiltinMro "int" = some [.type "int", .type "object"] := by decide +kernel
  have e : PySem.W.subIn K (.type "int") (.ref C) = some false := by
    show (fastBuiltinMro "int").map (·.contains (.ref C)) = some false
    rw [e0]
    first | rfl | simp
  unfold PySem.W.notFirst
  rw [e]; simp
theorem nf_tup {K : PySem.W.Frag} {C : Addr} : PySem.W.notFirst K C (.type "tuple") = true := by
  have e0 : fastBuiltinMro "tuple" = some [.type "tuple", .type "object"] := by decide +kernel
  have e : PySem.W.subIn K (.type "tuple") (.ref C) = some false := by
    show (fastBuiltinMro "tuple").map (·.contains (.ref C)) = some false
    rw [e0]
    first | rfl | simp
  unfold PySem.W.notFirst
  rw [e]; simp
theorem looks_ty {M : Model} {s : Shared} {v : Value} {T : String} (h : ∀ s' : Shared, (∀ b o, s.heap.get? b = some o → s'.heap.get? b = some o) → s'.TypeIs v T) : PySem.W.Looks M s.heap (typeOf v) (.type T) := fun A Q E s' k q => wpAny_typeOf (h s' k) q
/-- beside an own ==: None, an int, a tuple -/
def Plain3 (H : Hp) (y : V) : Prop := y = .non ∨ (∃ i, y = .int i) ∨ ∃ b vs, y = .ref b ∧ H b = some (.tup vs)
def rEqOwn (C : Addr) (sp : Sp) (neg : Bool) : R2 := fun x y H Q =>
  (∃ a dx fs, x = .ref a ∧ H a = some (.ins C dx fs) ∧ (Plain3 H y ∨ ∃ b dy gs, y = .ref b ∧ H b = some (.ins C dy gs)) ∧ sp [x, y] H (fun z H2 => ∃ b, z = .bl b ∧ Q (.bl (neg != b)) H2) fun _ _ _ => False) ∨
  (∃ a dx fs, y = .ref a ∧ H a = some (.ins C dx fs) ∧ Plain3 H x ∧ sp [y, x] H (fun z H2 => ∃ b, z = .bl b ∧ Q (.bl (neg != b)) H2) fun _ _ _ => False)
section
variable {X : Cx} {k : Nat} {C f : Addr} {sp : Sp}
theorem typeis_keep {s s' : Shared} {a : Addr} {T : String} (k : ∀ b o, s.heap.get? b = some o → s'.heap.get? b = some o) (h : s.TypeIs (.ref a) T) : s'.TypeIs (.ref a) T := by
  obtain ⟨o, h1, h2⟩ := h
  exact ⟨o, k _ _ h1, h2⟩
theorem own_call (F : FnG X.prog X.w X.K X.mg X.base k f sp) (hr : Room k X.A) (hgu : X.A.guards = some []) {pins : List (Addr × Obj)} {s : Shared} {σ : St} {H : Hp} {x y : V} {u v : Value} {Q : VK} {neg : Bool} (I : Inv X pins σ H s) (rx : RelV x u) (ry : RelV y v)
    (hs : sp [x, y] H (fun z H2 => ∃ b, z = .bl b ∧ Q (.bl (neg != b)) H2) fun _ _ _ => False) :
    wpAny (model X.prog X.w) X.A (call (.ref f) [u, v]) (fun r s' => ∃ c : Bool, r = .bool c ∧ EP X pins σ Q (.bool (neg != c)) s') X.xe s := by
  refine wpAny_call (codeAny_mono (F X.A X.stack s H [u, v] [x, y] _ _ hr hgu I.env0 (.cons rx (.cons ry .nil)) hs) fun res s2 q => ?_)
  cases res with
  | error er => exact (cx_no q).elim
  | ok fl =>
    cases fl with
    | ret u =>
      obtain ⟨z, H3, I3, rz, b, ez, q3⟩ := I.after q
      subst ez
      have ez : u = Value.bool b := rz
      subst ez
      exact ⟨b, rfl, .bl _, H3, I3, rfl, q3⟩
    | next => exact q.elim
    | brk => exact q.elim
    | cont => exact q.elim
theorem own_call1 (F : FnG X.prog X.w X.K X.mg X.base k f sp) (hr : Room (k + 1) X.A) (hgu : X.A.guards = some []) {pins : List (Addr × Obj)} {s : Shared} {σ : St} {H : Hp} {x y : V} {u v : Value} {Q : VK} {neg : Bool} (I : Inv X pins σ H s) (rx : RelV x u) (ry : RelV y v)
    (hs : sp [x, y] H (fun z H2 => ∃ b, z = .bl b ∧ Q (.bl (neg != b)) H2) fun _ _ _ => False) :
    wpAny (model X.prog X.w) X.A.in1 (call (.ref f) [u, v]) (fun r s' => ∃ c : Bool, r = .bool c ∧ EP X pins σ Q (.bool (neg != c)) s') X.xe s := by
  refine wpAny_call (codeAny_mono (F X.A.in1 X.stack s H [u, v] [x, y] _ _ hr.in1 hgu I.env0.in1 (.cons rx (.cons ry .nil)) hs) fun res s2 q => ?_)
  cases res with
  | error er => exact (cx_no q).elim
  | ok fl =>
    cases fl with
    | ret u =>
      obtain ⟨z, H3, I3, rz, b, ez, q3⟩ := I.after q
      subst ez
      have ez : u = Value.bool b := rz
      subst ez
      exact ⟨b, rfl, .bl _, H3, I3, rfl, q3⟩
    | next => exact q.elim
    | brk => exact q.elim
    | cont => exact q.elim
theorem tup_ty {pins : List (Addr × Obj)} {s : Shared} {σ : St} {H : Hp} {b : Addr} {vs : List V} (I : Inv X pins σ H s) (h : H b = some (.tup vs)) : s.TypeIs (.ref b) "tuple" := by
  obtain ⟨its, r1, p1, _⟩ := I.tuple (a := b) (xs := vs) (.inl (.inl h))
  obtain ⟨o, h1, h2, _⟩ := p1
  exact ⟨o, h1, h2⟩
/-- what stands right of an own == -/
theorem right_ty {pins : List (Addr × Obj)} {s : Shared} {σ : St} {H : Hp} {y : V} {v : Value} (I : Inv X pins σ H s) (ry : RelV y v) (h : Plain3 H y ∨ ∃ b dy gs, y = .ref b ∧ H b = some (.ins C dy gs)) :
    ∃ tb, PySem.W.Looks (model X.prog X.w) s.heap (typeOf v) tb ∧ PySem.W.notFirst X.K C tb = true := by
  rcases h with (rfl | ⟨i, rfl⟩ | ⟨b, vs, rfl, hb⟩) | ⟨b, dy, gs, rfl, hb⟩
  · obtain rfl : v = Value.none := ry
    exact ⟨_, looks_ty (T := "NoneType") fun _ _ => rfl, nf_none⟩
  · obtain ⟨t, rfl⟩ : ∃ t, v = Value.int i t := ry
    exact ⟨_, looks_ty (T := "int") fun _ _ => rfl, nf_int⟩
  · obtain rfl : v = Value.ref b := ry
    exact ⟨_, looks_ty (T := "tuple") fun s' k => typeis_keep k (tup_ty I hb), nf_tup⟩
  · obtain rfl : v = Value.ref b := ry
    obtain ⟨mA, O, _⟩ := ins_get I.hok hb
    obtain ⟨od, J, _⟩ := O.look
    exact ⟨_, J.type, by simp [PySem.W.notFirst]⟩
/-- what stands left of it -/
theorem left_ty {pins : List (Addr × Obj)} {s : Shared} {σ : St} {H : Hp} {y : V} {v : Value} {x : Addr} {ox : Obj} {od : Option Obj} {dx : Addr} (I : Inv X pins σ H s) (e : EqFacts X.K C f) (J : PySem.W.InstAt s.heap x ox C od) (hx : s.heap.get? x = some (PySem.W.instObj C dx)) (ry : RelV y v) (h : Plain3 H y) :
    ∃ T : String, s.TypeIs v T ∧ PySem.W.mroIn X.K C (.type T) = some false ∧ DE6.Declines s x v "__eq__" ∧ DE6.Declines s x v "__ne__" ∧ oneThing? .Eq v (.ref x) = none ∧ oneThing? .NotEq v (.ref x) = none := by
  rcases h with rfl | ⟨i, rfl⟩ | ⟨b, vs, rfl, hb⟩
  · obtain rfl : v = Value.none := ry
    exact ⟨"NoneType", rfl, e.mN, DE6.dec_none_eq, DE6.dec_none_ne, rfl, rfl⟩
  · obtain ⟨t, rfl⟩ : ∃ t, v = Value.int i t := ry
    exact ⟨"int", rfl, e.mI, DE6.dec_int_eq hx, DE6.dec_int_ne hx, rfl, rfl⟩
  · obtain rfl : v = Value.ref b := ry
    exact ⟨"tuple", tup_ty I hb, e.mT, DE6.dec_tup_eq I.kIn J e.mT (tup_ty I hb), DE6.dec_tup_ne I.kIn J e.mT (tup_ty I hb), rfl, rfl⟩
theorem op_eqOwn (e : EqFacts X.K C f) (F : FnG X.prog X.w X.K X.mg X.base k f sp) (hr : Room (k + 1) X.A) (hgu : X.A.guards = some []) : OpR X (compareOp .Eq) (rEqOwn C sp false) := by
  intro pins s σ H x y v u Q I rx ry h
  have hu1 := hu_of hr
  rcases h with ⟨a, dx, fs, rfl, ha, hy, hs⟩ | ⟨a, dx, fs, rfl, ha, hy, hs⟩
  · obtain rfl : v = Value.ref a := rx
    obtain ⟨mA, O, _⟩ := ins_get I.hok ha
    obtain ⟨od, J, _⟩ := O.look
    obtain ⟨m, fr⟩ := I.fr
    obtain ⟨tb, lk, nf⟩ := right_ty I ry hy
    refine (PySem.W.cmp_K (op := .Eq) (tb := tb) (by omega) fr I.ok.mod.kin J lk nf e.eq e.fn ?_ : wpAny (model X.prog X.w) X.A (richCompare .Eq (.ref a) u) (EP X pins σ Q) X.xe s)
    refine thn (own_call F (hr.mono (Nat.le_succ k)) hgu I (show RelV (V.ref a) (Value.ref a) from rfl) ry hs) fun r s' ⟨c, er, q⟩ => ?_
    subst er
    simpa [PySem.W.CmpBack] using q
  · obtain rfl : u = Value.ref a := ry
    obtain ⟨mA, O, _⟩ := ins_get I.hok ha
    obtain ⟨od, J, _⟩ := O.look
    obtain ⟨T, t1, t2, d1, d2, o1, o2⟩ := left_ty I e J J.at_ rx hy
    refine (DE6.cmp_reflEq (by omega) I.kIn J o1 t1 t2 d1 e.eq e.fn ?_ : wpAny (model X.prog X.w) X.A (richCompare .Eq v (.ref a)) (EP X pins σ Q) X.xe s)
    refine thn (own_call F (hr.mono (Nat.le_succ k)) hgu I (show RelV (V.ref a) (Value.ref a) from rfl) rx hs) fun r s' ⟨c, er, q⟩ => ?_
    subst er
    simpa [PySem.W.CmpBack] using q
theorem op_neOwn (e : EqFacts X.K C f) (F : FnG X.prog X.w X.K X.mg X.base k f sp) (hr : Room (k + 1) X.A) (hgu : X.A.guards = some []) : OpR X (compareOp .NotEq) (rEqOwn C sp true) := by
  intro pins s σ H x y v u Q I rx ry h
  have hu1 := hu_of hr
  rcases h with ⟨a, dx, fs, rfl, ha, hy, hs⟩ | ⟨a, dx, fs, rfl, ha, hy, hs⟩
  · obtain rfl : v = Value.ref a := rx
    obtain ⟨mA, O, _⟩ := ins_get I.hok ha
    obtain ⟨od, J, _⟩ := O.look
    obtain ⟨tb, lk, nf⟩ := right_ty I ry hy
    refine (DE6.cmp_ne (tb := tb) (by omega) I.kIn J lk nf e.mo e.ne e.eq e.fn ?_ : wpAny (model X.prog X.w) X.A (richCompare .NotEq (.ref a) u) (EP X pins σ Q) X.xe s)
    refine thn (own_call1 F hr hgu I (show RelV (V.ref a) (Value.ref a) from rfl) ry hs) fun r s' ⟨c, er, q⟩ => ⟨c, er, ?_⟩
    simpa using q
  · obtain rfl : u = Value.ref a := ry
    obtain ⟨mA, O, _⟩ := ins_get I.hok ha
    obtain ⟨od, J, _⟩ := O.look
    obtain ⟨T, t1, t2, d1, d2, o1, o2⟩ := left_ty I e J J.at_ rx hy
    refine (DE6.cmp_reflNe (by omega) I.kIn J o2 t1 t2 d2 e.mo e.ne e.eq e.fn ?_ : wpAny (model X.prog X.w) X.A (richCompare .NotEq v (.ref a)) (EP X pins σ Q) X.xe s)
    refine thn (own_call1 F hr hgu I (show RelV (V.ref a) (Value.ref a) from rfl) rx hs) fun r s' ⟨c, er, q⟩ => ⟨c, er, ?_⟩
    simpa using q
end
end DL

/-! DG7: == and != by an own __eq__ over data, isinstance of an own class, list + list as a new cell. -/
namespace DL
open PySem L2
open PyProof.Rows hiding St
def rightD (n : Str) : D → Prop
  | .non => True
  | .int _ => True
  | .tup _ => True
  | .obj m _ => m = n
  | _ => False
def leftD : D → Prop
  | .non => True
  | .int _ => True
  | .tup _ => True
  | _ => False
def eqOwn (n : Str) (G : DFn) (x y : D) (k : Bool → Prop) : Prop :=
  (∃ fs, x = .obj n fs) ∧ rightD n y ∧ callD G [some x, some y] (fun z _ => gB z k) noX .mk ∨
  leftD x ∧ (∃ fs, y = .obj n fs) ∧ callD G [some y, some x] (fun z _ => gB z k) noX .mk
theorem eqOwn_l {n : Str} {G : DFn} {fs : List (Str × D)} {y : D} {k : Bool → Prop} (hy : rightD n y) (h : G [some (.obj n fs), some y] (fun z _ => gB z k) noX) : eqOwn n G (.obj n fs) y k := .inl ⟨⟨_, rfl⟩, hy, h⟩
theorem eqOwn_r {n : Str} {G : DFn} {fs : List (Str × D)} {x : D} {k : Bool → Prop} (hx : leftD x) (h : G [some (.obj n fs), some x] (fun z _ => gB z k) noX) : eqOwn n G x (.obj n fs) k := .inr ⟨hx, ⟨_, rfl⟩, h⟩
@[simp ↓] def fEqOwn (n : Str) (neg : Bool) (G : DFn) (Fa Fb : FE) : FE := fun ρ post xp => Fa ρ (fun x ρ1 => Fb ρ1 (fun y ρ2 => eqOwn n G x y fun b => post (.bl (neg != b)) ρ2) xp) xp
section
variable {X : Cx} {Wx : WX} {P L I J J1 J2 : List Nat} {e a b : Expr} {es : List Expr} {F Fa Fb : FE} {A : FA} {pos p p1 p2 apos : Pos} {k : Nat} {f : Addr} {G : DFn} {x m y n : Str} {ta tb : TE} {tA : TA} {C : Addr} {st : Stmt}
theorem plain3 {K : PySem.W.Frag} {Hb H : Hp} (s : Sub Hb H) {v : V} {d : D} (i : Is K Hb v d) (h : leftD d) : Plain3 H v := by
  cases i with
  | non => exact .inl rfl
  | int i => exact .inr (.inl ⟨_, rfl⟩)
  | tup h1 l => exact .inr (.inr ⟨_, _, rfl, s _ _ h1⟩)
  | _ => exact h.elim
theorem eqOwn_core (hc : IsCl X.K n C) (neg : Bool) (ha : DE X Wx P I a ta Fa J1) (hb : DE X Wx P J1 b tb Fb J) : ∀ (W : Wd) (ρ : Env) (σ : St) (Hb H : Hp) (Q : VK) (post : Post) (xp : XP), EnvOk X.K W P I ρ σ Hb H → fEqOwn n neg G Fa Fb ρ post xp → XOk X Wx W P σ xp →
    (∀ d ρ' v Hb' H', post d ρ' → EnvOk X.K W P J ρ' σ Hb' H' → Sub Hb Hb' → Is X.K Hb' v d → Q v H') → tOp (rEqOwn C (spD X.K 2 [] G) neg) ta tb σ H Q := by
  intro W ρ σ Hb H Q post xp E f x q
  refine ha.ev W ρ σ Hb H _ _ xp E f x fun d ρ1 v Hb1 H1 f1 E1 s1 i1 => ?_
  refine hb.ev W ρ1 σ Hb1 H1 _ _ xp E1 f1 x fun d2 ρ2 v2 Hb2 H2 f2 E2 s2 i2 => ?_
  have i1' := i1.mono s2
  have hsl : ∀ j ∈ slots [none, none], j ∈ P ∨ j ∈ J := fun j h => by simp [slots] at h
  have hl : ∀ j ∈ slots [none, none], get ρ2 j ≠ none := fun j h => by simp [slots] at h
  have go : ∀ (u w : V) (du dw : D), Is X.K Hb2 u du → Is X.K Hb2 w dw → callD G [some du, some dw] (fun z _ => gB z fun b => post (.bl (neg != b)) ρ2) noX .mk →
      spD X.K 2 [] G [u, w] H2 (fun z H2 => ∃ b, z = .bl b ∧ Q (.bl (neg != b)) H2) fun _ _ _ => False := fun u w du dw iu iw f2 => by
    have ar : Args X.K Hb2 σ [none, none] [u, w] [some du, some dw] := ⟨⟨_, rfl, iu⟩, ⟨_, rfl, iw⟩, trivial⟩
    refine ⟨rfl, [some du, some dw], Hb2, _, _, E2.lend ar hsl (by simp [slots]) hl, f2, fun z ρ' v Hb' H' p1 E4 is => ?_, fun c ρ' cls dx Hb' H' p1 => p1.elim⟩
    have E3 := E2.given ar hsl (by simp [slots]) hl E4 rfl
    have eu : unfill [none, none] ρ' ρ2 = ρ2 := by
      cases ρ' with
      | nil => rfl
      | cons a r => cases r <;> rfl
    rw [eu] at E3
    cases z <;> first | exact p1.elim | skip
    exact ⟨_, is_bl is, q _ _ _ _ _ p1 E3 ((s1.trans s2).trans E4.stp.hb) (.bl _)⟩
  rcases f2 with ⟨⟨fs, e⟩, hy, f2⟩ | ⟨hx, ⟨fs, e⟩, f2⟩
  · subst e
    obtain ⟨a, C', dx, vs, rfl, hc', hh, e1, l1⟩ := o_obj E2.sub (.inl i1')
    obtain rfl := hc.eq hc'
    refine .inl ⟨a, dx, vs, rfl, hh, ?_, go _ _ _ _ i1' i2 f2⟩
    cases d2 with
    | obj m gs =>
      obtain rfl : m = n := hy
      obtain ⟨b, C'', dy, ws, rfl, hc'', hh', _, _⟩ := o_obj E2.sub (.inl i2)
      obtain rfl := hc.eq hc''
      exact .inr ⟨b, dy, ws, rfl, hh'⟩
    | non => exact .inl (plain3 E2.sub i2 trivial)
    | int i => exact .inl (plain3 E2.sub i2 trivial)
    | tup l => exact .inl (plain3 E2.sub i2 trivial)
    | _ => exact hy.elim
  · subst e
    obtain ⟨a, C', dx, vs, rfl, hc', hh, e1, l1⟩ := o_obj E2.sub (.inl i2)
    obtain rfl := hc.eq hc'
    exact .inr ⟨a, dx, vs, rfl, hh, plain3 E2.sub i1' hx, go _ _ _ _ i2 i1' f2⟩
theorem de_eqOwn (hc : IsCl X.K n C) (ef : EqFacts X.K C f) (Fn : FnG X.prog X.w X.K X.mg X.base k f (spD X.K 2 [] G)) (hr : Room (k + 1) X.A) (hgu : X.A.guards = some []) (ha : DE X Wx P I a ta Fa J1) (hb : DE X Wx P J1 b tb Fb J) (hm : behindInMarks .Eq b = false := by first | exact nomark _ | rfl) :
    DE X Wx P I (.Compare a [.Eq] [b] pos) (tOp (rEqOwn C (spD X.K 2 [] G) false) ta tb) (fEqOwn n false G Fa Fb) J := de_of (pe_cmpR (op_eqOwn ef Fn hr hgu) ha.pe hb.pe hm) (eqOwn_core hc false ha hb)
theorem de_neOwn (hc : IsCl X.K n C) (ef : EqFacts X.K C f) (Fn : FnG X.prog X.w X.K X.mg X.base k f (spD X.K 2 [] G)) (hr : Room (k + 1) X.A) (hgu : X.A.guards = some []) (ha : DE X Wx P I a ta Fa J1) (hb : DE X Wx P J1 b tb Fb J) (hm : behindInMarks .NotEq b = false := by first | exact nomark _ | rfl) :
    DE X Wx P I (.Compare a [.NotEq] [b] pos) (tOp (rEqOwn C (spD X.K 2 [] G) true) ta tb) (fEqOwn n true G Fa Fb) J := de_of (pe_cmpR (op_neOwn ef Fn hr hgu) ha.pe hb.pe hm) (eqOwn_core hc true ha hb)
theorem dt_eqOwn (neg : Bool) {op : CmpOp} (hop : OpR X (compareOp op) (rEqOwn C (spD X.K 2 [] G) neg)) (hc : IsCl X.K n C) (ha : DE X Wx P I a ta Fa J1) (hb : DE X Wx P J1 b tb Fb J) (hm : behindInMarks op b = false := by first | exact nomark _ | rfl) :
    DT X Wx P I (.Compare a [op] [b] pos) (tTest (tOp (rEqOwn C (spD X.K 2 [] G) neg) ta tb)) (fTest (fEqOwn n neg G Fa Fb)) J := by
  refine dt_of (pt_cmpR hop ha.pe hb.pe hm) fun W ρ σ Hb H Q post xp E f x q => eqOwn_core hc neg ha hb W ρ σ Hb H _ _ xp E f x fun d ρ1 v Hb1 H1 f1 E1 s1 i1 => ?_
  cases d <;> first | exact f1.elim | skip
  exact ⟨_, is_bl i1, q _ _ _ _ f1 E1 s1⟩
/-! ### isinstance(x, C) -/
structure IsiF (K : PySem.W.Frag) (C : Addr) : Prop where
  ty : ∀ (H : Hp) (a dx : Addr) (fs : List (Str × V)), H a = some (.ins C dx fs) → TyX K H (.ref a) (.ref C)
  kN : PySem.W.kitOne K (.type "NoneType") (.ref C) = some false
  kI : PySem.W.kitOne K (.type "int") (.ref C) = some false
  kT : PySem.W.kitOne K (.type "tuple") (.ref C) = some false
def isOwn (n : Str) : D → Option Bool
  | .obj m _ => if m = n then some true else none
  | .non => some false
  | .int _ => some false
  | .tup _ => some false
  | _ => none
@[simp ↓] def fIsiOwn (n : Str) (F : FE) : FE := fun ρ post xp => F ρ (fun d ρ1 => ∃ b, isOwn n d = some b ∧ post (.bl b) ρ1) xp
theorem isiOwn_ok {K : PySem.W.Frag} (hc : IsCl K n C) (iF : IsiF K C) {Hb H : Hp} (s : Sub Hb H) {v : V} {d : D} {b : Bool} (i : Is K Hb v d) (h : isOwn n d = some b) : ∃ t, TyX K H v t ∧ PySem.W.kitOne K t (.ref C) = some b := by
  cases d with
  | obj m fs =>
    have h : (if m = n then some true else none) = some b := h
    by_cases e : m = n
    · subst e
      rw [if_pos rfl] at h
      cases h
      obtain ⟨a, C', dx, vs, rfl, hc', hh, e1, l1⟩ := o_obj s (.inl i)
      obtain rfl := hc.eq hc'
      exact ⟨_, iF.ty _ _ _ _ hh, by simp [PySem.W.kitOne]⟩
    · rw [if_neg e] at h; cases h
  | non => cases h; exact ⟨_, o_tyx s (.inl i) rfl, iF.kN⟩
  | int j => cases h; exact ⟨_, o_tyx s (.inl i) rfl, iF.kI⟩
  | tup j => cases h; exact ⟨_, o_tyx s (.inl i) rfl, iF.kT⟩
  | _ => cases h
theorem de_isiOwn (hc : IsCl X.K n C) (hm : X.mg y = some (.ref C)) (iF : IsiF X.K C) (hmi : X.mg "isinstance" = none) (ha : DE X Wx P I e ta F J) (hg : Gl X "isinstance" := by rfl) (hgc : Gl X y := by rfl) (hdc : (y == ("__debug__" : Str)) = false := by decide)
    (he : starEach [e, .Name y p2] X.env = (false, eval e X.env) :: starEach [.Name y p2] X.env := by rfl) (hpl : (backTo pos (starEach [.Name y p2] X.env)).any (·.1) = false := by rfl) :
    DE X Wx P I (.Call (.Name "isinstance" p1) [e, .Name y p2] [] pos) (tCB (rIsi X.K) (tCons ta (tCons (tC (.ref C)) tNil))) (fIsiOwn n F) J := by
  refine de_of (pe_callB (id := "isinstance") call_isi hg hmi rfl (pa_cons ha.pe (hs := he) (pa_cons (pe_glob hgc hm rfl hdc) pa_nil)) (he := he) (hpl := hpl)) fun W ρ σ Hb H Q post xp E f x q => ha.ev W ρ σ Hb H _ _ xp E f x fun d ρ1 v Hb1 H1 f1 E1 s1 i1 => ?_
  obtain ⟨b, hb, f1⟩ := f1
  obtain ⟨t, h1, h2⟩ := isiOwn_ok hc iF E1.sub i1 hb
  exact ⟨v, .ref C, t, .ref C, b, rfl, .own C, h1, h2, q _ _ _ _ _ f1 E1 s1 (.bl b)⟩
/-! ### a slice of an owned list; list + list as a new cell -/
def fCutO (i : Nat) (A B : FO) : FE := fun ρ post xp => get ρ i ≠ none ∧ A ρ (fun lo ρ1 => B ρ1 (fun hi ρ2 => ∃ ds, get ρ2 i = some (.lst ds) ∧ post (.lst (cutL ds lo hi)) ρ2) xp) xp
theorem de_cutO {lo hi : Option Expr} {tl th : TO} {Fl Fh : FO} (i : Nat) (hiI : i ∈ P ∨ i ∈ I := by decide) (hiJ : i ∈ P ∨ i ∈ J := by decide) (ha : DOp X Wx P I lo tl Fl J1) (hb : DOp X Wx P J1 hi th Fh J) (hN : X.N[i]? = some x := by rfl) (hv : Vis X.env.scope x := by first | exact Or.inl rfl | exact Or.inr (Or.inl rfl) | exact Or.inr (Or.inr rfl)) (hd : (x == ("__debug__" : Str)) = false := by decide)
    (hcd : (x == ("__classdict__" : Str)) = false := by decide) : DE X Wx P I (.Subscript (.Name x p1) (.Slice lo hi none p2) pos) (tSl (rSlL X.K) (tVar i) tl th) (fCutO i Fl Fh) J := by
  refine de_of (pe_slice sl_list (pe_var hN hv hd hcd) ha.pe hb.pe) fun W ρ σ Hb H Q post xp E f x q => ?_
  obtain ⟨f0, f1⟩ := f
  cases g : get ρ i with
  | none => exact absurd g f0
  | some d0 =>
    obtain ⟨p, ep, _, _⟩ := E.cel i d0 hiI g
    refine ⟨_, ep, ha.ev W ρ σ Hb H _ _ xp E f1 x fun lo ρ1 Hb1 H1 f1 E1 s1 => hb.ev W ρ1 σ Hb1 H1 _ _ xp E1 f1 x fun hi ρ2 Hb2 H2 f2 E2 s2 => ?_⟩
    obtain ⟨ds, g2, f2⟩ := f2
    obtain ⟨p', ep', _, c, _⟩ := E2.cel i _ hiJ g2
    rw [ep] at ep'
    cases ep'
    obtain ⟨vs, h, l⟩ := c
    refine ⟨p, vs, rfl, .inl (.inl h), fun r hr => q _ _ _ _ _ f2 (E2.alloc hr) ((s1.trans s2).trans (Sub.new (E2.sub.none hr))) (.lst upd_same ((cut_is l lo hi).mono (Sub.new (E2.sub.none hr))))⟩
def fAddN (Fa Fb : FE) : FE := fun ρ post xp => Fa ρ (fun u ρ1 => Fb ρ1 (fun v ρ2 => ∃ ds es, u = .lst ds ∧ v = .lst es ∧ ds.length + es.length ≤ 1000000 ∧ post (.lst (ds ++ es)) ρ2) xp) xp
theorem dn_add (ha : DE X Wx P I a ta Fa J1) (hb : DE X Wx P J1 b tb Fb J) : DNw X Wx P I (.BinOp a .Add b pos) (tOp rCat ta tb) (fAddN Fa Fb) J := by
  refine ⟨pe_op op_cat ha.pe hb.pe, fun W ρ σ Hb H Q post xp E f x q => ha.ev W ρ σ Hb H _ _ xp E f x fun d ρ1 v Hb1 H1 f1 E1 s1 i1 => hb.ev W ρ1 σ Hb1 H1 _ _ xp E1 f1 x fun d2 ρ2 v2 Hb2 H2 f2 E2 s2 i2 => ?_⟩
  obtain ⟨ds, es, e1, e2, hl, f2⟩ := f2
  subst e1 e2
  obtain ⟨a, vs, rfl, h1, l1⟩ := o_lst E2.sub (.inl (i1.mono s2))
  obtain ⟨b, ws, rfl, h2, l2⟩ := o_lst E2.sub (.inl i2)
  exact ⟨a, b, vs, ws, rfl, rfl, h1, h2, by rw [l1.length, l2.length]; exact Nat.le_trans hl (by decide), fun p hp => q _ _ _ _ _ f2 (E2.more hp) (s1.trans s2) (NewAt.mk' E2 hp ⟨_, upd_same, l1.append l2⟩)⟩
end
end DL

/-! the walk, printed by gen.py -/
namespace LAW
open PySem L2 DL
open PyProof.Rows hiding St
def top (i : Nat) : Stmt := PySem.Challenge.pw_pullplain_k44_whole_one_lattice_by_many.main.body.getD i (.Pass ⟨0, 0, 0, 0⟩)
abbrev s_l_pen : Stmt := (top 10)
abbrev s_l_draw : Stmt := (top 11)
abbrev s_l_vector : Stmt := (top 15)
abbrev s_l_vectors : Stmt := (top 16)
abbrev s_turned_down : Stmt := (top 6)
abbrev s_greatest_divisor : Stmt := (top 5)
abbrev s_basis_of : Stmt := (top 7)
abbrev s_Lattice___init__ : Stmt := (inClass (top 8) 0)
abbrev s_l_lattice : Stmt := (top 17)
abbrev s_l_turned : Stmt := (top 18)
abbrev s_Lattice___eq__ : Stmt := (inClass (top 8) 1)
abbrev s_l_compared : Stmt := (top 20)
abbrev s_Lattice_basis : Stmt := (inClass (top 8) 4)
abbrev s_is_integer : Stmt := (top 2)
abbrev s_is_pair : Stmt := (top 3)
abbrev s_Lattice___contains__ : Stmt := (inClass (top 8) 2)
abbrev s_Lattice_within : Stmt := (inClass (top 8) 5)
abbrev s_l_divisor : Stmt := (top 12)
abbrev s_l_sizes : Stmt := (top 13)
abbrev s_l_reached : Stmt := (top 14)
abbrev s_l_within : Stmt := (top 19)
abbrev s_law : Stmt := (top 21)
structure Tx (K : PySem.W.Frag) (mg : Str → Option Value) where
  C_Lattice : Addr
  ic_Lattice : IsCl K "Lattice" C_Lattice
  cl_Lattice : Cls K C_Lattice
  mc_Lattice : mg "Lattice" = some (.ref C_Lattice)
  if_Lattice : IsiF K C_Lattice
  na_Lattice_generators : NoAttr K C_Lattice "generators"
  a_l_pen : Addr
  fd_l_pen : FuncData
  F_l_pen : Fun K "_law_pen" "_law_pen" s_l_pen a_l_pen fd_l_pen
  b_l_pen : Binds K fd_l_pen ["_law_script"] []
  m_l_pen : mg "_law_pen" = some (.ref a_l_pen)
  k_l_pen : PySem.W.keepIn K (.ref a_l_pen) = true
  a_l_draw : Addr
  fd_l_draw : FuncData
  F_l_draw : Fun K "_law_draw" "_law_draw" s_l_draw a_l_draw fd_l_draw
  b_l_draw : Binds K fd_l_draw ["_law_pen_here", "_law_size"] []
  m_l_draw : mg "_law_draw" = some (.ref a_l_draw)
  k_l_draw : PySem.W.keepIn K (.ref a_l_draw) = true
  a_l_vector : Addr
  fd_l_vector : FuncData
  F_l_vector : Fun K "_law_vector" "_law_vector" s_l_vector a_l_vector fd_l_vector
  b_l_vector : Binds K fd_l_vector ["_law_pen_here"] []
  m_l_vector : mg "_law_vector" = some (.ref a_l_vector)
  k_l_vector : PySem.W.keepIn K (.ref a_l_vector) = true
  a_l_vectors : Addr
  fd_l_vectors : FuncData
  F_l_vectors : Fun K "_law_vectors" "_law_vectors" s_l_vectors a_l_vectors fd_l_vectors
  b_l_vectors : Binds K fd_l_vectors ["_law_pen_here"] []
  m_l_vectors : mg "_law_vectors" = some (.ref a_l_vectors)
  k_l_vectors : PySem.W.keepIn K (.ref a_l_vectors) = true
  a_turned_down : Addr
  fd_turned_down : FuncData
  F_turned_down : Fun K "turned_down" "turned_down" s_turned_down a_turned_down fd_turned_down
  b_turned_down : Binds K fd_turned_down ["top", "vector"] []
  m_turned_down : mg "turned_down" = some (.ref a_turned_down)
  k_turned_down : PySem.W.keepIn K (.ref a_turned_down) = true
  a_greatest_divisor : Addr
  fd_greatest_divisor : FuncData
  F_greatest_divisor : Fun K "greatest_divisor" "greatest_divisor" s_greatest_divisor a_greatest_divisor fd_greatest_divisor
  b_greatest_divisor : Binds K fd_greatest_divisor ["first", "second"] []
  m_greatest_divisor : mg "greatest_divisor" = some (.ref a_greatest_divisor)
  k_greatest_divisor : PySem.W.keepIn K (.ref a_greatest_divisor) = true
  a_basis_of : Addr
  fd_basis_of : FuncData
  F_basis_of : Fun K "basis_of" "basis_of" s_basis_of a_basis_of fd_basis_of
  b_basis_of : Binds K fd_basis_of ["vectors"] []
  m_basis_of : mg "basis_of" = some (.ref a_basis_of)
  k_basis_of : PySem.W.keepIn K (.ref a_basis_of) = true
  a_Lattice___init__ : Addr
  fd_Lattice___init__ : FuncData
  F_Lattice___init__ : Fun K "__init__" "Lattice.__init__" s_Lattice___init__ a_Lattice___init__ fd_Lattice___init__
  b_Lattice___init__ : ∀ us rest : List Value, us.length = (["self"] : List Str).length → bindArgs fd_Lattice___init__ ⟨us ++ rest, []⟩ = (newTuple rest >>= fun t => pure (List.zip (["self"] : List Str) us ++ [(("vectors" : Str), t)]))
  mk_Lattice : Mk K C_Lattice a_Lattice___init__
  a_l_lattice : Addr
  fd_l_lattice : FuncData
  F_l_lattice : Fun K "_law_lattice" "_law_lattice" s_l_lattice a_l_lattice fd_l_lattice
  b_l_lattice : Binds K fd_l_lattice ["_law_vectors_here"] []
  m_l_lattice : mg "_law_lattice" = some (.ref a_l_lattice)
  k_l_lattice : PySem.W.keepIn K (.ref a_l_lattice) = true
  a_l_turned : Addr
  fd_l_turned : FuncData
  F_l_turned : Fun K "_law_turned" "_law_turned" s_l_turned a_l_turned fd_l_turned
  b_l_turned : Binds K fd_l_turned ["_law_pen_here", "_law_vectors_here"] []
  m_l_turned : mg "_law_turned" = some (.ref a_l_turned)
  k_l_turned : PySem.W.keepIn K (.ref a_l_turned) = true
  a_Lattice___eq__ : Addr
  fd_Lattice___eq__ : FuncData
  F_Lattice___eq__ : Fun K "__eq__" "Lattice.__eq__" s_Lattice___eq__ a_Lattice___eq__ fd_Lattice___eq__
  b_Lattice___eq__ : Binds K fd_Lattice___eq__ ["self", "other"] []
  mt_Lattice___eq__ : Meth K C_Lattice "__eq__" a_Lattice___eq__
  ef_Lattice : EqFacts K C_Lattice a_Lattice___eq__
  a_l_compared : Addr
  fd_l_compared : FuncData
  F_l_compared : Fun K "_law_compared" "_law_compared" s_l_compared a_l_compared fd_l_compared
  b_l_compared : Binds K fd_l_compared ["_law_one", "_law_other", "_law_due"] []
  m_l_compared : mg "_law_compared" = some (.ref a_l_compared)
  k_l_compared : PySem.W.keepIn K (.ref a_l_compared) = true
  a_Lattice_basis : Addr
  fd_Lattice_basis : FuncData
  F_Lattice_basis : Fun K "basis" "Lattice.basis" s_Lattice_basis a_Lattice_basis fd_Lattice_basis
  b_Lattice_basis : Binds K fd_Lattice_basis ["self"] []
  q_Lattice_basis : Addr
  pr_Lattice_basis : PropOf K C_Lattice "basis" q_Lattice_basis a_Lattice_basis
  a_is_integer : Addr
  fd_is_integer : FuncData
  F_is_integer : Fun K "is_integer" "is_integer" s_is_integer a_is_integer fd_is_integer
  b_is_integer : Binds K fd_is_integer ["value"] []
  m_is_integer : mg "is_integer" = some (.ref a_is_integer)
  k_is_integer : PySem.W.keepIn K (.ref a_is_integer) = true
  a_is_pair : Addr
  fd_is_pair : FuncData
  F_is_pair : Fun K "is_pair" "is_pair" s_is_pair a_is_pair fd_is_pair
  b_is_pair : Binds K fd_is_pair ["value"] []
  m_is_pair : mg "is_pair" = some (.ref a_is_pair)
  k_is_pair : PySem.W.keepIn K (.ref a_is_pair) = true
  a_Lattice___contains__ : Addr
  fd_Lattice___contains__ : FuncData
  F_Lattice___contains__ : Fun K "__contains__" "Lattice.__contains__" s_Lattice___contains__ a_Lattice___contains__ fd_Lattice___contains__
  b_Lattice___contains__ : Binds K fd_Lattice___contains__ ["self", "vector"] []
  mt_Lattice___contains__ : Meth K C_Lattice "__contains__" a_Lattice___contains__
  a_Lattice_within : Addr
  fd_Lattice_within : FuncData
  F_Lattice_within : Fun K "within" "Lattice.within" s_Lattice_within a_Lattice_within fd_Lattice_within
  b_Lattice_within : Binds K fd_Lattice_within ["self", "other"] []
  mt_Lattice_within : Meth K C_Lattice "within" a_Lattice_within
  a_l_divisor : Addr
  fd_l_divisor : FuncData
  F_l_divisor : Fun K "_law_divisor" "_law_divisor" s_l_divisor a_l_divisor fd_l_divisor
  b_l_divisor : Binds K fd_l_divisor ["_law_one", "_law_other"] []
  m_l_divisor : mg "_law_divisor" = some (.ref a_l_divisor)
  k_l_divisor : PySem.W.keepIn K (.ref a_l_divisor) = true
  a_l_sizes : Addr
  fd_l_sizes : FuncData
  F_l_sizes : Fun K "_law_sizes" "_law_sizes" s_l_sizes a_l_sizes fd_l_sizes
  b_l_sizes : Binds K fd_l_sizes ["_law_vectors_here"] []
  m_l_sizes : mg "_law_sizes" = some (.ref a_l_sizes)
  k_l_sizes : PySem.W.keepIn K (.ref a_l_sizes) = true
  a_l_reached : Addr
  fd_l_reached : FuncData
  F_l_reached : Fun K "_law_reached" "_law_reached" s_l_reached a_l_reached fd_l_reached
  b_l_reached : Binds K fd_l_reached ["_law_vectors_here", "_law_pair"] []
  m_l_reached : mg "_law_reached" = some (.ref a_l_reached)
  k_l_reached : PySem.W.keepIn K (.ref a_l_reached) = true
  a_l_within : Addr
  fd_l_within : FuncData
  F_l_within : Fun K "_law_within" "_law_within" s_l_within a_l_within fd_l_within
  b_l_within : Binds K fd_l_within ["_law_vectors_here", "_law_others"] []
  m_l_within : mg "_law_within" = some (.ref a_l_within)
  k_l_within : PySem.W.keepIn K (.ref a_l_within) = true
  n_abs : mg "abs" = none
  n_all : mg "all" = none
  n_bool : mg "bool" = none
  n_int : mg "int" = none
  n_isinstance : mg "isinstance" = none
  n_len : mg "len" = none
  n_list : mg "list" = none
  n_range : mg "range" = none
  n_repr : mg "repr" = none
  n_tuple : mg "tuple" = none
/-- _law_pen(_law_script); slots: 0 _law_script -/
def F_l_pen : FE :=
  (fLstE (fCons (fN gList (fCons (fCut (fVar 0) oNone (oSome (fC (.int 63)))) fNil)) (fCons (fC (.int 0)) (fCons (fC (.int 0)) fNil))))
def G_l_pen : DFn := fun ρ post xp => F_l_pen (ρ ++ List.replicate 0 none) (fun d ρ1 => post d (maskF [] 0 1 ρ1)) (fun c ρ1 => xp c (maskF [] 0 1 ρ1))
/-- _law_draw(_law_pen_here, _law_size); slots: 0 _law_pen_here, 1 _law_size, 2 _law_digit, 3 _law_turn, 4 _law_cell, 5 _law_great, 6 _law_mixed -/
def F_l_draw : FS :=
  (fSeq (fIfS (fTest (fBin gGtU (fBinL gIx 0 (fC (.int 2))) (fC (.int 0))))
    (fSeq (fSet 2 (fBin gFmod (fBinL gIx 0 (fC (.int 2))) (fVar 1)))
    (fSeq (fPutL 0 (fBin gFdiv (fBinL gIx 0 (fC (.int 2))) (fVar 1)) (fC (.int 2)))
    (fRet (fVar 2))))
    fNext)
    (fSeq (fSet 3 (fBinL gIx 0 (fC (.int 1))))
    (fSeq (fPutL 0 (fBin gAdd (fVar 3) (fC (.int 1))) (fC (.int 1)))
    (fSeq (fSet 4 (fBin gAdd (fBin gMul (fC (.int 52315)) (fVar 3)) (fC (.int 1381))))
    (fSeq (fIfS (fTest (fBin gNeU (fBinL gIx 0 (fC (.int 0))) (fLstE fNil)))
    (fSet 4 (fBin gIx (fBinL gIx 0 (fC (.int 0))) (fBin gFmod (fVar 3) (fN gLen (fCons (fBinL gIx 0 (fC (.int 0))) fNil)))))
    fNext)
    (fSeq (fIfS (fAnd (fTest (fBin gLt (fVar 3) (fN gLen (fCons (fBinL gIx 0 (fC (.int 0))) fNil)))) (fTest (fBin gGe (fN gAbs (fCons (fVar 4) fNil)) (fBin gPow (fC (.int 10)) (fC (.int 18))))))
    (fSeq (fSet 5 (fBin gAdd (fBin gMul (fC (.int 2)) (fN gAbs (fCons (fVar 4) fNil))) (fN gInt (fCons (fBin gLt (fVar 4) (fC (.int 0))) fNil))))
    (fSeq (fPutL 0 (fBin gFdiv (fVar 5) (fVar 1)) (fC (.int 2)))
    (fRet (fBin gFmod (fVar 5) (fVar 1)))))
    fNext)
    (fSeq (fSet 6 (fBin gFmod (fBin gPow (fBin gAdd (fBin gAdd (fBin gFmod (fVar 4) (fC (.int 2147483549))) (fBin gMul (fC (.int 226065)) (fVar 3))) (fC (.int 577))) (fC (.int 5))) (fC (.int 2147483477))))
    (fSeq (fSet 6 (fBin gFmod (fBin gPow (fBin gAdd (fBin gMul (fVar 6) (fBin gAdd (fVar 3) (fC (.int 39295)))) (fBin gMul (fBin gMul (fC (.int 74269)) (fVar 3)) (fVar 3))) (fC (.int 3))) (fC (.int 2147483647))))
    (fRet (fBin gFmod (fBin gFdiv (fVar 6) (fC (.int 32))) (fVar 1)))))))))))
def G_l_draw : DFn := fun ρ post xp => F_l_draw (ρ ++ List.replicate 5 none) (endS [0] 2 post xp)
/-- _law_vector(_law_pen_here); slots: 0 _law_pen_here, 1 _law_some, 2 _law_signs, 3 _law_left -/
def F_l_vector : FS :=
  (fSeq (fSet 1 (fLstE (fCons (fBin gSub (fCall G_l_draw [some 0, none] (oOwn 0 (oVal (fC (.int 7)) oNil))) (fC (.int 3))) (fCons (fBin gSub (fCall G_l_draw [some 0, none] (oOwn 0 (oVal (fC (.int 41)) oNil))) (fC (.int 20))) (fCons (fC (.int 0)) (fCons (fBin gSub (fBin gPow (fC (.int 10)) (fC (.int 9))) (fCall G_l_draw [some 0, none] (oOwn 0 (oVal (fC (.int 9)) oNil)))) fNil))))))
    (fSeq (fSet 2 (fLstE (fCons (fC (.int 1)) (fCons (fBin gSub (fC (.int 0)) (fC (.int 1))) fNil))))
    (fSeq (fSet 3 (fBin gMul (fBin gIx (fVar 1) (fBin gIx (fLstE (fCons (fC (.int 0)) (fCons (fC (.int 1)) (fCons (fC (.int 2)) (fCons (fC (.int 0)) (fCons (fC (.int 1)) (fCons (fC (.int 3)) fNil))))))) (fCall G_l_draw [some 0, none] (oOwn 0 (oVal (fC (.int 6)) oNil))))) (fBin gIx (fVar 2) (fCall G_l_draw [some 0, none] (oOwn 0 (oVal (fC (.int 2)) oNil))))))
    (fSeq (fSet 1 (fLstE (fCons (fBin gSub (fCall G_l_draw [some 0, none] (oOwn 0 (oVal (fC (.int 7)) oNil))) (fC (.int 3))) (fCons (fBin gSub (fCall G_l_draw [some 0, none] (oOwn 0 (oVal (fC (.int 41)) oNil))) (fC (.int 20))) (fCons (fC (.int 0)) (fCons (fBin gSub (fBin gPow (fC (.int 10)) (fC (.int 9))) (fCall G_l_draw [some 0, none] (oOwn 0 (oVal (fC (.int 9)) oNil)))) fNil))))))
    (fRet (fTupE (fCons (fVar 3) (fCons (fBin gMul (fBin gIx (fVar 1) (fBin gIx (fLstE (fCons (fC (.int 0)) (fCons (fC (.int 1)) (fCons (fC (.int 2)) (fCons (fC (.int 0)) (fCons (fC (.int 1)) (fCons (fC (.int 3)) fNil))))))) (fCall G_l_draw [some 0, none] (oOwn 0 (oVal (fC (.int 6)) oNil))))) (fBin gIx (fVar 2) (fCall G_l_draw [some 0, none] (oOwn 0 (oVal (fC (.int 2)) oNil))))) fNil))))))))
def G_l_vector : DFn := fun ρ post xp => F_l_vector (ρ ++ List.replicate 3 none) (endS [0] 1 post xp)
/-- _law_vectors(_law_pen_here); slots: 0 _law_pen_here, 1 _law_many, 2 _law_a, 3 _law_b, 4 _law_turn, 5 _law_k -/
def F_l_vectors : FS :=
  (fSeq (fSet 1 (fCall G_l_draw [some 0, none] (oOwn 0 (oVal (fC (.int 7)) oNil))))
    (fSeq (fIfS (fTest (fBin gEqU (fCall G_l_draw [some 0, none] (oOwn 0 (oVal (fC (.int 3)) oNil))) (fC (.int 0))))
    (fSeq (fAsg (gTp (gCn (gNm 2) (gCn (gNm 3) gNl))) (fCall G_l_vector [some 0] (oOwn 0 oNil)))
    (fRet (fLc (fSeqI (fLc (fRange1 (fCons (fVar 1) fNil)) [4] (gNm 4) tYesD (fBin gSub (fCall G_l_draw [some 0, none] (oOwn 0 (oVal (fC (.int 13)) oNil))) (fC (.int 6))))) [5] (gNm 5) tYesD (fTupE (fCons (fBin gMul (fVar 2) (fVar 5)) (fCons (fBin gMul (fVar 3) (fVar 5)) fNil))))))
    fNext)
    (fRet (fLc (fRange1 (fCons (fVar 1) fNil)) [4] (gNm 4) tYesD (fCall G_l_vector [some 0] (oOwn 0 oNil))))))
def G_l_vectors : DFn := fun ρ post xp => F_l_vectors (ρ ++ List.replicate 5 none) (endS [0] 1 post xp)
/-- turned_down(top, vector); slots: 0 top, 1 vector, 2 times -/
def F_turned_down : FS :=
  (fSeq (fWhile (fTest (fBin gNeU (fBin gIx (fVar 1) (fC (.int 0))) (fC (.int 0))))
    (fSeq (fSet 2 (fBin gFdiv (fBin gIx (fVar 0) (fC (.int 0))) (fBin gIx (fVar 1) (fC (.int 0)))))
    (fPar 0 1 (fCons (fVar 1) (fCons (fTupE (fCons (fBin gSub (fBin gIx (fVar 0) (fC (.int 0))) (fBin gMul (fVar 2) (fBin gIx (fVar 1) (fC (.int 0))))) (fCons (fBin gSub (fBin gIx (fVar 0) (fC (.int 1))) (fBin gMul (fVar 2) (fBin gIx (fVar 1) (fC (.int 1))))) fNil))) fNil)))))
    (fRet (fTupE (fCons (fVar 0) (fCons (fVar 1) fNil)))))
def G_turned_down : DFn := fun ρ post xp => F_turned_down (ρ ++ List.replicate 1 none) (endS [] 2 post xp)
/-- greatest_divisor(first, second); slots: 0 first, 1 second -/
def F_greatest_divisor : FS :=
  (fSeq (fWhile (fTest (fBin gNeU (fVar 1) (fC (.int 0))))
    (fPar 0 1 (fCons (fVar 1) (fCons (fBin gFmod (fVar 0) (fVar 1)) fNil))))
    (fRet (fN gAbs (fCons (fVar 0) fNil))))
def G_greatest_divisor : DFn := fun ρ post xp => F_greatest_divisor (ρ ++ List.replicate 0 none) (endS [] 2 post xp)
/-- basis_of(vectors); slots: 0 vectors, 1 top, 2 height, 3 vector, 4 rest -/
def F_basis_of : FS :=
  (fSeq (fSet 1 (fTupE (fCons (fC (.int 0)) (fCons (fC (.int 0)) fNil))))
    (fSeq (fSet 2 (fC (.int 0)))
    (fSeq (fFor (fSeqI (fVar 0)) (gNm 3)
    (fSeq (fAsg (gTp (gCn (gNm 1) (gCn (gNm 4) gNl))) (fCall G_turned_down [none, none] (oVal (fVar 1) (oVal (fVar 3) oNil))))
    (fSet 2 (fCall G_greatest_divisor [none, none] (oVal (fVar 2) (oVal (fBin gIx (fVar 4) (fC (.int 1))) oNil))))))
    (fSeq (fIfS (fTest (fBin gLt (fBin gIx (fVar 1) (fC (.int 0))) (fC (.int 0))))
    (fSet 1 (fTupE (fCons (fUn gNeg (fBin gIx (fVar 1) (fC (.int 0)))) (fCons (fUn gNeg (fBin gIx (fVar 1) (fC (.int 1)))) fNil))))
    fNext)
    (fSeq (fIfS (fTest (fBin gEqU (fBin gIx (fVar 1) (fC (.int 0))) (fC (.int 0))))
    (fRet (fIf (fTest (fBin gGtU (fVar 2) (fC (.int 0)))) (fTupE (fCons (fTupE (fCons (fC (.int 0)) (fCons (fVar 2) fNil))) fNil)) (fTupE fNil)))
    fNext)
    (fSeq (fIfS (fTest (fBin gEqU (fVar 2) (fC (.int 0))))
    (fRet (fTupE (fCons (fVar 1) fNil)))
    fNext)
    (fRet (fTupE (fCons (fTupE (fCons (fBin gIx (fVar 1) (fC (.int 0))) (fCons (fBin gFmod (fBin gIx (fVar 1) (fC (.int 1))) (fVar 2)) fNil))) (fCons (fTupE (fCons (fC (.int 0)) (fCons (fVar 2) fNil))) fNil))))))))))
def G_basis_of : DFn := fun ρ post xp => F_basis_of (ρ ++ List.replicate 4 none) (endS [] 1 post xp)
/-- Lattice.__init__(self, vectors); slots: 0 self, 1 vectors -/
def F_Lattice___init__ : FS :=
  (fPutF 0 "Lattice" "generators" (fCall G_basis_of [none] (oVal (fVar 1) oNil)))
def G_Lattice___init__ : DFn := fun ρ post xp => F_Lattice___init__ (ρ ++ List.replicate 0 none) (endS [0] 2 post xp)
/-- _law_lattice(_law_vectors_here); slots: 0 _law_vectors_here -/
def F_l_lattice : FS :=
  (fSeq (fIfS (fTest (fBin gEqU (fVar 0) (fLstE fNil)))
    (fRet (fMakeS "Lattice" G_Lattice___init__ fNil))
    fNext)
    (fSeq (fIfS (fTest (fBin gEqU (fN gLen (fCons (fVar 0) fNil)) (fC (.int 1))))
    (fRet (fMakeS "Lattice" G_Lattice___init__ (fCons (fBin gIx (fVar 0) (fC (.int 0))) fNil)))
    fNext)
    (fSeq (fIfS (fTest (fBin gEqU (fN gLen (fCons (fVar 0) fNil)) (fC (.int 2))))
    (fRet (fMakeS "Lattice" G_Lattice___init__ (fCons (fBin gIx (fVar 0) (fC (.int 0))) (fCons (fBin gIx (fVar 0) (fC (.int 1))) fNil))))
    fNext)
    (fSeq (fIfS (fTest (fBin gEqU (fN gLen (fCons (fVar 0) fNil)) (fC (.int 3))))
    (fRet (fMakeS "Lattice" G_Lattice___init__ (fCons (fBin gIx (fVar 0) (fC (.int 0))) (fCons (fBin gIx (fVar 0) (fC (.int 1))) (fCons (fBin gIx (fVar 0) (fC (.int 2))) fNil)))))
    fNext)
    (fSeq (fIfS (fTest (fBin gEqU (fN gLen (fCons (fVar 0) fNil)) (fC (.int 4))))
    (fRet (fMakeS "Lattice" G_Lattice___init__ (fCons (fBin gIx (fVar 0) (fC (.int 0))) (fCons (fBin gIx (fVar 0) (fC (.int 1))) (fCons (fBin gIx (fVar 0) (fC (.int 2))) (fCons (fBin gIx (fVar 0) (fC (.int 3))) fNil))))))
    fNext)
    (fSeq (fIfS (fTest (fBin gEqU (fN gLen (fCons (fVar 0) fNil)) (fC (.int 5))))
    (fRet (fMakeS "Lattice" G_Lattice___init__ (fCons (fBin gIx (fVar 0) (fC (.int 0))) (fCons (fBin gIx (fVar 0) (fC (.int 1))) (fCons (fBin gIx (fVar 0) (fC (.int 2))) (fCons (fBin gIx (fVar 0) (fC (.int 3))) (fCons (fBin gIx (fVar 0) (fC (.int 4))) fNil)))))))
    fNext)
    (fRet (fMakeS "Lattice" G_Lattice___init__ (fCons (fBin gIx (fVar 0) (fC (.int 0))) (fCons (fBin gIx (fVar 0) (fC (.int 1))) (fCons (fBin gIx (fVar 0) (fC (.int 2))) (fCons (fBin gIx (fVar 0) (fC (.int 3))) (fCons (fBin gIx (fVar 0) (fC (.int 4))) (fCons (fBin gIx (fVar 0) (fC (.int 5))) fNil))))))))))))))
def G_l_lattice : DFn := fun ρ post xp => F_l_lattice (ρ ++ List.replicate 0 none) (endS [] 1 post xp)
/-- _law_turned(_law_pen_here, _law_vectors_here); slots: 0 _law_pen_here, 1 _law_vectors_here, 2 _law_found, 3 _law_lap, 4 _law_at, 5 _law_other, 6 _law_times -/
def F_l_turned : FS :=
  (fSeq (fSetN 2 (fN gList (fCons (fVar 1) fNil)))
    (fSeq (fFor (fRange1 (fCons (fC (.int 6)) fNil)) (gNm 3)
    (fSeq (fIfS (fTest (fBin gGtU (fN gLen (fCons (fVar 2) fNil)) (fC (.int 1))))
    (fSeq (fSet 4 (fCall G_l_draw [some 0, none] (oOwn 0 (oVal (fN gLen (fCons (fVar 2) fNil)) oNil))))
    (fSeq (fSet 5 (fBin gFmod (fBin gAdd (fBin gAdd (fVar 4) (fC (.int 1))) (fCall G_l_draw [some 0, none] (oOwn 0 (oVal (fBin gSub (fN gLen (fCons (fVar 2) fNil)) (fC (.int 1))) oNil)))) (fN gLen (fCons (fVar 2) fNil))))
    (fSeq (fSet 6 (fBin gSub (fCall G_l_draw [some 0, none] (oOwn 0 (oVal (fC (.int 3)) oNil))) (fC (.int 1))))
    (fPutL 2 (fTupE (fCons (fBin gAdd (fBin gIx (fBinL gIx 2 (fVar 4)) (fC (.int 0))) (fBin gMul (fVar 6) (fBin gIx (fBinL gIx 2 (fVar 5)) (fC (.int 0))))) (fCons (fBin gAdd (fBin gIx (fBinL gIx 2 (fVar 4)) (fC (.int 1))) (fBin gMul (fVar 6) (fBin gIx (fBinL gIx 2 (fVar 5)) (fC (.int 1))))) fNil))) (fVar 4)))))
    fNext)
    (fIfS (fAnd (fTest (fBinL gNeU 2 (fLstE fNil))) (fTest (fBin gEqU (fCall G_l_draw [some 0, none] (oOwn 0 (oVal (fC (.int 2)) oNil))) (fC (.int 0)))))
    (fSetN 2 (fAddN (fCutO 2 (oSome (fC (.int 1))) oNone) (fLstE (fCons (fTupE (fCons (fBin gSub (fC (.int 0)) (fBin gIx (fBinL gIx 2 (fC (.int 0))) (fC (.int 0)))) (fCons (fBin gSub (fC (.int 0)) (fBin gIx (fBinL gIx 2 (fC (.int 0))) (fC (.int 1)))) fNil))) fNil))))
    fNext)))
    (fRet (fVar 2))))
def G_l_turned : DFn := fun ρ post xp => F_l_turned (ρ ++ List.replicate 5 none) (endS [0] 2 post xp)
/-- Lattice.__eq__(self, other); slots: 0 self, 1 other -/
def F_Lattice___eq__ : FS :=
  (fRet (fAndV (fIsiOwn "Lattice" (fVar 1)) (fBin gEqU (fUn (gFld "Lattice" "generators") (fVar 0)) (fUn (gFld "Lattice" "generators") (fVar 1)))))
def G_Lattice___eq__ : DFn := fun ρ post xp => F_Lattice___eq__ (ρ ++ List.replicate 0 none) (endS [] 2 post xp)
/-- _law_compared(_law_one, _law_other, _law_due); slots: 0 _law_one, 1 _law_other, 2 _law_due -/
def F_l_compared : FS :=
  (fRet (fBin gEqU (fN gRepr (fCons (fLstE (fCons (fEqOwn "Lattice" false G_Lattice___eq__ (fVar 0) (fVar 1)) (fCons (fEqOwn "Lattice" false G_Lattice___eq__ (fVar 1) (fVar 0)) (fCons (fEqOwn "Lattice" true G_Lattice___eq__ (fVar 0) (fVar 1)) (fCons (fEqOwn "Lattice" true G_Lattice___eq__ (fVar 1) (fVar 0)) fNil))))) fNil)) (fN gRepr (fCons (fLstE (fCons (fVar 2) (fCons (fVar 2) (fCons (fNotV (fVar 2)) (fCons (fNotV (fVar 2)) fNil))))) fNil))))
def G_l_compared : DFn := fun ρ post xp => F_l_compared (ρ ++ List.replicate 0 none) (endS [] 3 post xp)
/-- Lattice.basis(self); slots: 0 self -/
def F_Lattice_basis : FS :=
  (fRet (fUn (gFld "Lattice" "generators") (fVar 0)))
def G_Lattice_basis : DFn := fun ρ post xp => F_Lattice_basis (ρ ++ List.replicate 0 none) (endS [] 1 post xp)
/-- is_integer(value); slots: 0 value -/
def F_is_integer : FS :=
  (fRet (fAndV (fN (gIsi .int) (fCons (fVar 0) (fCons (fC (.ty "int")) fNil))) (fNotV (fN (gIsi .bool) (fCons (fVar 0) (fCons (fC (.ty "bool")) fNil))))))
def G_is_integer : DFn := fun ρ post xp => F_is_integer (ρ ++ List.replicate 0 none) (endS [] 1 post xp)
/-- is_pair(value); slots: 0 value -/
def F_is_pair : FS :=
  (fRet (fAndV (fN (gIsi .tuple) (fCons (fVar 0) (fCons (fC (.ty "tuple")) fNil))) (fAndV (fBin gEqU (fN gLen (fCons (fVar 0) fNil)) (fC (.int 2))) (fAndV (fCall G_is_integer [none] (oVal (fBin gIx (fVar 0) (fC (.int 0))) oNil)) (fCall G_is_integer [none] (oVal (fBin gIx (fVar 0) (fC (.int 1))) oNil))))))
def G_is_pair : DFn := fun ρ post xp => F_is_pair (ρ ++ List.replicate 0 none) (endS [] 1 post xp)
/-- Lattice.__contains__(self, vector); slots: 0 self, 1 vector, 2 x, 3 y, 4 a, 5 b, 6 times -/
def F_Lattice___contains__ : FS :=
  (fSeq (fIfS (fNot (fTest (fCall G_is_pair [none] (oVal (fVar 1) oNil))))
    (fRet (fC (.bl false)))
    fNext)
    (fSeq (fAsg (gTp (gCn (gNm 2) (gCn (gNm 3) gNl))) (fVar 1))
    (fSeq (fFor (fSeqI (fUn (gFld "Lattice" "generators") (fVar 0))) (gTp (gCn (gNm 4) (gCn (gNm 5) gNl)))
    (fSeq (fSet 6 (fIf (fTest (fBin gNeU (fVar 4) (fC (.int 0)))) (fBin gFdiv (fVar 2) (fVar 4)) (fBin gFdiv (fVar 3) (fVar 5))))
    (fPar 2 3 (fCons (fBin gSub (fVar 2) (fBin gMul (fVar 6) (fVar 4))) (fCons (fBin gSub (fVar 3) (fBin gMul (fVar 6) (fVar 5))) fNil)))))
    (fRet (fAndV (fBin gEqU (fVar 2) (fC (.int 0))) (fBin gEqU (fVar 3) (fC (.int 0))))))))
def G_Lattice___contains__ : DFn := fun ρ post xp => F_Lattice___contains__ (ρ ++ List.replicate 5 none) (endS [] 2 post xp)
/-- Lattice.within(self, other); slots: 0 self, 1 other, 2 vector -/
def F_Lattice_within : FS :=
  (fRet (fN gAll (fCons (fLc (fSeqI (fUn (gFld "Lattice" "generators") (fVar 0))) [2] (gNm 2) tYesD (fInOwn "Lattice" false G_Lattice___contains__ (fVar 2) (fVar 1))) fNil)))
def G_Lattice_within : DFn := fun ρ post xp => F_Lattice_within (ρ ++ List.replicate 1 none) (endS [] 2 post xp)
/-- _law_divisor(_law_one, _law_other); slots: 0 _law_one, 1 _law_other -/
def F_l_divisor : FS :=
  (fSeq (fWhile (fTest (fBin gNeU (fVar 1) (fC (.int 0))))
    (fPar 0 1 (fCons (fVar 1) (fCons (fBin gFmod (fVar 0) (fVar 1)) fNil))))
    (fRet (fN gAbs (fCons (fVar 0) fNil))))
def G_l_divisor : DFn := fun ρ post xp => F_l_divisor (ρ ++ List.replicate 0 none) (endS [] 2 post xp)
/-- _law_sizes(_law_vectors_here); slots: 0 _law_vectors_here, 1 _law_wide, 2 _law_thin, 3 _law_a, 4 _law_b, 5 _law_c, 6 _law_d -/
def F_l_sizes : FS :=
  (fSeq (fSet 1 (fC (.int 0)))
    (fSeq (fSet 2 (fC (.int 0)))
    (fSeq (fFor (fSeqI (fVar 0)) (gTp (gCn (gNm 3) (gCn (gNm 4) gNl)))
    (fSeq (fSet 2 (fCall G_l_divisor [none, none] (oVal (fCall G_l_divisor [none, none] (oVal (fVar 2) (oVal (fVar 3) oNil))) (oVal (fVar 4) oNil))))
    (fFor (fSeqI (fVar 0)) (gTp (gCn (gNm 5) (gCn (gNm 6) gNl)))
    (fSet 1 (fCall G_l_divisor [none, none] (oVal (fVar 1) (oVal (fBin gSub (fBin gMul (fVar 3) (fVar 6)) (fBin gMul (fVar 4) (fVar 5))) oNil)))))))
    (fRet (fTupE (fCons (fVar 1) (fCons (fVar 2) fNil)))))))
def G_l_sizes : DFn := fun ρ post xp => F_l_sizes (ρ ++ List.replicate 6 none) (endS [] 1 post xp)
/-- _law_reached(_law_vectors_here, _law_pair); slots: 0 _law_vectors_here, 1 _law_pair -/
def F_l_reached : FS :=
  (fSeq (fIfS (fTest (fBin gGtU (fBin gIx (fCall G_l_sizes [none] (oVal (fVar 0) oNil)) (fC (.int 0))) (fC (.int 0))))
    (fRet (fBin gEqU (fBin gIx (fCall G_l_sizes [none] (oVal (fBin gAdd (fVar 0) (fLstE (fCons (fVar 1) fNil))) oNil)) (fC (.int 0))) (fBin gIx (fCall G_l_sizes [none] (oVal (fVar 0) oNil)) (fC (.int 0)))))
    fNext)
    (fRet (fBin gEqU (fCall G_l_sizes [none] (oVal (fBin gAdd (fVar 0) (fLstE (fCons (fVar 1) fNil))) oNil)) (fCall G_l_sizes [none] (oVal (fVar 0) oNil)))))
def G_l_reached : DFn := fun ρ post xp => F_l_reached (ρ ++ List.replicate 0 none) (endS [] 2 post xp)
/-- _law_within(_law_vectors_here, _law_others); slots: 0 _law_vectors_here, 1 _law_others, 2 _law_one -/
def F_l_within : FS :=
  (fRet (fBin gEqU (fLc (fSeqI (fVar 0)) [2] (gNm 2) (fNot (fTest (fCall G_l_reached [none, none] (oVal (fVar 1) (oVal (fVar 2) oNil))))) (fVar 2)) (fLstE fNil)))
def G_l_within : DFn := fun ρ post xp => F_l_within (ρ ++ List.replicate 1 none) (endS [] 2 post xp)
/-- law(_law_script); slots: 0 _law_script, 1 _law_pen_here, 2 _law_turn, 3 _law_vectors_here, 4 _law_made, 5 _law_same, 6 _law_some, 7 _law_others, 8 _law_there, 9 _law_forth, 10 _law_back, 11 _law_odd, 12 _law_a, 13 _law_b -/
def F_law : FS :=
  (fSeq (fSetN 1 (fCall G_l_pen [none] (oVal (fVar 0) oNil)))
    (fSeq (fFor (fRange1 (fCons (fC (.int 3)) fNil)) (gNm 2)
    (fSeq (fSet 3 (fCall G_l_vectors [some 1] (oOwn 1 oNil)))
    (fSeq (fSet 4 (fCall G_l_lattice [none] (oVal (fVar 3) oNil)))
    (fSeq (fSet 5 (fCall G_l_lattice [none] (oVal (fCall G_l_turned [some 1, none] (oOwn 1 (oVal (fVar 3) oNil))) oNil)))
    (fSeq (fIfS (fOr (fNot (fTest (fCall G_l_compared [none, none, none] (oVal (fVar 4) (oVal (fVar 5) (oVal (fC (.bl true)) oNil)))))) (fOr (fTest (fBin gNeU (fProp "Lattice" G_Lattice_basis (fVar 4)) (fProp "Lattice" G_Lattice_basis (fVar 5)))) (fTest (fBin gIsNot (fCall G_Lattice_within [none, none] (oSelf "Lattice" "within" (fVar 4) (oVal (fVar 5) oNil))) (fC (.bl true))))))
    (fRet (fC (.bl false)))
    fNext)
    (fSeq (fIfS (fNot (fTest (fCall G_l_compared [none, none, none] (oVal (fVar 4) (oVal (fCall G_l_lattice [none] (oVal (fN gList (fCons (fProp "Lattice" G_Lattice_basis (fVar 4)) fNil)) oNil)) (oVal (fC (.bl true)) oNil))))))
    (fRet (fC (.bl false)))
    fNext)
    (fSeq (fSet 6 (fLstE (fCons (fCall G_l_vectors [some 1] (oOwn 1 oNil)) (fCons (fCut (fVar 3) (oSome (fC (.int 1))) oNone) (fCons (fLc (fSeqI (fVar 3)) [12, 13] (gTp (gCn (gNm 12) (gCn (gNm 13) gNl))) tYesD (fTupE (fCons (fBin gMul (fC (.int 2)) (fVar 12)) (fCons (fBin gMul (fC (.int 2)) (fVar 13)) fNil)))) (fCons (fLstE fNil) fNil))))))
    (fSeq (fFor (fSeqI (fVar 6)) (gNm 7)
    (fSeq (fSet 8 (fCall G_l_lattice [none] (oVal (fVar 7) oNil)))
    (fSeq (fPar 9 10 (fCons (fCall G_l_within [none, none] (oVal (fVar 3) (oVal (fVar 7) oNil))) (fCons (fCall G_l_within [none, none] (oVal (fVar 7) (oVal (fVar 3) oNil))) fNil)))
    (fSeq (fIfS (fTest (fBin gNeU (fN gRepr (fCons (fLstE (fCons (fCall G_Lattice_within [none, none] (oSelf "Lattice" "within" (fVar 4) (oVal (fVar 8) oNil))) (fCons (fCall G_Lattice_within [none, none] (oSelf "Lattice" "within" (fVar 8) (oVal (fVar 4) oNil))) fNil))) fNil)) (fN gRepr (fCons (fLstE (fCons (fVar 9) (fCons (fVar 10) fNil))) fNil))))
    (fRet (fC (.bl false)))
    fNext)
    (fIfS (fNot (fTest (fCall G_l_compared [none, none, none] (oVal (fVar 4) (oVal (fVar 8) (oVal (fAndV (fVar 9) (fVar 10)) oNil))))))
    (fRet (fC (.bl false)))
    fNext)))))
    (fFor (fSeqI (fLstE (fCons (fC .non) (fCons (fProp "Lattice" G_Lattice_basis (fVar 4)) (fCons (fTupE fNil) (fCons (fC (.int 0)) fNil)))))) (gNm 11)
    (fIfS (fNot (fTest (fCall G_l_compared [none, none, none] (oVal (fVar 4) (oVal (fVar 11) (oVal (fC (.bl false)) oNil))))))
    (fRet (fC (.bl false)))
    fNext))))))))))
    (fRet (fC (.bl true)))))
def G_law : DFn := fun ρ post xp => F_law (ρ ++ List.replicate 13 none) (endS [] 1 post xp)
def pen (cs : List D) (a r : Int) : D := .lst [.lst cs, .int a, .int r]
theorem ix3_0 (x y z : D) (k : D → Prop) : (∃ d, atI [x, y, z] 0 = some d ∧ k d) = k x := by simp [atI, ixN]
theorem ix3_1 (x y z : D) (k : D → Prop) : (∃ d, atI [x, y, z] 1 = some d ∧ k d) = k y := by simp [atI, ixN]
theorem ix3_2 (x y z : D) (k : D → Prop) : (∃ d, atI [x, y, z] 2 = some d ∧ k d) = k z := by simp [atI, ixN]
theorem ixN3_1 (n : Nat) : (ixN (0 + 1 + 1 + 1) 1 = some n) = (n = 1) := by simp [ixN, eq_comm]
theorem ixN3_2 (n : Nat) : (ixN (0 + 1 + 1 + 1) 2 = some n) = (n = 2) := by simp [ixN, eq_comm]
theorem draw_ok {ns : List Int} {a r m : Int} {post : Post} {xp : XP} (ha : 0 ≤ a) (ha2 : a ≤ 1000000) (hr : 0 ≤ r) (hm : 1 ≤ m) (hm2 : m ≤ 1000000)
    (h : ∀ k a' r', 0 ≤ k → k < m → a ≤ a' → a' ≤ a + 1 → 0 ≤ r' → post (.int k) [some (pen (ns.map .int) a' r'), none]) : G_l_draw [some (pen (ns.map .int) a r), some (.int m)] post xp := by
  have m0 : m ≠ 0 := by omega
  have mp : 0 < m := by omega
  have ml := log_small hm hm2
  have n0 : ns ≠ [] → (ns.length : Int) ≠ 0 := fun q z => q (List.eq_nil_of_length_eq_zero (by omega))
  have n1 : ns ≠ [] → 0 < (ns.length : Int) := fun q => by have := n0 q; omega
  have fin : ∀ (x r' a' : Int), a ≤ a' → a' ≤ a + 1 → 0 ≤ r' → post (.int (x.fmod m)) [some (.lst [.lst (ns.map .int), .int a', .int r']), none] := fun x r' a' h1 h2 h3 => h _ _ _ (fmod_nn mp) (fmod_lt mp) h1 h2 h3
  unfold G_l_draw F_l_draw pen
  by_cases hr0 : 0 < r
  · simp [ix3_0, ix3_1, ix3_2, ixN3_1, ixN3_2, hr0, m0, ml]
    exact fin _ _ _ (by omega) (by omega) (fdiv_nn hr mp)
  · have bad : CMulO 226065 a ∧ ∀ x : Int, (x.fmod 2147483549 + 226065 * a + 577).natAbs < 18446744073709551616 ∧ CMulO (((x.fmod 2147483549 + 226065 * a + 577) ^ 5).fmod 2147483477) (a + 39295) ∧ CMulO 74269 a ∧ CMulO (74269 * a) a ∧
        (((x.fmod 2147483549 + 226065 * a + 577) ^ 5).fmod 2147483477 * (a + 39295) + 74269 * a * a).natAbs < 18446744073709551616 ∧ Nat.log2 32 < 9000 :=
      ⟨cmul_l (by omega) (by omega), fun x => ⟨draw_sum (by omega) (by omega) (by omega) (by omega) (by omega) (by omega) (by omega) (by omega), cmul_r (by omega) (by omega), cmul_l (by omega) (by omega), cmul_r (by omega) (by omega), draw_bound (fmod_nn (by omega)) (fmod_lt (by omega)) (by omega) ha ha2 (by omega) (by omega) (by omega) (by omega), by decide⟩⟩
    obtain ⟨b1, b2⟩ := bad
    by_cases hc : ns = []
    · subst hc
      have ha' : ¬ a < 0 := by omega
      obtain ⟨b3, b4, b5, b6, b7, b8⟩ := b2 (52315 * a + 1381)
      simp [ix3_0, ix3_1, ix3_2, ixN3_1, ixN3_2, hr0, m0, ml, ha', b1, b3, b4, b5, b6, b7, b8]
      exact ⟨cmul_l (by omega) (by omega), fin _ _ _ (by omega) (by omega) hr⟩
    · obtain ⟨c, hcx⟩ := atI_ex (a := ns) (i := a.fmod ns.length) (fmod_nn (n1 hc)) (fmod_lt (n1 hc))
      obtain ⟨b3, b4, b5, b6, b7, b8⟩ := b2 c
      by_cases z : c < 0
      · simp [ix3_0, ix3_1, ix3_2, ixN3_1, ixN3_2, hr0, m0, ml, hc, hcx, n0 hc, z, b1, b3, b4, b5, b6, b7, b8]
        refine ⟨cmul_l (by omega) (by omega), ?_⟩
        split
        · split
          · exact ⟨cmul_l (by omega) (by omega), fin _ _ _ (by omega) (by omega) (fdiv_nn (by omega) mp)⟩
          · exact fin _ _ _ (by omega) (by omega) hr
        · exact fin _ _ _ (by omega) (by omega) hr
      · simp [ix3_0, ix3_1, ix3_2, ixN3_1, ixN3_2, hr0, m0, ml, hc, hcx, n0 hc, z, b1, b3, b4, b5, b6, b7, b8]
        refine ⟨cmul_l (by omega) (by omega), ?_⟩
        split
        · split
          · exact ⟨cmul_l (by omega) (by omega), fin _ _ _ (by omega) (by omega) (fdiv_nn (by omega) mp)⟩
          · exact fin _ _ _ (by omega) (by omega) hr
        · exact fin _ _ _ (by omega) (by omega) hr

theorem ldiv_ok {x y : Int} {post : Post} {xp : XP} (q : post (.int (Int.gcd x y)) [none, none]) : G_l_divisor [some (.int x), some (.int y)] post xp := by
  unfold G_l_divisor F_l_divisor
  simp only [fSeq, fWhile, List.replicate, List.append_nil]
  refine while_meas (fun m ρ => ∃ a b : Int, ρ = [some (.int a), some (.int b)] ∧ Int.gcd a b = Int.gcd x y ∧ m = b.natAbs) ?_ (m := y.natAbs) ⟨x, y, rfl, rfl, rfl⟩
  rintro m ρ N hN ⟨a, b, rfl, hg, rfl⟩
  by_cases hb : b = 0
  · subst hb
    rw [Int.gcd_zero_right] at hg
    have e : (if a < 0 then -a else a) = ((Int.gcd x y : Nat) : Int) := by rw [← hg]; split <;> omega
    simp [e]
    exact q
  · simp [hb]
    exact hN (a.fmod b).natAbs _ (fmod_abs hb) ⟨b, a.fmod b, rfl, (gcd_fmod a b).trans hg, rfl⟩
theorem gdiv_ok {x y : Int} {post : Post} {xp : XP} (q : post (.int (Int.gcd x y)) [none, none]) : G_greatest_divisor [some (.int x), some (.int y)] post xp := by
  unfold G_greatest_divisor F_greatest_divisor
  simp only [fSeq, fWhile, List.replicate, List.append_nil]
  refine while_meas (fun m ρ => ∃ a b : Int, ρ = [some (.int a), some (.int b)] ∧ Int.gcd a b = Int.gcd x y ∧ m = b.natAbs) ?_ (m := y.natAbs) ⟨x, y, rfl, rfl, rfl⟩
  rintro m ρ N hN ⟨a, b, rfl, hg, rfl⟩
  by_cases hb : b = 0
  · subst hb
    rw [Int.gcd_zero_right] at hg
    have e : (if a < 0 then -a else a) = ((Int.gcd x y : Nat) : Int) := by rw [← hg]; split <;> omega
    simp [e]
    exact q
  · simp [hb]
    exact hN (a.fmod b).natAbs _ (fmod_abs hb) ⟨b, a.fmod b, rfl, (gcd_fmod a b).trans hg, rfl⟩

theorem small_mul {t s : Int} (h : -1000000000 ≤ t ∧ t ≤ 1000000000) (hs : s = 1 ∨ s = -1) : -1000000000 ≤ t * s ∧ t * s ≤ 1000000000 := by
  rcases hs with rfl | rfl <;> omega
theorem vector_ok {ns : List Int} {a r : Int} {post : Post} {xp : XP} (ha : 0 ≤ a) (ha2 : a ≤ 999980) (hr : 0 ≤ r)
    (h : ∀ x y a' r' : Int, (-1000000000 ≤ x ∧ x ≤ 1000000000) → (-1000000000 ≤ y ∧ y ≤ 1000000000) → a ≤ a' → a' ≤ a + 10 → 0 ≤ r' → post (.tup [.int x, .int y]) [some (pen (ns.map .int) a' r')]) : G_l_vector [some (pen (ns.map .int) a r)] post xp := by
  unfold G_l_vector F_l_vector
  simp
  refine draw_ok ha (by omega) hr (by omega) (by omega) fun k1 a1 r1 _ _ _ _ _ => ?_
  simp
  refine draw_ok (by omega) (by omega) (by omega) (by omega) (by omega) fun k2 a2 r2 _ _ _ _ _ => ?_
  simp
  refine draw_ok (by omega) (by omega) (by omega) (by omega) (by omega) fun k3 a3 r3 _ _ _ _ _ => ?_
  simp
  refine draw_ok (by omega) (by omega) (by omega) (by omega) (by omega) fun k4 a4 r4 _ _ _ _ _ => ?_
  refine ix_drawn (by omega) (by simp; omega) fun d hd => ?_
  obtain ⟨c, rfl, hc0, hc4⟩ : ∃ c : Int, d = .int c ∧ 0 ≤ c ∧ c < 4 := by
    simp at hd
    rcases hd with rfl | rfl | rfl | rfl | rfl | rfl <;> exact ⟨_, rfl, by decide, by decide⟩
  simp
  refine ix_drawn (by omega) (by simp; omega) fun z hz => ?_
  obtain ⟨t, rfl, ht⟩ : ∃ t : Int, z = .int t ∧ -1000000000 ≤ t ∧ t ≤ 1000000000 := by
    simp at hz
    rcases hz with rfl | rfl | rfl | rfl <;> exact ⟨_, rfl, by omega, by omega⟩
  refine draw_ok (by omega) (by omega) (by omega) (by omega) (by omega) fun k5 a5 r5 _ _ _ _ _ => ?_
  refine ix_drawn (by omega) (by simp; omega) fun w hw => ?_
  obtain ⟨s, rfl, hs⟩ : ∃ s : Int, w = .int s ∧ (s = 1 ∨ s = -1) := by
    simp at hw
    rcases hw with rfl | rfl
    · exact ⟨_, rfl, .inl rfl⟩
    · exact ⟨_, rfl, .inr rfl⟩
  simp
  refine ⟨cmul_r (by omega) (by omega), ?_⟩
  refine draw_ok (by omega) (by omega) (by omega) (by omega) (by omega) fun k6 a6 r6 _ _ _ _ _ => ?_
  simp
  refine draw_ok (by omega) (by omega) (by omega) (by omega) (by omega) fun k7 a7 r7 _ _ _ _ _ => ?_
  simp
  refine draw_ok (by omega) (by omega) (by omega) (by omega) (by omega) fun k8 a8 r8 _ _ _ _ _ => ?_
  simp
  refine draw_ok (by omega) (by omega) (by omega) (by omega) (by omega) fun k9 a9 r9 _ _ _ _ _ => ?_
  refine ix_drawn (by omega) (by simp; omega) fun d hd => ?_
  obtain ⟨c', rfl, hc0', hc4'⟩ : ∃ c : Int, d = .int c ∧ 0 ≤ c ∧ c < 4 := by
    simp at hd
    rcases hd with rfl | rfl | rfl | rfl | rfl | rfl <;> exact ⟨_, rfl, by decide, by decide⟩
  simp
  refine ix_drawn (by omega) (by simp; omega) fun z hz => ?_
  obtain ⟨t', rfl, ht'⟩ : ∃ t : Int, z = .int t ∧ -1000000000 ≤ t ∧ t ≤ 1000000000 := by
    simp at hz
    rcases hz with rfl | rfl | rfl | rfl <;> exact ⟨_, rfl, by omega, by omega⟩
  refine draw_ok (by omega) (by omega) (by omega) (by omega) (by omega) fun k10 a10 r10 _ _ _ _ _ => ?_
  refine ix_drawn (by omega) (by simp; omega) fun w hw => ?_
  obtain ⟨s', rfl, hs'⟩ : ∃ s : Int, w = .int s ∧ (s = 1 ∨ s = -1) := by
    simp at hw
    rcases hw with rfl | rfl
    · exact ⟨_, rfl, .inl rfl⟩
    · exact ⟨_, rfl, .inr rfl⟩
  simp
  exact ⟨cmul_r (by omega) (by omega), h _ _ _ _ (small_mul ht hs) (small_mul ht' hs') (by omega) (by omega) (by omega)⟩

def vt (p : Int × Int) : D := .tup [.int p.1, .int p.2]
@[simp] theorem gtp_vt (p : Int × Int) (i j : Nat) (ρ : DL.Env) (k : DL.Env → Prop) : gTp (gCn (gNm i) (gCn (gNm j) gNl)) (vt p) ρ k = k (put (put ρ i (some (.int p.1))) j (some (.int p.2))) := rfl
def Small (b : Int) (p : Int × Int) : Prop := (-b ≤ p.1 ∧ p.1 ≤ b) ∧ -b ≤ p.2 ∧ p.2 ≤ b
theorem mul6 {x j : Int} (hx : -1000000000 ≤ x ∧ x ≤ 1000000000) (hj : -6 ≤ j ∧ j ≤ 6) : -6000000000 ≤ x * j ∧ x * j ≤ 6000000000 := by
  have : j = -6 ∨ j = -5 ∨ j = -4 ∨ j = -3 ∨ j = -2 ∨ j = -1 ∨ j = 0 ∨ j = 1 ∨ j = 2 ∨ j = 3 ∨ j = 4 ∨ j = 5 ∨ j = 6 := by omega
  rcases this with rfl | rfl | rfl | rfl | rfl | rfl | rfl | rfl | rfl | rfl | rfl | rfl | rfl <;> omega
theorem vectors_ok {ns : List Int} {a r : Int} {post : Post} {xp : XP} (ha : 0 ≤ a) (ha2 : a ≤ 999000) (hr : 0 ≤ r)
    (h : ∀ (V : List (Int × Int)) (a' r' : Int), V.length ≤ 6 → (∀ p ∈ V, Small 6000000000 p) → a ≤ a' → a' ≤ a + 80 → 0 ≤ r' → post (.lst (V.map vt)) [some (pen (ns.map .int) a' r')]) : G_l_vectors [some (pen (ns.map .int) a r)] post xp := by
  unfold G_l_vectors F_l_vectors
  simp
  refine draw_ok ha (by omega) hr (by omega) (by omega) fun many a1 r1 _ _ _ _ _ => ?_
  simp
  refine draw_ok (by omega) (by omega) (by omega) (by omega) (by omega) fun k a2 r2 _ _ _ _ _ => ?_
  simp
  obtain ⟨n, rfl, hn⟩ : ∃ n : Nat, many = (n : Int) ∧ n ≤ 6 := ⟨many.toNat, by omega, by omega⟩
  split
  · refine vector_ok (by omega) (by omega) (by omega) fun x y a3 r3 hx hy _ _ _ => ?_
    simp
    refine ⟨by omega, ?_⟩
    refine comp_inv (fun it acc ρ => ∃ (ks : List Int) (a' r' : Int), acc = ks.map D.int ∧ (∀ k ∈ ks, -6 ≤ k ∧ k ≤ 6) ∧ ks.length + it.length = n ∧ a3 ≤ a' ∧ a' ≤ a3 + ks.length ∧ 0 ≤ r' ∧ ρ = [some (pen (ns.map .int) a' r'), some (.int (n : Int)), some (.int x), some (.int y), none, none]) ?_ ?_ _ _ _ ⟨[], a3, r3, rfl, by simp, by simp, by omega, by simp, by omega, rfl⟩
    · rintro acc ρ ⟨ks, a', r', rfl, hk, hl, h1, h2, h3, rfl⟩
      simp at hl
      simp
      refine comp_inv (fun it acc ρ => ∃ (V : List (Int × Int)) (js : List Int), it = js.map D.int ∧ acc = V.map vt ∧ (∀ j ∈ js, -6 ≤ j ∧ j ≤ 6) ∧ V.length + js.length = n ∧ (∀ p ∈ V, Small 6000000000 p) ∧ ρ = [some (pen (ns.map .int) a' r'), some (.int (n : Int)), some (.int x), some (.int y), none, none]) ?_ ?_ _ _ _ ⟨[], ks, rfl, rfl, hk, by simpa using hl, by simp, rfl⟩
      · rintro acc ρ ⟨V, js, e1, rfl, _, hl2, hs, rfl⟩
        have : js = [] := by simpa using e1.symm
        subst this
        simp at hl2
        simp
        exact h V a' r' (by omega) hs (by omega) (by omega) h3
      · rintro d it acc ρ M hM ⟨V, js, e1, rfl, hj, hl2, hs, rfl⟩
        cases js with
        | nil => simp at e1
        | cons j js =>
          rw [List.map_cons, List.cons.injEq] at e1
          obtain ⟨rfl, rfl⟩ := e1
          have hj0 := hj j (by simp)
          simp at hl2
          simp
          refine ⟨cmul_r (by omega) (by omega), cmul_r (by omega) (by omega), by omega, ?_⟩
          refine hM _ _ ⟨V ++ [(x * j, y * j)], js, rfl, by simp [vt], fun q hq => hj q (by simp [hq]), by simp; omega, ?_, rfl⟩
          intro p hp
          simp at hp
          rcases hp with hp | rfl
          · exact hs p hp
          · exact ⟨mul6 hx hj0, mul6 hy hj0⟩
    · rintro d it acc ρ M hM ⟨ks, a', r', rfl, hk, hl, h1, h2, h3, rfl⟩
      simp at hl
      simp
      refine draw_ok (by omega) (by omega) (by omega) (by omega) (by omega) fun k2 a4 r4 _ _ _ _ _ => ?_
      simp
      refine ⟨by omega, hM _ _ ⟨ks ++ [k2 - 6], a4, r4, by simp, ?_, by simp; omega, by omega, by simp; omega, by omega, rfl⟩⟩
      intro q hq
      simp at hq
      rcases hq with hq | rfl
      · exact hk q hq
      · omega
  · refine ⟨by omega, ?_⟩
    refine comp_inv (fun it acc ρ => ∃ (V : List (Int × Int)) (a' r' : Int), acc = V.map vt ∧ V.length + it.length = n ∧ (∀ p ∈ V, Small 6000000000 p) ∧ a2 ≤ a' ∧ a' ≤ a2 + 10 * V.length ∧ 0 ≤ r' ∧ ρ = [some (pen (ns.map .int) a' r'), some (.int (n : Int)), none, none, none, none]) ?_ ?_ _ _ _ ⟨[], a2, r2, rfl, by simp, by simp, by omega, by simp, by omega, rfl⟩
    · rintro acc ρ ⟨V, a', r', rfl, hl, hs, h1, h2, h3, rfl⟩
      simp at hl
      simp
      exact h V a' r' (by omega) hs (by omega) (by omega) h3
    · rintro d it acc ρ M hM ⟨V, a', r', rfl, hl, hs, h1, h2, h3, rfl⟩
      simp at hl
      simp
      refine vector_ok (by omega) (by omega) (by omega) fun x y a3 r3 hx hy _ _ _ => ?_
      simp
      refine ⟨by omega, hM _ _ ⟨V ++ [(x, y)], a3, r3, by simp [vt], by simp; omega, ?_, by omega, by simp; omega, by omega, rfl⟩⟩
      intro p hp
      simp at hp
      rcases hp with hp | rfl
      · exact hs p hp
      · exact ⟨⟨by omega, by omega⟩, by omega, by omega⟩

/-- a set of pairs that is closed under p - t q -/
structure Clo (S : Int × Int → Prop) : Prop where
  zero : S (0, 0)
  sub : ∀ p q : Int × Int, ∀ t : Int, S p → S q → S (p.1 - t * q.1, p.2 - t * q.2)
def Lat (a b h : Int) (p : Int × Int) : Prop := ∃ m n : Int, p.1 = m * a ∧ p.2 = m * b + n * h
def det (p q : Int × Int) : Int := p.1 * q.2 - p.2 * q.1
theorem L_cl (a b h : Int) : Clo (Lat a b h) := by
  refine ⟨⟨0, 0, by simp, by simp⟩, ?_⟩
  rintro p q t ⟨m, n, e1, e2⟩ ⟨m', n', e3, e4⟩
  refine ⟨m - t * m', n - t * n', ?_, ?_⟩
  · simp only [e1, e3]; rw [Int.sub_mul, Int.mul_assoc]
  · simp only [e2, e4, Int.sub_mul, Int.mul_add, Int.mul_assoc]; omega
theorem Clo.mul {S : Int × Int → Prop} (c : Clo S) {p : Int × Int} (t : Int) (h : S p) : S (t * p.1, t * p.2) := by
  have := c.sub (0, 0) p (-t) c.zero h
  simpa [Int.neg_mul] using this
theorem Clo.add {S : Int × Int → Prop} (c : Clo S) {p q : Int × Int} (h : S p) (h' : S q) : S (p.1 + q.1, p.2 + q.2) := by
  have := c.sub p q (-1) h h'
  simpa using this
theorem Clo.ofL {S : Int × Int → Prop} (c : Clo S) {a b h : Int} (h1 : S (a, b)) (h2 : S (0, h)) {p : Int × Int} (hp : Lat a b h p) : S p := by
  obtain ⟨m, n, e1, e2⟩ := hp
  have := c.add (c.mul m h1) (c.mul n h2)
  simp at this
  have e : p = (m * a, m * b + n * h) := Prod.ext e1 e2
  rw [e]; exact this
theorem det_cl (k : Int) (q : Int × Int) : Clo (fun p => k ∣ det p q) := by
  refine ⟨by simp [det], fun p p' t h h' => ?_⟩
  have : det (p.1 - t * p'.1, p.2 - t * p'.2) q = det p q - t * det p' q := by
    simp only [det, Int.sub_mul, Int.mul_sub, Int.mul_assoc]; omega
  rw [this]
  exact Int.dvd_sub h (Int.dvd_mul_of_dvd_right h')
theorem det_cl' (k : Int) (q : Int × Int) : Clo (fun p => k ∣ det q p) := by
  refine ⟨by simp [det], fun p p' t h h' => ?_⟩
  have : det q (p.1 - t * p'.1, p.2 - t * p'.2) = det q p - t * det q p' := by
    simp only [det, Int.sub_mul, Int.mul_sub]
    rw [Int.mul_left_comm q.1 t, Int.mul_left_comm q.2 t]; omega
  rw [this]
  exact Int.dvd_sub h (Int.dvd_mul_of_dvd_right h')
theorem com_cl (k : Int) : Clo (fun p => k ∣ p.1 ∧ k ∣ p.2) := by
  refine ⟨by simp, fun p q t h h' => ⟨Int.dvd_sub h.1 (Int.dvd_mul_of_dvd_right h'.1), Int.dvd_sub h.2 (Int.dvd_mul_of_dvd_right h'.2)⟩⟩
theorem y_cl {S : Int × Int → Prop} (c : Clo S) {x y t : Int} (h : S (0, x)) (h' : S (0, y)) : S (0, x - t * y) := by
  have := c.sub (0, x) (0, y) t h h'
  simpa using this
theorem fmod_sub (a b : Int) : a.fmod b = a - a.fdiv b * b := by
  rw [Int.fmod_def, Int.mul_comm]
theorem gcd_fm (a b : Int) : Int.gcd b (a.fmod b) = Int.gcd a b := by
  rw [fmod_sub, Int.gcd_comm a b]
  have : a - a.fdiv b * b = a + b * (-(a.fdiv b)) := by rw [Int.mul_neg, Int.mul_comm b]; omega
  rw [this]; simp
theorem fm_abs {a b : Int} (h : b ≠ 0) : (a.fmod b).natAbs < b.natAbs := by
  rcases Int.lt_or_gt_of_ne h with h | h
  · have h1 := Int.fmod_nonneg_of_pos (-a) (b := -b) (by omega)
    have h2 := Int.fmod_lt_of_pos (-a) (b := -b) (by omega)
    have : (-a).fmod (-b) = -(a.fmod b) := by
      rw [fmod_sub, fmod_sub, Int.neg_fdiv_neg]; rw [Int.mul_neg]; omega
    omega
  · have h1 := Int.fmod_nonneg_of_pos a h
    have h2 := Int.fmod_lt_of_pos a h
    omega
theorem gcd_cl {S : Int × Int → Prop} (c : Clo S) : ∀ (n : Nat) (x y : Int), y.natAbs ≤ n → S (0, x) → S (0, y) → S (0, (Int.gcd x y : Int)) := by
  intro n
  induction n with
  | zero =>
    intro x y h hx hy
    have : y = 0 := by omega
    subst this
    rw [Int.gcd_zero_right]
    by_cases z : 0 ≤ x
    · rw [Int.natAbs_of_nonneg z]; exact hx
    · have := c.mul (-1) hx
      simp at this
      rw [Int.ofNat_natAbs_of_nonpos (by omega)]; exact this
  | succ n ih =>
    intro x y h hx hy
    by_cases z : y = 0
    · exact ih x y (by omega) hx hy
    · rw [← gcd_fm]
      have := fm_abs (a := x) z
      refine ih y (x.fmod y) (by omega) hy ?_
      rw [fmod_sub]; exact y_cl c hx hy
/-- what basis_of keeps -/
structure Fib (V : List (Int × Int)) (a b h : Int) : Prop where
  all : ∀ p ∈ V, Lat a b h p
  gen : ∀ S, Clo S → (∀ p ∈ V, S p) → S (a, b) ∧ S (0, h)
theorem L_left (a b h : Int) : Lat a b h (a, b) := ⟨1, 0, by simp, by simp⟩
theorem L_right (a b h : Int) : Lat a b h (0, h) := ⟨0, 1, by simp, by simp⟩
theorem Fib.nil : Fib [] 0 0 0 := ⟨by simp, fun S c _ => ⟨c.zero, c.zero⟩⟩
/-- one more vector -/
theorem Fib.snoc {V : List (Int × Int)} {a b h a' b' d : Int} {v : Int × Int} (f : Fib V a b h)
    (up : ∀ S, Clo S → S (a, b) → S v → S (a', b') ∧ S (0, d)) (dn : ∀ S, Clo S → S (a', b') → S (0, d) → S (a, b) ∧ S v) : Fib (V ++ [v]) a' b' (Int.gcd h d) := by
  have c := L_cl a' b' (Int.gcd h d)
  have l0 := L_right a' b' (Int.gcd h d)
  have m : ∀ x : Int, (Int.gcd h d : Int) ∣ x → Lat a' b' (Int.gcd h d) (0, x) := by
    rintro x ⟨k, rfl⟩
    have := c.mul k l0
    simp at this
    rw [Int.mul_comm]; exact this
  have lh := m h (Int.gcd_dvd_left ..)
  have ld := m d (Int.gcd_dvd_right ..)
  have l2 := dn _ c (L_left ..) ld
  refine ⟨fun p hp => ?_, fun S cs hs => ?_⟩
  · simp at hp
    rcases hp with hp | rfl
    · exact c.ofL l2.1 lh (f.all p hp)
    · exact l2.2
  · have g := f.gen S cs fun p hp => hs p (by simp [hp])
    have u := up S cs g.1 (hs v (by simp))
    exact ⟨u.1, gcd_cl cs _ h d (Nat.le_refl _) g.2 u.2⟩
/-- another basis of the same -/
theorem Fib.same {V : List (Int × Int)} {a b h a' b' : Int} (f : Fib V a b h) (h1 : Lat a b h (a', b')) (h2 : Lat a' b' h (a, b)) : Fib V a' b' h := by
  refine ⟨fun p hp => (L_cl a' b' h).ofL h2 (L_right ..) (f.all p hp), fun S cs hs => ?_⟩
  have g := f.gen S cs hs
  exact ⟨cs.ofL g.1 g.2 h1, g.2⟩
theorem Fib.sum {V : List (Int × Int)} {a b h : Int} (f : Fib V a b h) : ∀ ts : List Int, Lat a b h ((List.zipWith (fun p t => p.1 * t) V ts).sum, (List.zipWith (fun p t => p.2 * t) V ts).sum) := by
  have := f.all
  clear f
  induction V with
  | nil => intro ts; simp; exact (L_cl a b h).zero
  | cons v V ih =>
    intro ts
    cases ts with
    | nil => simp; exact (L_cl a b h).zero
    | cons t ts =>
      have i := ih (fun p hp => this p (by simp [hp])) ts
      have m := (L_cl a b h).mul t (this v (by simp))
      have := (L_cl a b h).add m i
      simp at this ⊢
      rw [Int.mul_comm v.1, Int.mul_comm v.2]; exact this
theorem det_L {a b h : Int} {p q : Int × Int} (hp : Lat a b h p) (hq : Lat a b h q) : a * h ∣ det p q := by
  obtain ⟨m, n, e1, e2⟩ := hp
  obtain ⟨m', n', e3, e4⟩ := hq
  refine ⟨m * n' - n * m', ?_⟩
  simp only [det, e1, e2, e3, e4]
  simp only [Int.mul_add, Int.add_mul, Int.mul_sub, Int.sub_mul]
  have h1 : m * a * (m' * b) = m * b * (m' * a) := by
    simp only [Int.mul_assoc, Int.mul_comm, Int.mul_left_comm]
  have h2 : m * a * (n' * h) = a * h * (m * n') := by
    simp only [Int.mul_assoc, Int.mul_comm, Int.mul_left_comm]
  have h3 : n * h * (m' * a) = a * h * (n * m') := by
    simp only [Int.mul_assoc, Int.mul_comm, Int.mul_left_comm]
  rw [h1, h2, h3]; omega
/-- the greatest common divisor of all determinants -/
theorem wide_iff {V : List (Int × Int)} {a b h : Int} (f : Fib V a b h) (n : Int) : (∀ p ∈ V, ∀ q ∈ V, n ∣ det p q) ↔ n ∣ a * h := by
  constructor
  · intro g
    have h1 : ∀ q ∈ V, n ∣ det (a, b) q := fun q hq => (f.gen _ (det_cl n q) fun p hp => g p hp q hq).1
    have := (f.gen _ (det_cl' n (a, b)) h1).2
    simpa [det] using this
  · intro g p hp q hq
    exact Int.dvd_trans g (det_L (f.all p hp) (f.all q hq))
theorem com_L {a b h k : Int} (ha : k ∣ a) (hb : k ∣ b) (hh : k ∣ h) {p : Int × Int} (hp : Lat a b h p) : k ∣ p.1 ∧ k ∣ p.2 := 
  (com_cl k).ofL (S := fun p => k ∣ p.1 ∧ k ∣ p.2) ⟨ha, hb⟩ ⟨by simp, hh⟩ hp
theorem thin_iff {V : List (Int × Int)} {a b h : Int} (f : Fib V a b h) (n : Int) : (∀ p ∈ V, n ∣ p.1 ∧ n ∣ p.2) ↔ (n ∣ a ∧ n ∣ b) ∧ n ∣ h := by
  constructor
  · intro g
    have := f.gen _ (com_cl n) g
    exact ⟨this.1, this.2.2⟩
  · intro g p hp
    exact com_L g.1.1 g.1.2 g.2 (f.all p hp)
theorem dvd_same {x y : Int} (hx : 0 ≤ x) (hy : 0 ≤ y) (h : ∀ n : Int, n ∣ x ↔ n ∣ y) : x = y :=
  Int.dvd_antisymm hx hy ((h x).1 (Int.dvd_refl x)) ((h y).2 (Int.dvd_refl y))
/-- rank two -/
theorem in_of_wide {a b h : Int} {p : Int × Int} (ha : a ≠ 0) (hh : h ≠ 0) (h1 : a * h ∣ det (a, b) p) (h2 : a * h ∣ det (0, h) p) : Lat a b h p := by
  simp only [det] at h1 h2
  have : a * h ∣ h * p.1 := by
    have : (0 * p.2 - h * p.1) = -(h * p.1) := by omega
    rw [this] at h2; exact Int.dvd_neg.1 h2
  rw [Int.mul_comm a h] at this
  obtain ⟨m, em⟩ := Int.dvd_of_mul_dvd_mul_left hh this
  rw [em] at h1
  have e : a * p.2 - b * (a * m) = a * (p.2 - b * m) := by
    rw [Int.mul_sub, Int.mul_left_comm]
  rw [e] at h1
  obtain ⟨n, en⟩ := Int.dvd_of_mul_dvd_mul_left ha h1
  refine ⟨m, n, by rw [em, Int.mul_comm], ?_⟩
  rw [Int.mul_comm m b, Int.mul_comm n h]; omega
theorem L_zero {b h : Int} {p : Int × Int} (hb : b = 0) (h1 : p.1 = 0) (h2 : h ∣ p.2) : Lat 0 b h p := by
  obtain ⟨n, en⟩ := h2
  exact ⟨0, n, by simp [h1], by simp [en, Int.mul_comm]⟩
theorem bezout (a b : Int) : ∃ u v : Int, (Int.gcd a b : Int) = u * a + v * b := by
  have c : Clo (fun p => ∃ u v : Int, p.2 = u * a + v * b) := by
    refine ⟨⟨0, 0, by simp⟩, ?_⟩
    rintro p q t ⟨u, v, e⟩ ⟨u', v', e'⟩
    refine ⟨u - t * u', v - t * v', ?_⟩
    simp only [e, e', Int.mul_add, Int.sub_mul, Int.mul_assoc]; omega
  exact gcd_cl c _ a b (Nat.le_refl _) ⟨1, 0, by simp⟩ ⟨0, 1, by simp⟩
/-- rank one, not upright -/
theorem in_of_thin {a b : Int} {p : Int × Int} (ha : a ≠ 0) (h1 : det (a, b) p = 0) (h2 : ∀ n : Int, n ∣ a → n ∣ b → n ∣ p.1 ∧ n ∣ p.2) : Lat a b 0 p := by
  have hg : (Int.gcd a b : Int) ≠ 0 := by
    intro z
    have := Int.gcd_eq_zero_iff.1 (Int.ofNat_eq_zero.1 z)
    exact ha this.1
  obtain ⟨⟨s, es⟩, s', es'⟩ := h2 _ (Int.gcd_dvd_left a b) (Int.gcd_dvd_right a b)
  obtain ⟨u, v, eg⟩ := bezout a b
  simp only [det] at h1
  have hy : a * p.2 = b * p.1 := by omega
  refine ⟨u * s + v * s', 0, ?_, ?_⟩
  · have e : (Int.gcd a b : Int) * p.1 = Int.gcd a b * ((u * s + v * s') * a) := by
      have e1 : (Int.gcd a b : Int) * p.1 = u * a * p.1 + v * (b * p.1) := by rw [eg]; simp only [Int.add_mul, Int.mul_assoc]
      rw [e1, ← hy, es, es']
      simp only [Int.add_mul, Int.mul_add, Int.mul_assoc, Int.mul_comm, Int.mul_left_comm]
    exact Int.eq_of_mul_eq_mul_left hg e
  · have e : (Int.gcd a b : Int) * p.2 = Int.gcd a b * ((u * s + v * s') * b) := by
      have e1 : (Int.gcd a b : Int) * p.2 = u * (a * p.2) + v * b * p.2 := by rw [eg]; simp only [Int.add_mul, Int.mul_assoc]
      rw [e1, hy, es, es']
      simp only [Int.add_mul, Int.mul_add, Int.mul_assoc, Int.mul_comm, Int.mul_left_comm]
    have := Int.eq_of_mul_eq_mul_left hg e
    simp [this]
/-- the sizes of some pairs, as the law asks for them -/
structure Sizes (V : List (Int × Int)) (w t : Int) : Prop where
  w0 : 0 ≤ w
  t0 : 0 ≤ t
  wd : ∀ n : Int, n ∣ w ↔ ∀ p ∈ V, ∀ q ∈ V, n ∣ det p q
  th : ∀ n : Int, n ∣ t ↔ ∀ p ∈ V, n ∣ p.1 ∧ n ∣ p.2
theorem Sizes.snoc_in {V : List (Int × Int)} {p : Int × Int} {a b h w t w' t' : Int} (f : Fib V a b h) (s : Sizes V w t) (s' : Sizes (V ++ [p]) w' t') (hp : Lat a b h p) : w' = w ∧ t' = t := by
  have f' : Fib (V ++ [p]) a b h := ⟨fun q hq => by
    simp at hq
    rcases hq with hq | rfl
    · exact f.all q hq
    · exact hp, fun S c hs => f.gen S c fun q hq => hs q (by simp [hq])⟩
  constructor
  · refine dvd_same s'.w0 s.w0 fun n => ?_
    rw [s'.wd, s.wd, wide_iff f, wide_iff f']
  · refine dvd_same s'.t0 s.t0 fun n => ?_
    rw [s'.th, s.th, thin_iff f, thin_iff f']
theorem wide_eq {V : List (Int × Int)} {a b h w t : Int} (f : Fib V a b h) (s : Sizes V w t) (ha : 0 ≤ a) (hh : 0 ≤ h) : w = a * h :=
  dvd_same s.w0 (Int.mul_nonneg ha hh) fun n => by rw [s.wd, wide_iff f]
/-- the law's own criterion -/
theorem reached_wide {V : List (Int × Int)} {p : Int × Int} {a b h w t w' t' : Int} (f : Fib V a b h) (ha : 0 ≤ a) (hh : 0 ≤ h) (s : Sizes V w t) (s' : Sizes (V ++ [p]) w' t') (hw : 0 < w) : w' = w ↔ Lat a b h p := by
  refine ⟨fun e => ?_, fun hp => (s.snoc_in f s' hp).1⟩
  have ew := wide_eq f s ha hh
  have a0 : a ≠ 0 := by rintro rfl; simp at ew; omega
  have h0 : h ≠ 0 := by rintro rfl; simp at ew; omega
  have d : ∀ q ∈ V, a * h ∣ det q p := fun q hq => by
    have := (s'.wd w').1 (Int.dvd_refl _) q (by simp [hq]) p (by simp)
    rw [e, ew] at this; exact this
  have g := f.gen _ (det_cl (a * h) p) d
  exact in_of_wide a0 h0 g.1 g.2
theorem reached_thin {V : List (Int × Int)} {p : Int × Int} {a b h w t w' t' : Int} (f : Fib V a b h) (ha : 0 ≤ a) (hh : 0 ≤ h) (hab : a = 0 → b = 0) (s : Sizes V w t) (s' : Sizes (V ++ [p]) w' t') (hw : ¬ 0 < w) : (w' = w ∧ t' = t) ↔ Lat a b h p := by
  refine ⟨fun ⟨e, e2⟩ => ?_, fun hp => s.snoc_in f s' hp⟩
  have ew := wide_eq f s ha hh
  have w0 : w = 0 := by have := s.w0; omega
  subst w0
  have d : ∀ q ∈ V, (0 : Int) ∣ det q p := fun q hq => by
    have := (s'.wd w').1 (Int.dvd_refl _) q (by simp [hq]) p (by simp)
    rw [e] at this; exact this
  have g := f.gen _ (det_cl 0 p) d
  have c : ∀ n : Int, n ∣ a → n ∣ b → n ∣ h → n ∣ p.1 ∧ n ∣ p.2 := fun n h1 h2 h3 => by
    have : n ∣ t := (s.th n).2 ((thin_iff f n).2 ⟨⟨h1, h2⟩, h3⟩)
    rw [← e2] at this
    exact (s'.th n).1 this p (by simp)
  have d1 := Int.zero_dvd.1 g.1
  have d2 := Int.zero_dvd.1 g.2
  by_cases a0 : a = 0
  · have b0 := hab a0
    subst a0 b0
    have := c h (by simp) (by simp) (Int.dvd_refl h)
    refine L_zero rfl ?_ this.2
    by_cases h0 : h = 0
    · subst h0; exact Int.zero_dvd.1 this.1
    · simp [det] at d2
      exact (Int.mul_eq_zero.1 d2).resolve_left h0
  · have h0 : h = 0 := by
      rcases Int.mul_eq_zero.1 ew.symm with z | z
      · exact absurd z a0
      · exact z
    subst h0
    exact in_of_thin a0 d1 fun n h1 h2 => c n h1 h2 (by simp)
/-- a bound of the height -/
theorem height_le {V : List (Int × Int)} {a b h B : Int} (f : Fib V a b h) (hh : 0 ≤ h) (hab : a = 0 → b = 0) (B0 : 0 ≤ B) (hB : ∀ p ∈ V, (-B ≤ p.1 ∧ p.1 ≤ B) ∧ -B ≤ p.2 ∧ p.2 ≤ B) : h ≤ 2 * (B * B) + B := by
  have BB : 0 ≤ B * B := Int.mul_nonneg B0 B0
  by_cases a0 : a = 0
  · have b0 := hab a0
    subst a0 b0
    by_cases z : ∀ p ∈ V, (0 : Int) ∣ p.1 ∧ (0 : Int) ∣ p.2
    · have := ((thin_iff f 0).1 z).2
      have := Int.zero_dvd.1 this
      omega
    · simp only [Classical.not_forall] at z
      obtain ⟨p, hp, z⟩ := z
      obtain ⟨m, n, e1, e2⟩ := f.all p hp
      have := hB p hp
      simp at e1 e2
      have n0 : p.2 ≠ 0 := fun q => z ⟨Int.zero_dvd.2 e1, Int.zero_dvd.2 q⟩
      have : h ≤ p.2.natAbs := by
        have := Int.le_of_dvd (a := h) (b := (p.2.natAbs : Int)) (by omega) (Int.dvd_natAbs.2 ⟨n, by rw [e2, Int.mul_comm]⟩)
        omega
      omega
  · by_cases z : ∀ p ∈ V, ∀ q ∈ V, (0 : Int) ∣ det p q
    · have := Int.zero_dvd.1 ((wide_iff f 0).1 z)
      rcases Int.mul_eq_zero.1 this with q | q
      · exact absurd q a0
      · omega
    · simp only [Classical.not_forall] at z
      obtain ⟨p, hp, q, hq, z⟩ := z
      have d := det_L (f.all p hp) (f.all q hq)
      have d0 : det p q ≠ 0 := fun y => z (Int.zero_dvd.2 y)
      have hd : h ∣ det p q := Int.dvd_trans ⟨a, Int.mul_comm ..⟩ d
      have l : h ≤ (det p q).natAbs := Int.le_of_dvd (by omega) (Int.dvd_natAbs.2 hd)
      have m : ∀ x y : Int, -B ≤ x ∧ x ≤ B → -B ≤ y ∧ y ≤ B → (x * y).natAbs ≤ (B * B).natAbs := fun x y hx hy => by
        rw [Int.natAbs_mul, Int.natAbs_mul]
        exact Nat.mul_le_mul (by omega) (by omega)
      have m1 := m p.1 q.2 (hB p hp).1 (hB q hq).2
      have m2 := m p.2 q.1 (hB p hp).2 (hB q hq).1
      simp only [det] at l
      omega
theorem fdiv_mul {m a : Int} (h : a ≠ 0) : (m * a).fdiv a = m := by
  have := Int.mul_fdiv_cancel m h
  exact this
theorem L_red {a b h : Int} {p : Int × Int} (ha : a ≠ 0) : Lat a b h p ↔ (p.1 - p.1.fdiv a * a = 0 ∧ Lat 0 0 h (0, p.2 - p.1.fdiv a * b)) := by
  constructor
  · rintro ⟨m, n, e1, e2⟩
    rw [e1, e2, fdiv_mul ha]
    exact ⟨by omega, 0, n, by simp, by simp; omega⟩
  · rintro ⟨e1, m, n, e2, e3⟩
    refine ⟨p.1.fdiv a, n, by omega, ?_⟩
    simp at e3
    omega
theorem L_red0 {h x y : Int} (hh : h ≠ 0) : Lat 0 0 h (x, y) ↔ (x = 0 ∧ y - y.fdiv h * h = 0) := by
  constructor
  · rintro ⟨m, n, e1, e2⟩
    simp at e1 e2
    rw [e1, e2, fdiv_mul hh]
    exact ⟨rfl, by omega⟩
  · rintro ⟨e1, e2⟩
    exact ⟨0, y.fdiv h, by simp [e1], by simp; omega⟩
theorem L_zz {x y : Int} : Lat 0 0 0 (x, y) ↔ (x = 0 ∧ y = 0) := by
  constructor
  · rintro ⟨m, n, e1, e2⟩
    simp at e1 e2
    exact ⟨e1, e2⟩
  · rintro ⟨rfl, rfl⟩
    exact ⟨0, 0, by simp, by simp⟩
/-- the generators that basis_of tells -/
def gens (a b h : Int) : List (Int × Int) := if a = 0 then (if 0 < h then [(0, h)] else []) else if h = 0 then [(a, b)] else [(a, b), (0, h)]
theorem neg_bound {a B : Int} (h : -B ≤ a ∧ a ≤ B) : -B ≤ -a ∧ -a ≤ B := by omega

theorem ix2_0 (x y : D) (k : D → Prop) : (∃ d, atI [x, y] 0 = some d ∧ k d) = k x := by simp [atI, ixN]
theorem ix2_1 (x y : D) (k : D → Prop) : (∃ d, atI [x, y] 1 = some d ∧ k d) = k y := by simp [atI, ixN]
theorem log_of {i : Int} {n : Nat} (h : i.natAbs < 2 ^ n) (n0 : 0 < n) : i.natAbs.log2 < n := by
  by_cases z : i.natAbs = 0
  · rw [z]; simpa using n0
  · exact (Nat.log2_lt z).2 h
theorem fdiv_abs (a c : Int) : (a.fdiv c).natAbs ≤ a.natAbs := by
  by_cases hc : c = 0
  · subst hc; simp
  · have r := fm_abs (a := a) hc
    have e := fmod_sub a c
    have m : (a.fdiv c).natAbs * c.natAbs = (a.fdiv c * c).natAbs := (Int.natAbs_mul ..).symm
    apply Classical.byContradiction
    intro z
    have l : (a.natAbs + 1) * c.natAbs ≤ (a.fdiv c).natAbs * c.natAbs := Nat.mul_le_mul_right _ (by omega)
    rw [Nat.add_mul, Nat.one_mul] at l
    have l2 : a.natAbs * 1 ≤ a.natAbs * c.natAbs := Nat.mul_le_mul_left _ (by omega)
    omega
theorem turned_ok {a b : Int} {v : Int × Int} {B : Int} {post : Post} {xp : XP} (hB2 : B ≤ 18446744073709551614) (ha : -B ≤ a ∧ a ≤ B) (hv : -B ≤ v.1 ∧ v.1 ≤ B)
    (h : ∀ a' b' d : Int, (-B ≤ a' ∧ a' ≤ B) → (a' = 0 → a = 0 ∧ b' = b) → (∀ S, Clo S → S (a, b) → S v → S (a', b') ∧ S (0, d)) → (∀ S, Clo S → S (a', b') → S (0, d) → S (a, b) ∧ S v) →
      post (.tup [vt (a', b'), vt (0, d)]) [none, none]) : G_turned_down [some (vt (a, b)), some (vt v)] post xp := by
  unfold G_turned_down F_turned_down
  simp only [fSeq, fWhile]
  refine while_meas (fun m ρ => ∃ (a' b' : Int) (u : Int × Int) (x : Option D), ρ = [some (vt (a', b')), some (vt u), x] ∧ m = u.1.natAbs ∧ (-B ≤ a' ∧ a' ≤ B) ∧ (-B ≤ u.1 ∧ u.1 ≤ B) ∧ (a' = 0 → (a = 0 ∧ b' = b) ∨ u.1 ≠ 0) ∧ 
    (∀ S, Clo S → S (a, b) → S v → S (a', b') ∧ S u) ∧ (∀ S, Clo S → S (a', b') → S u → S (a, b) ∧ S v)) ?_ (m := v.1.natAbs) ⟨a, b, v, none, rfl, rfl, ha, hv, ?_, fun S _ h1 h2 => ⟨h1, h2⟩, fun S _ h1 h2 => ⟨h1, h2⟩⟩
  · rintro m ρ N hN ⟨a', b', u, x, rfl, rfl, h1, h2, h3, h4, h5⟩
    by_cases hu : u.1 = 0
    · simp [vt, ix2_0, ix2_1, hu]
      have eu : u = (0, u.2) := Prod.ext hu rfl
      rw [eu] at h4 h5
      have := h a' b' u.2 h1 (fun z => (h3 z).resolve_right (by omega)) h4 h5
      simpa [vt] using this
    · have fb := fm_abs (a := a') hu
      simp [vt, ix2_0, ix2_1, hu]
      have lg : u.1.natAbs.log2 < 9000 := Nat.lt_of_lt_of_le (log_of (n := 64) (by omega) (by omega)) (by omega)
      have ts : -(2 ^ 64) < a'.fdiv u.1 ∧ a'.fdiv u.1 < 2 ^ 64 := by have := fdiv_abs a' u.1; omega
      refine ⟨lg, cmul_l ts.1 ts.2, cmul_l ts.1 ts.2, ?_⟩
      have e : a' - a'.fdiv u.1 * u.1 = a'.fmod u.1 := (fmod_sub _ _).symm
      refine hN (a'.fmod u.1).natAbs _ fb ⟨u.1, u.2, (a'.fmod u.1, b' - a'.fdiv u.1 * u.2), _, by simp [vt, e]; rfl, rfl, h2, by simp; omega, fun z => absurd z hu, fun S c s1 s2 => ?_, fun S c s1 s2 => ?_⟩
      · obtain ⟨g1, g2⟩ := h4 S c s1 s2
        have := c.sub _ _ (a'.fdiv u.1) g1 g2
        simp only [e] at this
        exact ⟨g2, this⟩
      · refine h5 S c ?_ s1
        have := c.sub _ _ (-(a'.fdiv u.1)) s2 s1
        simp only [← e] at this
        simpa [Int.neg_mul] using this
  · intro z
    by_cases hv0 : v.1 = 0
    · exact .inl ⟨z, rfl⟩
    · exact .inr hv0
def X6 : Int := 6000000000
@[simp] theorem gIx_vt0 (p : Int × Int) (k) : gIx (vt p) (.int 0) k = k (.int p.1) := by simp [vt, ix2_0]
@[simp] theorem gIx_vt1 (p : Int × Int) (k) : gIx (vt p) (.int 1) k = k (.int p.2) := by simp [vt, ix2_1]
def genT (a b h : Int) : D := .tup ((gens a b h).map vt)
def Sm1 (p : Int × Int) : Prop := -1000000000000 ≤ p.1 ∧ p.1 ≤ 1000000000000
theorem basis_ok {V : List (Int × Int)} {post : Post} {xp : XP} (hV : ∀ p ∈ V, Sm1 p)
    (q : ∀ a b h : Int, Fib V a b h → 0 ≤ a → a ≤ 1000000000000 → 0 ≤ h → (a = 0 → b = 0) → (h ≠ 0 → a ≠ 0 → 0 ≤ b ∧ b < h) → post (genT a b h) [none]) : G_basis_of [some (.tup (V.map vt))] post xp := by
  unfold G_basis_of F_basis_of
  simp
  refine loop_inv (fun ds ρ => ∃ (U W : List (Int × Int)) (a b h : Int) (x3 x4 : Option D), V = U ++ W ∧ ds = W.map vt ∧ Fib U a b h ∧ (-1000000000000 ≤ a ∧ a ≤ 1000000000000) ∧ 0 ≤ h ∧ (a = 0 → b = 0) ∧
    ρ = [some (.tup (V.map vt)), some (vt (a, b)), some (.int h), x3, x4]) ?_ ?_ _ _ ⟨[], V, 0, 0, 0, none, none, rfl, rfl, Fib.nil, by omega, by omega, fun _ => rfl, rfl⟩
  · rintro ρ ⟨U, W, a, b, h, x3, x4, e, ed, f, ba, h0, hab, rfl⟩
    have : W = [] := by simpa using ed.symm
    subst this
    rw [List.append_nil] at e
    subst e
    have fin : ∀ a b : Int, Fib V a b h → 0 ≤ a → a ≤ 1000000000000 → (a = 0 → b = 0) → (if a = 0 then (if 0 < h then post (.tup [.tup [.int 0, .int h]]) [none] else post (.tup []) [none]) else if h = 0 then post (.tup [.tup [.int a, .int b]]) [none] else post (.tup [.tup [.int a, .int (b.fmod h)], .tup [.int 0, .int h]]) [none]) := by
      intro a b f a0 a6 hab
      by_cases za : a = 0
      · have := q a b h f a0 a6 h0 hab (fun _ z => absurd za z)
        simp only [genT, gens, za] at this ⊢
        by_cases zh : 0 < h
        · simpa [zh, vt] using this
        · simpa [zh, vt] using this
      · by_cases zh : h = 0
        · have := q a b h f a0 a6 h0 hab (fun z => absurd zh z)
          simpa [genT, gens, za, zh, vt] using this
        · have e1 : b.fmod h = b - b.fdiv h * h := fmod_sub b h
          have f' : Fib V a (b.fmod h) h := f.same ⟨1, -(b.fdiv h), by simp, by simp [e1, Int.neg_mul]; omega⟩ ⟨1, b.fdiv h, by simp, by simp [e1]⟩
          have := q a (b.fmod h) h f' a0 a6 h0 (fun z => absurd z za) (fun _ _ => ⟨fmod_nn (by omega), fmod_lt (by omega)⟩)
          simpa [genT, gens, za, zh, vt] using this
    simp
    by_cases na : a < 0
    · have f' : Fib V (-a) (-b) h := f.same ⟨-1, 0, by simp, by simp⟩ ⟨-1, 0, by simp, by simp⟩
      have := fin (-a) (-b) f' (by omega) (by omega) (by omega)
      have za : ¬ a = 0 := by omega
      have za' : ¬ (-a) = 0 := by omega
      simp [na, za, za'] at this ⊢
      by_cases zh : h = 0
      · simpa [zh, ix2_0, ix2_1, za] using this
      · simpa [zh, ix2_0, ix2_1, za] using this
    · have := fin a b f (by omega) (by omega) hab
      simp [na] at this ⊢
      by_cases za : a = 0
      · by_cases zh : 0 < h
        · simpa [za, zh, vt] using this
        · simpa [za, zh, vt] using this
      · by_cases zh : h = 0
        · simpa [za, zh, vt] using this
        · simpa [za, zh, vt] using this
  · rintro d ds ρ N hN ⟨U, W, a, b, h, x3, x4, e, ed, f, ba, h0, hab, rfl⟩
    cases W with
    | nil => simp at ed
    | cons p W =>
      rw [List.map_cons, List.cons.injEq] at ed
      obtain ⟨rfl, rfl⟩ := ed
      have sp := hV p (by rw [e]; simp)
      simp
      refine turned_ok (B := 1000000000000) (by omega) ba sp fun a' b' d b1 z1 up dn => ?_
      simp
      refine gdiv_ok ?_
      simp
      refine hN _ ⟨U ++ [p], W, a', b', _, _, _, by rw [e]; simp, rfl, f.snoc up dn, b1, by simp, fun z => ?_, rfl⟩
      rw [(z1 z).2]; exact hab (z1 z).1

theorem cmul_big {i j : Int} (hi : i.natAbs < 2 ^ 200) (hj : j.natAbs < 2 ^ 200) : CMulO i j := by
  have h1 := log_of hi (by omega)
  have h2 := log_of hj (by omega)
  exact .inr (.inr (by omega))
def lat (a b h : Int) : D := .obj "Lattice" [("generators", genT a b h)]
theorem two_ok {A B T : Prop} [Decidable A] [Decidable B] {post : Post} {r : DL.Env} (q : ∀ r' : Bool, (r' = true ↔ T) → post (.bl r') r) (e : T ↔ (A ∧ B)) : if A then post (.bl (decide B)) r else post (.bl false) r := by
  by_cases a : A
  · rw [if_pos a]; exact q _ (by rw [e]; simp [a])
  · rw [if_neg a]; exact q _ (by rw [e]; simp [a])
theorem log9 {i : Int} (h : -18446744073709551616000 < i ∧ i < 18446744073709551616000) : i.natAbs.log2 < 9000 := Nat.lt_of_lt_of_le (log_of (n := 80) (by omega) (by omega)) (by omega)
theorem isint_ok {i : Int} {post : Post} {xp : XP} (q : post (.bl true) [none]) : G_is_integer [some (.int i)] post xp := by
  unfold G_is_integer F_is_integer
  simp
  exact q
theorem pair_ok {p : Int × Int} {post : Post} {xp : XP} (q : post (.bl true) [none]) : G_is_pair [some (vt p)] post xp := by
  unfold G_is_pair F_is_pair
  simp [vt]
  refine isint_ok ?_
  simp
  refine isint_ok ?_
  exact q

theorem init_ok {V : List (Int × Int)} {post : Post} {xp : XP} (hV : ∀ p ∈ V, Sm1 p)
    (q : ∀ a b h : Int, Fib V a b h → 0 ≤ a → a ≤ 1000000000000 → 0 ≤ h → (a = 0 → b = 0) → (h ≠ 0 → a ≠ 0 → 0 ≤ b ∧ b < h) → post .non [some (lat a b h), none]) : G_Lattice___init__ [some (.obj "Lattice" []), some (.tup (V.map vt))] post xp := by
  unfold G_Lattice___init__ F_Lattice___init__
  simp
  refine basis_ok hV fun a b h f a0 a6 h0 hab hb => ?_
  have := q a b h f a0 a6 h0 hab hb
  simp [putFd]
  exact this
theorem lattice_ok {V : List (Int × Int)} {post : Post} {xp : XP} (hl : V.length ≤ 6) (hV : ∀ p ∈ V, Sm1 p)
    (q : ∀ a b h : Int, Fib V a b h → 0 ≤ a → a ≤ 1000000000000 → 0 ≤ h → (a = 0 → b = 0) → (h ≠ 0 → a ≠ 0 → 0 ≤ b ∧ b < h) → post (lat a b h) [none]) : G_l_lattice [some (.lst (V.map vt))] post xp := by
  have q' : ∀ (po : Post) (xo : XP), (∀ a b h : Int, post (lat a b h) [none] → po .non [some (lat a b h), none]) → G_Lattice___init__ [some (.obj "Lattice" []), some (.tup (V.map vt))] po xo := fun po xo g => init_ok hV fun a b h f a0 a6 h0 hab hb => g a b h (q a b h f a0 a6 h0 hab hb)
  clear q hV
  unfold G_l_lattice F_l_lattice
  generalize G_Lattice___init__ = G at q' ⊢
  match V, hl, q' with
  | [], _, q' =>
    simp
    exact q' _ _ fun a b h g => by simp [lat] at g ⊢; exact g
  | [p0], _, q' =>
    simp
    exact q' _ _ fun a b h g => by simp [lat] at g ⊢; exact g
  | [p0, p1], _, q' =>
    simp
    exact q' _ _ fun a b h g => by simp [lat] at g ⊢; exact g
  | [p0, p1, p2], _, q' =>
    simp
    exact q' _ _ fun a b h g => by simp [lat] at g ⊢; exact g
  | [p0, p1, p2, p3], _, q' =>
    simp
    exact q' _ _ fun a b h g => by simp [lat] at g ⊢; exact g
  | [p0, p1, p2, p3, p4], _, q' =>
    simp
    exact q' _ _ fun a b h g => by simp [lat] at g ⊢; exact g
  | [p0, p1, p2, p3, p4, p5], _, q' =>
    simp
    exact q' _ _ fun a b h g => by simp [lat] at g ⊢; exact g
  | _ :: _ :: _ :: _ :: _ :: _ :: _ :: _, hl, _ => 
    simp at hl

theorem gcd_dvd_iff (n a b : Int) : n ∣ (Int.gcd a b : Int) ↔ n ∣ a ∧ n ∣ b :=
  ⟨fun h => ⟨Int.dvd_trans h (Int.gcd_dvd_left ..), Int.dvd_trans h (Int.gcd_dvd_right ..)⟩, fun h => Int.dvd_coe_gcd h.1 h.2⟩
theorem ldiv_ok' {x y : Int} {post : Post} {xp : XP} (q : ∀ g : Int, 0 ≤ g → (∀ n : Int, n ∣ g ↔ n ∣ x ∧ n ∣ y) → post (.int g) [none, none]) : G_l_divisor [some (.int x), some (.int y)] post xp :=
  ldiv_ok (q _ (by omega) fun n => gcd_dvd_iff n x y)
theorem sizes_ok {V : List (Int × Int)} {post : Post} {xp : XP} (hV : ∀ p ∈ V, Sm1 p)
    (q : ∀ w t : Int, Sizes V w t → post (vt (w, t)) [none]) : G_l_sizes [some (.lst (V.map vt))] post xp := by
  have dv : ∀ (x y : Int) (post : Post) (xp : XP), (∀ g : Int, 0 ≤ g → (∀ n : Int, n ∣ g ↔ n ∣ x ∧ n ∣ y) → post (.int g) [none, none]) → G_l_divisor [some (.int x), some (.int y)] post xp := fun x y post xp q => ldiv_ok' q
  unfold G_l_sizes F_l_sizes
  generalize G_l_divisor = G at dv ⊢
  simp
  refine loop_inv (fun ds ρ => ∃ (U W : List (Int × Int)) (w t : Int) (x3 x4 x5 x6 : Option D), V = U ++ W ∧ ds = W.map vt ∧ 0 ≤ w ∧ 0 ≤ t ∧ (∀ n : Int, n ∣ w ↔ ∀ p ∈ U, ∀ q ∈ V, n ∣ det p q) ∧ (∀ n : Int, n ∣ t ↔ ∀ p ∈ U, n ∣ p.1 ∧ n ∣ p.2) ∧
    ρ = [some (.lst (V.map vt)), some (.int w), some (.int t), x3, x4, x5, x6]) ?_ ?_ _ _ ⟨[], V, 0, 0, none, none, none, none, rfl, rfl, by omega, by omega, by simp, by simp, rfl⟩
  · rintro ρ ⟨U, W, w, t, x3, x4, x5, x6, e, ed, w0, t0, hw, ht, rfl⟩
    have : W = [] := by simpa using ed.symm
    subst this
    rw [List.append_nil] at e
    subst e
    simp
    exact q w t ⟨w0, t0, hw, ht⟩
  · rintro d ds ρ N hN ⟨U, W, w, t, x3, x4, x5, x6, e, ed, w0, t0, hw, ht, rfl⟩
    cases W with
    | nil => simp at ed
    | cons p W =>
      rw [List.map_cons, List.cons.injEq] at ed
      obtain ⟨rfl, rfl⟩ := ed
      have sp := hV p (by rw [e]; simp)
      simp -dsimp only [gTp, vt, ↓gCn, ↓gNm, ↓gNl, ↓fSeq, ↓fSet, ↓fCall, ↓oVal, ↓fVar, get_succ, get_zero, put_succ, put_zero, ↓oNil, DL.lentOk, DL.fill, DL.unfill, ↓fFor, ↓fSeqI, ↓sq_nx, ↓lp_nx, ↓sq_ex, ↓lp_ex, ↓fBin]
      simp -dsimp only [true_and, and_true]
      refine dv _ _ _ _ fun g1 g10 gd1 => ?_
      simp -dsimp only [gTp, vt, ↓gCn, ↓gNm, ↓gNl, ↓fSeq, ↓fSet, ↓fCall, ↓oVal, ↓fVar, get_succ, get_zero, put_succ, put_zero, ↓oNil, DL.lentOk, DL.fill, DL.unfill, ↓fFor, ↓fSeqI, ↓sq_nx, ↓lp_nx, ↓sq_ex, ↓lp_ex, ↓fBin]
      simp -dsimp only [true_and, and_true]
      refine dv _ _ _ _ fun g2 g20 gd2 => ?_
      simp -dsimp only [gTp, vt, ↓gCn, ↓gNm, ↓gNl, ↓fSeq, ↓fSet, ↓fCall, ↓oVal, ↓fVar, get_succ, get_zero, put_succ, put_zero, ↓oNil, DL.lentOk, DL.fill, DL.unfill, ↓fFor, ↓fSeqI, ↓sq_nx, ↓lp_nx, ↓sq_ex, ↓lp_ex, ↓fBin]
      refine loop_inv (fun ds ρ => ∃ (U' W' : List (Int × Int)) (w' : Int) (x5 x6 : Option D), V = U' ++ W' ∧ ds = W'.map vt ∧ 0 ≤ w' ∧ (∀ n : Int, n ∣ w' ↔ (∀ p ∈ U, ∀ q ∈ V, n ∣ det p q) ∧ (∀ q ∈ U', n ∣ det p q)) ∧
        ρ = [some (.lst (V.map vt)), some (.int w'), some (.int g2), some (.int p.1), some (.int p.2), x5, x6]) ?_ ?_ _ _ ⟨[], V, w, x5, x6, rfl, rfl, w0, by simpa using hw, rfl⟩
      · rintro ρ ⟨U', W', w', x5', x6', e', ed', w0', hw', rfl⟩
        have : W' = [] := by simpa using ed'.symm
        subst this
        rw [List.append_nil] at e'
        subst e'
        refine hN _ ⟨U ++ [p], W, w', _, _, _, _, _, by rw [e]; simp, rfl, w0', by omega, fun n => ?_, fun n => ?_, rfl⟩
        · rw [hw' n, all_snoc]
        · rw [gd2, gd1, ht n, all_snoc, and_assoc]
      · rintro d ds ρ M hM ⟨U', W', w', x5', x6', e', ed', w0', hw', rfl⟩
        cases W' with
        | nil => simp at ed'
        | cons p' W' =>
          rw [List.map_cons, List.cons.injEq] at ed'
          obtain ⟨rfl, rfl⟩ := ed'
          have sp' := hV p' (by rw [e']; simp)
          unfold Sm1 at sp sp'
          simp [vt]
          refine ⟨cmul_l (by omega) (by omega), cmul_r (by omega) (by omega), ?_⟩
          refine dv _ _ _ _ fun g3 g30 gd3 => ?_
          simp
          refine hM _ ⟨U' ++ [p'], W', _, _, _, by rw [e']; simp, rfl, ?_, fun n => ?_, rfl⟩
          · exact g30
          · rw [gd3, hw' n, all_snoc, and_assoc]
            rfl

theorem Sizes.uniq {V : List (Int × Int)} {w t w' t' : Int} (s : Sizes V w t) (s' : Sizes V w' t') : w' = w ∧ t' = t :=
  ⟨dvd_same s'.w0 s.w0 fun n => by rw [s'.wd, s.wd], dvd_same s'.t0 s.t0 fun n => by rw [s'.th, s.th]⟩
theorem eq_vt (p q : Int × Int) (k) : gEqU (vt p) (vt q) k = k (.bl (decide (p.1 = q.1 ∧ p.2 = q.2))) := by
  show gEq _ _ _ = _
  have sh : ∀ p : Int × Int, SeqAt.shaped (.tuple [.int p.1, .int p.2]) = true := fun p => by
    simp [SeqAt.shaped, PyData.canLay0, PyData.depth, PyData.canLayAll0, PyData.depthAll]
  have pp : ∀ p : Int × Int, pd (vt p) = some (.tuple [.int p.1, .int p.2]) := fun p => rfl
  rw [gEq_of (pp p) (pp q) (sh p) (sh q)]
  have e : PyData.eqv (.tuple [.int p.1, .int p.2]) (.tuple [.int q.1, .int q.2]) = decide (p.1 = q.1 ∧ p.2 = q.2) := by
    simp only [PyData.eqv, PyData.eqvAll]
    by_cases h : p.1 = q.1 <;> by_cases h' : p.2 = q.2 <;> simp [h, h']
  rw [e]
theorem reached_ok {V : List (Int × Int)} {a b h : Int} {p : Int × Int} {post : Post} {xp : XP} (hl : V.length ≤ 6) (hV : ∀ p ∈ V, Sm1 p) (hp : Sm1 p) (f : Fib V a b h) (a0 : 0 ≤ a) (h0 : 0 ≤ h) (hab : a = 0 → b = 0)
    (q : ∀ r : Bool, (r = true ↔ Lat a b h p) → post (.bl r) [none, none]) : G_l_reached [some (.lst (V.map vt)), some (vt p)] post xp := by
  have hV' : ∀ q ∈ V ++ [p], Sm1 q := fun q hq => by
    simp at hq
    rcases hq with hq | rfl
    · exact hV q hq
    · exact hp
  have em : (V.map vt ++ [vt p] : List D) = (V ++ [p]).map vt := by simp
  have dv : ∀ (U : List (Int × Int)) (post : Post) (xp : XP), (∀ p ∈ U, Sm1 p) → (∀ w t : Int, Sizes U w t → post (vt (w, t)) [none]) → G_l_sizes [some (.lst (U.map vt))] post xp := fun U post xp h q => sizes_ok h q
  unfold G_l_reached F_l_reached
  generalize G_l_sizes = G at dv ⊢
  simp
  refine dv V _ _ hV fun w t s => ?_
  simp
  by_cases hw : 0 < w
  · simp [hw]
    refine ⟨by omega, ?_⟩
    rw [em]
    refine dv _ _ _ hV' fun w1 t1 s1 => ?_
    simp
    refine dv _ _ _ hV fun w2 t2 s2 => ?_
    simp
    have e := (s.uniq s2).1
    subst e
    exact q _ (by rw [decide_eq_true_iff]; exact reached_wide f a0 h0 s2 s1 hw)
  · simp [hw]
    refine ⟨by omega, ?_⟩
    rw [em]
    refine dv _ _ _ hV' fun w1 t1 s1 => ?_
    simp
    refine dv _ _ _ hV fun w2 t2 s2 => ?_
    rw [eq_vt]
    obtain ⟨e, e'⟩ := s.uniq s2
    subst e e'
    exact q _ (by rw [decide_eq_true_iff]; exact reached_thin f a0 h0 hab s2 s1 hw)

theorem pen_ok {ns : List Int} {post : Post} {xp : XP} (hn : ns.length ≤ 63) (q : post (pen (ns.map .int) 0 0) [none]) : G_l_pen [some (.slst (ns.map .int))] post xp := by
  have hcut : cutL (List.map D.int ns) none (some 63) = List.map D.int ns := cutL_all (n := 63) (by simpa using hn)
  unfold G_l_pen F_l_pen
  simp [hcut]
  exact ⟨_, _, rfl, .inr rfl, q⟩
/-- the basis in its one form -/
structure Can (V : List (Int × Int)) (a b h : Int) : Prop where
  fib : Fib V a b h
  a0 : 0 ≤ a
  a6 : a ≤ 1000000000000
  h0 : 0 ≤ h
  hab : a = 0 → b = 0
  hb : h ≠ 0 → a ≠ 0 → 0 ≤ b ∧ b < h
theorem can_lattice {V : List (Int × Int)} {post : Post} {xp : XP} (hl : V.length ≤ 6) (hV : ∀ p ∈ V, Sm1 p) (q : ∀ a b h : Int, Can V a b h → post (lat a b h) [none]) : G_l_lattice [some (.lst (V.map vt))] post xp :=
  lattice_ok hl hV fun a b h f a0 a6 h0 hab hb => q a b h ⟨f, a0, a6, h0, hab, hb⟩
/-- one form -/
theorem Can.uniq {V U : List (Int × Int)} {a b h a' b' h' : Int} (c : Can V a b h) (c' : Can U a' b' h') (e : ∀ p, Lat a b h p ↔ Lat a' b' h' p) : a = a' ∧ b = b' ∧ h = h' := by
  obtain ⟨m, n, e1, e2⟩ := (e (a, b)).1 (L_left a b h)
  obtain ⟨m', n', e3, e4⟩ := (e (a', b')).2 (L_left a' b' h')
  obtain ⟨k, l, e5, e6⟩ := (e (0, h)).1 (L_right a b h)
  obtain ⟨k', l', e7, e8⟩ := (e (0, h')).2 (L_right a' b' h')
  simp only at e1 e2 e3 e4 e5 e6 e7 e8
  have ea : a = a' := Int.dvd_antisymm c.a0 c'.a0 ⟨m', by rw [e3, Int.mul_comm]⟩ ⟨m, by rw [e1, Int.mul_comm]⟩
  subst ea
  by_cases za : a = 0
  · have zb := c.hab za
    have zb' := c'.hab za
    subst zb zb'
    have eh : h = h' := Int.dvd_antisymm c.h0 c'.h0 ⟨l', by rw [e8]; simp [Int.mul_comm]⟩ ⟨l, by rw [e6]; simp [Int.mul_comm]⟩
    exact ⟨rfl, rfl, eh⟩
  · have k0 : k = 0 := (Int.mul_eq_zero.1 e5.symm).resolve_right za
    have k0' : k' = 0 := (Int.mul_eq_zero.1 e7.symm).resolve_right za
    subst k0 k0'
    have eh : h = h' := Int.dvd_antisymm c.h0 c'.h0 ⟨l', by rw [e8]; simp [Int.mul_comm]⟩ ⟨l, by rw [e6]; simp [Int.mul_comm]⟩
    subst eh
    have m1 : m = 1 := Int.eq_of_mul_eq_mul_right za (by rw [Int.one_mul]; exact e1.symm)
    subst m1
    refine ⟨rfl, ?_, rfl⟩
    rw [Int.one_mul] at e2
    by_cases zh : h = 0
    · subst zh; simpa using e2
    · have h1 := c.hb zh za
      have h2 := c'.hb zh za
      have : n = 0 := by
        apply Classical.byContradiction
        intro n0
        have : h ≤ (n * h).natAbs := by
          rw [Int.natAbs_mul]
          have := Nat.mul_le_mul_right h.natAbs (show 1 ≤ n.natAbs by omega)
          omega
        omega
      subst this
      simpa using e2
/-- two rows of pairs that span the same -/
def Same (V U : List (Int × Int)) : Prop := ∀ S, Clo S → ((∀ p ∈ V, S p) ↔ ∀ p ∈ U, S p)
theorem Same.fib {V U : List (Int × Int)} {a b h : Int} (s : Same V U) (f : Fib V a b h) : Fib U a b h :=
  ⟨(s _ (L_cl a b h)).1 f.all, fun S c hs => f.gen S c ((s S c).2 hs)⟩
theorem Fib.eqv {V : List (Int × Int)} {a b h a' b' h' : Int} (f : Fib V a b h) (f' : Fib V a' b' h') (p : Int × Int) : Lat a b h p ↔ Lat a' b' h' p := by
  constructor
  · intro hp
    have g := f.gen _ (L_cl a' b' h') f'.all
    exact (L_cl a' b' h').ofL g.1 g.2 hp
  · intro hp
    have g := f'.gen _ (L_cl a b h) f.all
    exact (L_cl a b h).ofL g.1 g.2 hp
theorem Can.same {V U : List (Int × Int)} {a b h a' b' h' : Int} (c : Can V a b h) (c' : Can U a' b' h') (s : Same V U) : a = a' ∧ b = b' ∧ h = h' :=
  c.uniq c' (fun p => (s.fib c.fib).eqv c'.fib p)
theorem gens_fib {a b h : Int} (h0 : 0 ≤ h) (hab : a = 0 → b = 0) : Fib (gens a b h) a b h := by
  unfold gens
  by_cases za : a = 0
  · have zb := hab za
    subst za zb
    by_cases zh : 0 < h
    · simp only [zh, if_true]
      exact ⟨by simp; exact L_right .., fun S c hs => ⟨c.zero, hs _ (by simp)⟩⟩
    · have : h = 0 := by omega
      subst this
      simp
      exact Fib.nil
  · by_cases zh : h = 0
    · simp only [za, zh, if_true, if_false]
      exact ⟨by simp; exact L_left .., fun S c hs => ⟨hs _ (by simp), c.zero⟩⟩
    · simp only [za, zh, if_false]
      exact ⟨by simp; exact ⟨L_left .., L_right ..⟩, fun S c hs => ⟨hs _ (by simp), hs _ (by simp)⟩⟩
/-- bounds of the basis -/
theorem Can.b_le {V : List (Int × Int)} {a b h B : Int} (c : Can V a b h) (B0 : 0 ≤ B) (hB : ∀ p ∈ V, (-B ≤ p.1 ∧ p.1 ≤ B) ∧ -B ≤ p.2 ∧ p.2 ≤ B) : b.natAbs ≤ 2 * (B * B) + B := by
  have hh := height_le c.fib c.h0 c.hab B0 hB
  have BB : 0 ≤ B * B := Int.mul_nonneg B0 B0
  by_cases za : a = 0
  · rw [c.hab za]; simp; omega
  · by_cases zh : h = 0
    · subst zh
      by_cases z : ∀ p ∈ V, (0 : Int) ∣ p.1
      · have g := c.fib.gen (fun p => (0 : Int) ∣ p.1) ⟨by simp, fun p q t h1 h2 => Int.dvd_sub h1 (Int.dvd_mul_of_dvd_right h2)⟩ z
        exact absurd (Int.zero_dvd.1 g.1) za
      · simp only [Classical.not_forall] at z
        obtain ⟨p, hp, z⟩ := z
        obtain ⟨m, n, e1, e2⟩ := c.fib.all p hp
        have m0 : m ≠ 0 := by
          rintro rfl
          apply z
          rw [e1]; simp
        have := hB p hp
        simp at e2
        have l : b.natAbs ≤ (m * b).natAbs := by
          rw [Int.natAbs_mul]
          have := Nat.mul_le_mul_right b.natAbs (show 1 ≤ m.natAbs by omega)
          omega
        rw [← e2] at l
        omega
    · have := c.hb zh za
      omega

theorem set_span {U : List (Int × Int)} {i j : Nat} {u w : Int × Int} {t : Int} (hi : U[i]? = some u) (hj : U[j]? = some w) (hij : i ≠ j) : Same U (U.set i (u.1 + t * w.1, u.2 + t * w.2)) := by
  have li : i < U.length := (List.getElem?_eq_some_iff.1 hi).1
  intro S c
  constructor
  · intro h p hp
    rcases List.mem_or_eq_of_mem_set hp with hp | rfl
    · exact h p hp
    · have hu := h u (List.mem_of_getElem? hi)
      have hw := h w (List.mem_of_getElem? hj)
      have := c.sub u w (-t) hu hw
      simpa [Int.neg_mul] using this
  · intro h p hp
    obtain ⟨k, hk⟩ := List.getElem?_of_mem hp
    have hw : S w := h w (List.mem_of_getElem? (i := j) (by rw [List.getElem?_set_ne hij]; exact hj))
    by_cases e : k = i
    · subst e
      rw [hi] at hk
      cases hk
      have hn := h (u.1 + t * w.1, u.2 + t * w.2) (List.mem_of_getElem? (i := k) (by rw [List.getElem?_set_self li]))
      have := c.sub _ w t hn hw
      simp only at this
      have e1 : u.1 + t * w.1 - t * w.1 = u.1 := by omega
      have e2 : u.2 + t * w.2 - t * w.2 = u.2 := by omega
      rw [e1, e2] at this
      exact this
    · exact h p (List.mem_of_getElem? (i := k) (by rw [List.getElem?_set_ne (Ne.symm e)]; exact hk))
theorem turn_span (u : Int × Int) (U : List (Int × Int)) : Same (u :: U) (U ++ [(-u.1, -u.2)]) := by
  intro S c
  rw [all_snoc]
  have e : S (-u.1, -u.2) ↔ S u := by
    constructor
    · intro h
      have := c.mul (-1) h
      simpa using this
    · intro h
      have := c.mul (-1) h
      simpa using this
  rw [e]
  simp
  exact And.comm
theorem Same.trans {U V W : List (Int × Int)} (a : Same U V) (b : Same V W) : Same U W := fun S c => (a S c).trans (b S c)
theorem Same.rfl' {U : List (Int × Int)} : Same U U := fun S c => Iff.rfl
theorem turned_law {ns : List Int} {a r : Int} {V : List (Int × Int)} {post : Post} {xp : XP} (ha : 0 ≤ a) (ha2 : a ≤ 999000) (hr : 0 ≤ r) (hV : V.length ≤ 6) (hs : ∀ p ∈ V, Small 6000000000 p)
    (h : ∀ (U : List (Int × Int)) (a' r' : Int), U.length = V.length → Same V U → (∀ p ∈ U, Small 384000000000 p) → a ≤ a' → a' ≤ a + 24 → 0 ≤ r' → post (.lst (U.map vt)) [some (pen (ns.map .int) a' r'), none]) : G_l_turned [some (pen (ns.map .int) a r), some (.lst (V.map vt))] post xp := by
  unfold G_l_turned F_l_turned
  simp -dsimp
  refine gList_lst _ _ ?_
  refine loop_inv (fun ds ρ => ∃ (U : List (Int × Int)) (n : Nat) (a' r' : Int) (x3 x4 x5 x6 : Option D), n + ds.length = 6 ∧ U.length = V.length ∧ Same V U ∧ (∀ p ∈ U, Small (6000000000 * 2 ^ n) p) ∧ a ≤ a' ∧ a' ≤ a + 4 * n ∧ 0 ≤ r' ∧
    ρ = [some (pen (ns.map .int) a' r'), some (.lst (V.map vt)), some (.lst (U.map vt)), x3, x4, x5, x6]) ?_ ?_ _ _ ⟨V, 0, a, r, none, none, none, none, by simp, rfl, Same.rfl', by simpa using hs, by omega, by simp, hr, rfl⟩
  · rintro ρ ⟨U, n, a', r', x3, x4, x5, x6, hn, hl, sU, bU, h1, h2, h3, rfl⟩
    simp at hn
    subst hn
    simp -dsimp
    exact h U a' r' hl sU (by simpa using bU) (by omega) (by omega) h3
  · rintro d ds ρ N hN ⟨U, n, a', r', x3, x4, x5, x6, hn, hl, sU, bU, h1, h2, h3, rfl⟩
    simp at hn
    have hn6 : n ≤ 5 := by omega
    have grow : ∀ p, Small (6000000000 * 2 ^ n) p → Small (6000000000 * 2 ^ (n + 1)) p := fun p hp => by
      have : (6000000000 : Int) * 2 ^ (n + 1) = 2 * (6000000000 * 2 ^ n) := by rw [Int.pow_succ]; omega
      unfold Small at hp ⊢
      omega
    -- the second part, from a state like the first one
    have part2 : ∀ (U : List (Int × Int)) (a' r' : Int) (x3 x4 x5 x6 : Option D), U.length = V.length → Same V U → (∀ p ∈ U, Small (6000000000 * 2 ^ (n + 1)) p) → a ≤ a' → a' ≤ a + 4 * n + 3 → 0 ≤ r' →
        fIfS (fAnd (fTest (fBinL gNeU 2 (fLstE fNil))) (fTest (fBin gEqU (fCall G_l_draw [some 0, none] (oOwn 0 (oVal (fC (.int 2)) oNil))) (fC (.int 0)))))
          (fSetN 2 (fAddN (fCutO 2 (oSome (fC (.int 1))) oNone) (fLstE (fCons (fTupE (fCons (fBin gSub (fC (.int 0)) (fBin gIx (fBinL gIx 2 (fC (.int 0))) (fC (.int 0)))) (fCons (fBin gSub (fC (.int 0)) (fBin gIx (fBinL gIx 2 (fC (.int 0))) (fC (.int 1)))) fNil))) fNil))))
          fNext [some (pen (ns.map .int) a' r'), some (.lst (V.map vt)), some (.lst (U.map vt)), x3, x4, x5, x6] (((endS [0] 2 post xp).sq fun ρ1 => fRet (fVar 2) ρ1 (endS [0] 2 post xp)).lp N) := by
      intro U a' r' x3 x4 x5 x6 hl sU bU h1 h2 h3
      have done : ∀ (U' : List (Int × Int)) (a2 r2 : Int), U'.length = V.length → Same V U' → (∀ p ∈ U', Small (6000000000 * 2 ^ (n + 1)) p) → a ≤ a2 → a2 ≤ a + 4 * n + 4 → 0 ≤ r2 → N [some (pen (ns.map .int) a2 r2), some (.lst (V.map vt)), some (.lst (U'.map vt)), x3, x4, x5, x6] := fun U' a2 r2 g1 g2 g3 g4 g5 g6 =>
        hN _ ⟨U', n + 1, a2, r2, _, _, _, _, by omega, g1, g2, g3, g4, by omega, g6, rfl⟩
      by_cases z : U = []
      · subst z
        simp -dsimp
        exact done [] a' r' hl sU (by simp) h1 (by omega) h3
      · simp -dsimp [z]
        refine draw_ok (by omega) (by omega) h3 (by omega) (by omega) fun k a2 r2 _ _ _ _ _ => ?_
        simp -dsimp
        split
        · cases U with
          | nil => exact absurd rfl z
          | cons u U =>
            have ec : cutL (vt u :: U.map vt) (some 1) none = U.map vt := by
              simp [cutL, HT.sIx]
              exact List.take_of_length_le (by simp)
            simp -dsimp [fAddN, fCutO]
            rw [ec]
            have hl' : (u :: U).length ≤ 6 := by omega
            have em : U.map vt ++ [D.tup [D.int (-u.1), D.int (-u.2)]] = (U ++ [(-u.1, -u.2)]).map vt := by simp [vt]
            rw [em]
            refine ⟨by simp at hl' ⊢; omega, done _ a2 r2 (by simp at hl ⊢; omega) (sU.trans (turn_span u U)) ?_ (by omega) (by omega) (by omega)⟩
            rw [all_snoc]
            have bu := bU u (by simp)
            refine ⟨fun p hp => bU p (by simp [hp]), ?_⟩
            unfold Small at bu ⊢
            simp only
            omega
        · exact done U a2 r2 hl sU bU (by omega) (by omega) (by omega)
    generalize (fIfS (fAnd (fTest (fBinL gNeU 2 (fLstE fNil))) (fTest (fBin gEqU (fCall G_l_draw [some 0, none] (oOwn 0 (oVal (fC (.int 2)) oNil))) (fC (.int 0))))) (fSetN 2 (fAddN (fCutO 2 (oSome (fC (.int 1))) oNone) (fLstE (fCons (fTupE (fCons (fBin gSub (fC (.int 0)) (fBin gIx (fBinL gIx 2 (fC (.int 0))) (fC (.int 0)))) (fCons (fBin gSub (fC (.int 0)) (fBin gIx (fBinL gIx 2 (fC (.int 0))) (fC (.int 1)))) fNil))) fNil)))) fNext : FS) = B2 at part2 ⊢
    simp -dsimp
    by_cases h1L : (1 : Int) < U.length
    · rw [if_pos h1L]
      refine draw_ok (by omega) (by omega) h3 (by omega) (by omega) fun k1 a2 r2 _ _ _ _ _ => ?_
      obtain ⟨i, rfl⟩ : ∃ i : Nat, k1 = (i : Int) := ⟨k1.toNat, by omega⟩
      simp -dsimp
      refine draw_ok (by omega) (by omega) (by omega) (by omega) (by omega) fun k2 a3 r3 _ _ _ _ _ => ?_
      have L0 : (U.length : Int) ≠ 0 := by omega
      obtain ⟨j, hj, hjl, hij⟩ : ∃ j : Nat, ((i : Int) + 1 + k2).fmod U.length = (j : Int) ∧ j < U.length ∧ i ≠ j := by
        have f1 := fmod_nn (i := (i : Int) + 1 + k2) (j := U.length) (by omega)
        have f2 := fmod_lt (i := (i : Int) + 1 + k2) (j := U.length) (by omega)
        have f3 := fmod_sub ((i : Int) + 1 + k2) U.length
        refine ⟨(((i : Int) + 1 + k2).fmod U.length).toNat, by omega, by omega, ?_⟩
        intro e
        have e2 : ((i : Int) + 1 + k2).fmod U.length = i := by omega
        rw [e2] at f3
        generalize ((i : Int) + 1 + k2).fdiv U.length = g at f3
        rcases Int.lt_or_le g 1 with z | z
        · have := Int.mul_le_mul_of_nonneg_right (show g ≤ 0 by omega) (show (0 : Int) ≤ U.length by omega)
          omega
        · have := Int.mul_le_mul_of_nonneg_right z (show (0 : Int) ≤ U.length by omega)
          omega
      simp -dsimp [hj]
      refine ⟨by rintro rfl; simp at h1L, ?_⟩
      refine draw_ok (by omega) (by omega) (by omega) (by omega) (by omega) fun k3 a4 r4 _ _ _ _ _ => ?_
      have il : i < U.length := by omega
      have hu : U[i]? = some U[i] := List.getElem?_eq_getElem il
      have hw : U[j]? = some U[j] := List.getElem?_eq_getElem hjl
      generalize U[i] = u at hu
      generalize U[j] = w at hw
      have au : atI (U.map vt) (i : Int) = some (vt u) := DL.atI_nat (by simp [hu])
      have aw : atI (U.map vt) (j : Int) = some (vt w) := DL.atI_nat (by simp [hw])
      have ai : ixN U.length (i : Int) = some i := by
        unfold ixN
        rw [if_pos (by omega), if_pos (by omega)]
        simp
      simp -dsimp [au, aw, ai, hj]
      have bu := bU u (List.mem_of_getElem? hu)
      have bw := bU w (List.mem_of_getElem? hw)
      have e2 : (6000000000 : Int) * 2 ^ (n + 1) = 2 * (6000000000 * 2 ^ n) := by rw [Int.pow_succ]; omega
      have hk : k3 - 1 = -1 ∨ k3 - 1 = 0 ∨ k3 - 1 = 1 := by omega
      have q := part2 (U.set i (u.1 + (k3 - 1) * w.1, u.2 + (k3 - 1) * w.2)) a4 r4 (some d) (some (.int i)) (some (.int j)) (some (.int (k3 - 1))) (by rw [List.length_set]; exact hl) (sU.trans (set_span hu hw hij)) (fun p hp => by
        rcases List.mem_or_eq_of_mem_set hp with hp | rfl
        · exact grow p (bU p hp)
        · unfold Small at bu bw ⊢
          rw [e2]
          simp only
          rcases hk with e | e | e <;> rw [e] <;> omega) (by omega) (by omega) (by omega)
      refine ⟨cmul_l (by omega) (by omega), cmul_l (by omega) (by omega), ?_⟩
      rw [List.map_set] at q
      exact q
    · rw [if_neg h1L]
      have q := part2 U a' r' (some d) x4 x5 x6 hl sU (fun p hp => grow p (bU p hp)) h1 (by omega) h3
      exact q

/-! == of rows of pairs -/
def pv (p : Int × Int) : PyData := .tuple [.int p.1, .int p.2]
theorem pdL_vts : ∀ V : List (Int × Int), pdL (V.map vt) = some (V.map pv)
  | [] => rfl
  | p :: V => by
    have e : pd (vt p) = some (pv p) := rfl
    simp only [List.map_cons, pdL, pdL_vts V, e]
    rfl
theorem lay_vts : ∀ V : List (Int × Int), PyData.canLayAll0 (V.map pv) = true
  | [] => rfl
  | p :: V => by
    simp [PyData.canLayAll0, lay_vts V, pv, PyData.canLay0]
theorem dep_vts : ∀ V : List (Int × Int), PyData.depthAll (V.map pv) ≤ 2
  | [] => by simp [PyData.depthAll]
  | p :: V => by
    have := dep_vts V
    simp [PyData.depthAll, pv, PyData.depth]
    omega
theorem eqv_vts : ∀ V U : List (Int × Int), PyData.eqvAll (V.map pv) (U.map pv) = decide (V = U)
  | [], [] => rfl
  | [], _ :: _ => rfl
  | _ :: _, [] => rfl
  | p :: V, q :: U => by
    have e : PyData.eqv (pv p) (pv q) = decide (p = q) := by
      simp only [pv, PyData.eqv, PyData.eqvAll]
      by_cases h : p.1 = q.1 <;> by_cases h' : p.2 = q.2 <;> simp [h, h', Prod.ext_iff]
    simp only [List.map_cons, PyData.eqvAll, eqv_vts V U, e]
    by_cases h : p = q <;> by_cases h' : V = U <;> simp [h, h']
theorem shaped_vts (V : List (Int × Int)) : SeqAt.shaped (.tuple (V.map pv)) = true := by
  have := lay_vts V
  have := dep_vts V
  simp [SeqAt.shaped, PyData.canLay0, PyData.depth, *]
  omega
theorem gEqU_vts (V U : List (Int × Int)) (k) : gEqU (.tup (V.map vt)) (.tup (U.map vt)) k = k (.bl (decide (V = U))) := by
  have e0 : empty2 (.tup (V.map vt)) (.tup (U.map vt)) = if V.map vt = [] ∨ U.map vt = [] then some (decide ((V.map vt).length = (U.map vt).length)) else none := rfl
  unfold gEqU
  rw [e0]
  by_cases z : V.map vt = [] ∨ U.map vt = []
  · rw [if_pos z]
    simp only
    have e : decide ((V.map vt).length = (U.map vt).length) = decide (V = U) := by
      rcases z with z | z
      · rw [List.map_eq_nil_iff] at z; subst z; cases U <;> simp
      · rw [List.map_eq_nil_iff] at z; subst z; cases V <;> simp
    rw [e]
  · rw [if_neg z]
    simp only
    rw [gEq_of (a := .tuple (V.map pv)) (b := .tuple (U.map pv)) (by simp [pd, pdL_vts]) (by simp [pd, pdL_vts]) (shaped_vts V) (shaped_vts U)]
    simp only [PyData.eqv, eqv_vts]
theorem gNeU_vts (V U : List (Int × Int)) (k) : gNeU (.tup (V.map vt)) (.tup (U.map vt)) k = k (.bl (!decide (V = U))) := by
  have e0 : empty2 (.tup (V.map vt)) (.tup (U.map vt)) = if V.map vt = [] ∨ U.map vt = [] then some (decide ((V.map vt).length = (U.map vt).length)) else none := rfl
  unfold gNeU
  rw [e0]
  by_cases z : V.map vt = [] ∨ U.map vt = []
  · rw [if_pos z]
    simp only
    have e : decide ((V.map vt).length = (U.map vt).length) = decide (V = U) := by
      rcases z with z | z
      · rw [List.map_eq_nil_iff] at z; subst z; cases U <;> simp
      · rw [List.map_eq_nil_iff] at z; subst z; cases V <;> simp
    rw [e]
  · rw [if_neg z]
    simp only
    rw [gNe_of (a := .tuple (V.map pv)) (b := .tuple (U.map pv)) (by simp [pd, pdL_vts]) (by simp [pd, pdL_vts]) (shaped_vts V) (shaped_vts U)]
    simp only [PyData.eqv, eqv_vts]
theorem eqlat_ok {a b h a' b' h' : Int} {post : Post} {xp : XP} (q : post (.bl (decide (gens a b h = gens a' b' h'))) [none, none]) : G_Lattice___eq__ [some (lat a b h), some (lat a' b' h')] post xp := by
  unfold G_Lattice___eq__ F_Lattice___eq__
  simp -dsimp [isOwn, lat, genT]
  rw [gEqU_vts]
  exact q
theorem eqodd_ok {a b h : Int} {d : D} {post : Post} {xp : XP} (hd : leftD d) (q : post (.bl false) [none, none]) : G_Lattice___eq__ [some (lat a b h), some d] post xp := by
  unfold G_Lattice___eq__ F_Lattice___eq__
  cases d <;> first | exact hd.elim | skip
  all_goals
    simp -dsimp [isOwn, lat, genT]
    exact q
theorem shaped_str {s : Str} (h : PyData.strOk s = true) : SeqAt.shaped (.str s) = true := by
  simp [SeqAt.shaped, PyData.canLay0, PyData.depth, h]
theorem gEqU_same {s : Str} (h : PyData.strOk s = true) (k) : gEqU (.str s) (.str s) k = k (.bl true) := by
  show gEq _ _ _ = _
  rw [gEq_of rfl rfl (shaped_str h) (shaped_str h)]
  simp [PyData.eqv]
theorem gNeU_same {s : Str} (h : PyData.strOk s = true) (k) : gNeU (.str s) (.str s) k = k (.bl false) := by
  show gNe _ _ _ = _
  rw [gNe_of rfl rfl (shaped_str h) (shaped_str h)]
  simp [PyData.eqv]
def sh4 (x : Bool) : Str := (PyData.list [.bool x, .bool x, .bool (!x), .bool (!x)]).shown
theorem ok4 (x : Bool) : PyData.strOk (sh4 x) = true := by cases x <;> decide +kernel
theorem gRepr4 (x : Bool) (k : D → Prop) (h : k (.str (sh4 x))) : gRepr [.lst [.bl x, .bl x, .bl (!x), .bl (!x)]] k := by
  refine ⟨_, rfl, ?_, ?_, ?_, ?_, h⟩
  · cases x <;> decide +kernel
  · cases x <;> decide +kernel
  · cases x <;> decide +kernel
  · cases x <;> decide +kernel
def sh2 (x y : Bool) : Str := (PyData.list [.bool x, .bool y]).shown
theorem ok2 (x y : Bool) : PyData.strOk (sh2 x y) = true := by cases x <;> cases y <;> decide +kernel
theorem gRepr2 (x y : Bool) (k : D → Prop) (h : k (.str (sh2 x y))) : gRepr [.lst [.bl x, .bl y]] k := by
  refine ⟨_, rfl, ?_, ?_, ?_, ?_, h⟩
  · cases x <;> cases y <;> decide +kernel
  · cases x <;> cases y <;> decide +kernel
  · cases x <;> cases y <;> decide +kernel
  · cases x <;> cases y <;> decide +kernel
theorem compared_ok {one other : D} {x : Bool} {post : Post} {xp : XP} (he : ∀ k : Bool → Prop, k x → eqOwn "Lattice" G_Lattice___eq__ one other k) (he' : ∀ k : Bool → Prop, k x → eqOwn "Lattice" G_Lattice___eq__ other one k)
    (q : post (.bl true) [none, none, none]) : G_l_compared [some one, some other, some (.bl x)] post xp := by
  unfold G_l_compared F_l_compared
  generalize G_Lattice___eq__ = G at he he' ⊢
  simp -dsimp
  refine he _ ?_
  refine he' _ ?_
  refine he _ ?_
  refine he' _ ?_
  refine gRepr4 x _ ?_
  refine gRepr4 x _ ?_
  rw [gEqU_same (ok4 x)]
  exact q
theorem compared_lat {V U : List (Int × Int)} {a b h a' b' h' : Int} {x : Bool} {post : Post} {xp : XP} (c : Can V a b h) (c' : Can U a' b' h') (hx : x = true ↔ (a = a' ∧ b = b' ∧ h = h')) (q : post (.bl true) [none, none, none]) :
    G_l_compared [some (lat a b h), some (lat a' b' h'), some (.bl x)] post xp := by
  have e : gens a b h = gens a' b' h' ↔ (a = a' ∧ b = b' ∧ h = h') := by
    constructor
    · intro g
      have f1 := gens_fib c.h0 c.hab
      have f2 := gens_fib c'.h0 c'.hab
      rw [g] at f1
      exact c.uniq c' (fun p => f1.eqv f2 p)
    · rintro ⟨rfl, rfl, rfl⟩
      rfl
  have ex : decide (gens a b h = gens a' b' h') = x := by
    rw [Bool.eq_iff_iff, decide_eq_true_iff, e, hx]
  have ex' : decide (gens a' b' h' = gens a b h) = x := by
    rw [← ex, Bool.eq_iff_iff, decide_eq_true_iff, decide_eq_true_iff]
    exact eq_comm
  refine compared_ok (fun k hk => eqOwn_l rfl (eqlat_ok ?_)) (fun k hk => eqOwn_l rfl (eqlat_ok ?_)) q
  · rw [ex]; exact hk
  · rw [ex']; exact hk
theorem compared_odd {a b h : Int} {d : D} {post : Post} {xp : XP} (hd : leftD d) (q : post (.bl true) [none, none, none]) : G_l_compared [some (lat a b h), some d, some (.bl false)] post xp := by
  have hr : rightD "Lattice" d := by cases d <;> first | exact hd.elim | trivial
  exact compared_ok (fun k hk => eqOwn_l hr (eqodd_ok hd hk)) (fun k hk => eqOwn_r hd (eqodd_ok hd hk)) q
def MM : Int := 2000000000001000000000000
theorem log_big {i : Int} (h : i.natAbs < 2 ^ 100) : i.natAbs.log2 < 9000 := Nat.lt_of_lt_of_le (log_of (n := 100) h (by omega)) (by omega)
theorem contains_ok {a b h : Int} {p : Int × Int} {post : Post} {xp : XP} (a0 : 0 ≤ a) (a6 : a ≤ 1000000000000) (h0 : 0 ≤ h) (h6 : h ≤ 2000000000001000000000000) (hab : a = 0 → b = 0) (hb : h ≠ 0 → a ≠ 0 → 0 ≤ b ∧ b < h) (hp : Sm1 p) (hp2 : p.2.natAbs ≤ 2000000000001000000000000)
    (q : ∀ r : Bool, (r = true ↔ Lat a b h p) → post (.bl r) [none, none]) : G_Lattice___contains__ [some (lat a b h), some (vt p)] post xp := by
  obtain ⟨x, y⟩ := p
  unfold Sm1 at hp
  simp only at hp hp2
  unfold G_Lattice___contains__ F_Lattice___contains__
  simp [lat, vt]
  refine pair_ok (p := (x, y)) ?_
  simp [genT, gens]
  have fx := fdiv_abs x a
  by_cases za : a = 0
  · have := hab za
    subst za this
    by_cases zh : h = 0
    · subst zh
      simp [vt, ↓lk_nil]
      exact two_ok q L_zz
    · have zh' : 0 < h := by omega
      simp [zh', vt, ↓lk_nil, ↓lk_cons]
      have fy := fdiv_abs y h
      exact ⟨⟨zh, log_big (by omega)⟩, cmul_r (by omega) (by omega), cmul_big (by omega) (by omega), two_ok q (L_red0 zh)⟩
  · by_cases zh : h = 0
    · subst zh
      simp [za, vt, ↓lk_nil, ↓lk_cons]
      refine ⟨log_big (by omega), cmul_r (by omega) (by omega), cmul_l (by omega) (by omega), two_ok q ?_⟩
      rw [L_red za, L_zz]
      simp
    · simp [za, zh]
      simp [vt, za, zh, ↓lk_nil, ↓lk_cons]
      have hb := hb zh za
      have m : (x.fdiv a * b).natAbs ≤ 1000000000000 * 2000000000001000000000000 := by
        rw [Int.natAbs_mul]; exact Nat.mul_le_mul (by omega) (by omega)
      have fy := fdiv_abs (y - x.fdiv a * b) h
      refine ⟨log_big (by omega), cmul_r (by omega) (by omega), cmul_l (by omega) (by omega), log_big (by omega), cmul_r (by omega) (by omega), cmul_big (by omega) (by omega), two_ok q ?_⟩
      rw [L_red za, L_red0 zh]
      simp
theorem gAll_bls (bs : List Bool) (k : D → Prop) (h : k (.bl (bs.all id))) : gAll [.lst (bs.map .bl)] k := by
  have e : dBools (bs.map D.bl) = some bs := by
    clear h
    induction bs with
    | nil => rfl
    | cons b bs ih => simp [dBools, ih]
  exact ⟨_, _, bs, rfl, rfl, e, h⟩
theorem Can.bounds {V : List (Int × Int)} {a b h : Int} (c : Can V a b h) (hV : ∀ p ∈ V, Small 1000000000000 p) : h ≤ 2000000000001000000000000 ∧ ∀ p ∈ gens a b h, Sm1 p ∧ p.2.natAbs ≤ 2000000000001000000000000 := by
  have h1 := height_le c.fib c.h0 c.hab (B := 1000000000000) (by omega) hV
  have h2 := c.b_le (B := 1000000000000) (by omega) hV
  have a0 := c.a0
  have a6 := c.a6
  have h0 := c.h0
  refine ⟨by omega, fun p hp => ?_⟩
  unfold gens at hp; unfold Sm1
  split at hp
  · split at hp
    · simp at hp; subst hp; simp only; omega
    · simp at hp
  · split at hp
    · simp at hp; subst hp; simp only; omega
    · simp at hp; rcases hp with rfl | rfl <;> (simp only; omega)
theorem within_ok {V U : List (Int × Int)} {a b h a' b' h' : Int} {post : Post} {xp : XP} (c : Can V a b h) (c' : Can U a' b' h') (hV : ∀ p ∈ V, Small 1000000000000 p) (hU : ∀ p ∈ U, Small 1000000000000 p)
    (q : ∀ r : Bool, (r = true ↔ ∀ p ∈ V, Lat a' b' h' p) → post (.bl r) [none, none]) : G_Lattice_within [some (lat a b h), some (lat a' b' h')] post xp := by
  have bU := c'.bounds hU
  have bV := c.bounds hV
  have con : ∀ (v : Int × Int) (post : Post) (xp : XP), v ∈ gens a b h → (∀ r : Bool, (r = true ↔ Lat a' b' h' v) → post (.bl r) [none, none]) → G_Lattice___contains__ [some (lat a' b' h'), some (vt v)] post xp := fun v post xp hv g =>
    contains_ok c'.a0 c'.a6 c'.h0 bU.1 c'.hab c'.hb (bV.2 v hv).1 (bV.2 v hv).2 g
  have sp : (∀ p ∈ gens a b h, Lat a' b' h' p) ↔ ∀ p ∈ V, Lat a' b' h' p := by
    have cl := L_cl a' b' h'
    have fg := gens_fib c.h0 c.hab
    constructor
    · intro g p hp
      have := fg.gen _ cl g
      exact cl.ofL this.1 this.2 (c.fib.all p hp)
    · intro g p hp
      have := c.fib.gen _ cl g
      exact cl.ofL this.1 this.2 (fg.all p hp)
  unfold G_Lattice_within F_Lattice_within
  generalize G_Lattice___contains__ = G at con ⊢
  simp -dsimp [lat, genT]
  refine comp_inv (fun it acc ρ => ∃ (W Z : List (Int × Int)) (bs : List Bool), it = W.map vt ∧ gens a b h = Z ++ W ∧ acc = bs.map .bl ∧ bs.length = Z.length ∧ ((bs.all id) = true ↔ ∀ p ∈ Z, Lat a' b' h' p) ∧ ρ = [some (lat a b h), some (lat a' b' h'), none]) ?_ ?_ _ _ _ ⟨_, [], [], rfl, rfl, rfl, rfl, by simp, rfl⟩
  · rintro acc ρ ⟨W, Z, bs, e, eg, rfl, _, hb, rfl⟩
    have : W = [] := by simpa using e.symm
    subst this
    rw [List.append_nil] at eg
    simp -dsimp
    refine gAll_bls bs _ ?_
    refine q _ ?_
    rw [hb, ← eg, sp]
  · rintro d it acc ρ M hM ⟨W, Z, bs, e, eg, rfl, hl, hb, rfl⟩
    cases W with
    | nil => simp at e
    | cons p W =>
      rw [List.map_cons, List.cons.injEq] at e
      obtain ⟨rfl, rfl⟩ := e
      have lg : (gens a b h).length ≤ 2 := by
        unfold gens
        split
        · split <;> simp
        · split <;> simp
      rw [eg] at lg
      simp at lg
      simp -dsimp
      refine ⟨⟨_, rfl⟩, ?_⟩
      refine con p _ _ (by rw [eg]; simp) fun r hr => ?_
      simp -dsimp
      refine ⟨by omega, hM _ _ ⟨W, Z ++ [p], bs ++ [r], rfl, by rw [eg]; simp, by simp, by simp [hl], ?_, rfl⟩⟩
      rw [all_snoc, ← hb, ← hr]
      simp

theorem basis_prop {a b h : Int} {post : Post} {xp : XP} (q : post (genT a b h) [none]) : G_Lattice_basis [some (lat a b h)] post xp := by
  unfold G_Lattice_basis F_Lattice_basis
  simp -dsimp [lat]
  exact q
theorem lwithin_ok {V W : List (Int × Int)} {a b h : Int} {post : Post} {xp : XP} (c : Can W a b h) (hl : V.length ≤ 6) (hl2 : W.length ≤ 6) (hV : ∀ p ∈ V, Small 1000000000000 p) (hW : ∀ p ∈ W, Small 1000000000000 p)
    (q : ∀ r : Bool, (r = true ↔ ∀ p ∈ V, Lat a b h p) → post (.bl r) [none, none]) : G_l_within [some (.lst (V.map vt)), some (.lst (W.map vt))] post xp := by
  have rea : ∀ (v : Int × Int) (post : Post) (xp : XP), v ∈ V → (∀ r : Bool, (r = true ↔ Lat a b h v) → post (.bl r) [none, none]) → G_l_reached [some (.lst (W.map vt)), some (vt v)] post xp := fun v post xp hv g =>
    reached_ok hl2 (fun p hp => (hW p hp).1) (hV v hv).1 c.fib c.a0 c.h0 c.hab g
  unfold G_l_within F_l_within
  generalize G_l_reached = G at rea ⊢
  simp -dsimp
  refine comp_inv (fun it acc ρ => ∃ (Y Z A : List (Int × Int)), it = Y.map vt ∧ V = Z ++ Y ∧ acc = A.map vt ∧ A.length ≤ Z.length ∧ (A = [] ↔ ∀ p ∈ Z, Lat a b h p) ∧ ρ = [some (.lst (V.map vt)), some (.lst (W.map vt)), none]) ?_ ?_ _ _ _ ⟨V, [], [], rfl, rfl, rfl, by simp, by simp, rfl⟩
  · rintro acc ρ ⟨Y, Z, A, e, eV, rfl, _, hA, rfl⟩
    have : Y = [] := by simpa using e.symm
    subst this
    rw [List.append_nil] at eV
    subst eV
    simp -dsimp
    refine q _ ?_
    rw [← hA]
    simp
  · rintro d it acc ρ M hM ⟨Y, Z, A, e, eV, rfl, hl3, hA, rfl⟩
    cases Y with
    | nil => simp at e
    | cons p Y =>
      rw [List.map_cons, List.cons.injEq] at e
      obtain ⟨rfl, rfl⟩ := e
      have lv : Z.length + 1 ≤ 6 := by rw [eV] at hl; simp at hl; omega
      simp -dsimp
      refine rea p _ _ (by rw [eV]; simp) fun r hr => ?_
      cases r
      · simp -dsimp
        have nr : ¬ Lat a b h p := fun z => by simpa using hr.2 z
        exact ⟨by omega, hM _ _ ⟨Y, Z ++ [p], A ++ [p], rfl, by rw [eV]; simp, by simp, by simp; omega, by simp only [List.append_eq_nil_iff, reduceCtorEq, and_false, all_snoc, false_iff]; exact fun z => nr z.2, rfl⟩⟩
      · simp -dsimp
        refine hM _ _ ⟨Y, Z ++ [p], A, rfl, by rw [eV]; simp, rfl, by simp; omega, ?_, rfl⟩
        rw [hA, all_snoc]
        exact ⟨fun z => ⟨z, hr.1 rfl⟩, fun z => z.1⟩
theorem wready (a b h : Int) : ∃ fs, lat a b h = D.obj (Str.ofString "Lattice") fs ∧ ∀ (a : Str) (b : D), (a, b) ∈ fs → ¬Str.ofString "within" = a := by
  refine ⟨_, rfl, fun a b h => ?_⟩
  simp at h
  rw [h.1]
  simp
theorem dbl_ok (V : List (Int × Int)) (hl : V.length ≤ 6) (hV : ∀ p ∈ V, Small 6000000000 p) : ∀ p ∈ V.map (fun p => (2 * p.1, 2 * p.2)), Small 12000000000 p := by
  intro p hp
  simp at hp
  obtain ⟨x, y, h, rfl⟩ := hp
  have := hV _ h
  unfold Small at this ⊢
  simp only at this ⊢
  omega
/-- what the law compares with -/
def Good (d : D) : Prop := ∃ W : List (Int × Int), d = .lst (W.map vt) ∧ W.length ≤ 6 ∧ ∀ p ∈ W, Small 1000000000000 p
theorem small_mono {b c : Int} (h : b ≤ c) {p : Int × Int} (hp : Small b p) : Small c p := by
  unfold Small at hp ⊢
  omega
theorem law_ok : ∀ ns : List Int, ns.length ≤ 63 → G_law [some (.slst (ns.map D.int))] (fun d _ => d = .bl true) fun _ _ => False := by
  intro ns hn
  unfold G_law F_law
  simp -dsimp
  refine pen_ok hn ?_
  simp -dsimp
  refine loop_inv (fun ds ρ => ∃ a r x2 x3 x4 x5 x6 x7 x8 x9 x10 x11 x12 x13, ρ = [some (.slst (ns.map D.int)), some (pen (ns.map .int) a r), x2, x3, x4, x5, x6, x7, x8, x9, x10, x11, x12, x13] ∧ 0 ≤ a ∧ a ≤ 300 * (3 - (ds.length : Int)) ∧ 0 ≤ r ∧ ds.length ≤ 3) ?_ ?_ _ _ ⟨0, 0, _, _, _, _, _, _, _, _, _, _, _, _, rfl, by omega, by simp, by omega, by simp⟩
  · rintro ρ ⟨a, r, x2, x3, x4, x5, x6, x7, x8, x9, x10, x11, x12, x13, rfl, _⟩
    simp
  · rintro d ds ρ N hN ⟨a, r, x2, x3, x4, x5, x6, x7, x8, x9, x10, x11, x12, x13, rfl, ha, hb, hr, hl⟩
    simp at hl hb
    simp -dsimp
    refine vectors_ok ha (by omega) hr fun V a1 r1 hV sV _ _ hr1 => ?_
    have sV2 : ∀ v ∈ V, Small 1000000000000 v := fun v hv => small_mono (by omega) (sV v hv)
    simp -dsimp
    refine can_lattice hV (fun p hp => (sV2 p hp).1) fun a b h c => ?_
    simp -dsimp
    refine turned_law (by omega) (by omega) hr1 hV sV fun U a2 r2 hU sm sU _ _ hr2 => ?_
    have sU2 : ∀ v ∈ U, Small 1000000000000 v := fun v hv => small_mono (by omega) (sU v hv)
    simp -dsimp
    refine can_lattice (by omega) (fun p hp => (sU2 p hp).1) fun a' b' h' c' => ?_
    obtain ⟨e1, e2, e3⟩ := c.same c' sm
    subst e1 e2 e3
    simp -dsimp
    refine compared_lat c c' (by simp) ?_
    simp -dsimp
    refine ⟨⟨_, rfl⟩, ?_⟩
    refine basis_prop ?_
    simp -dsimp
    refine ⟨⟨_, rfl⟩, ?_⟩
    refine basis_prop ?_
    simp -dsimp [genT, gNeU_vts]
    refine ⟨wready _ _ _, ?_⟩
    refine within_ok c c' sV2 sU2 fun r3 hr3 => ?_
    have : r3 = true := hr3.2 c.fib.all
    subst this
    simp -dsimp
    refine ⟨⟨_, rfl⟩, ?_⟩
    refine basis_prop ?_
    simp -dsimp [genT]
    refine gList_tup _ _ ?_
    have gl : (gens a b h).length ≤ 2 := by
      unfold gens
      split
      · split <;> simp
      · split <;> simp
    refine can_lattice (by omega) (fun p hp => ((c.bounds sV2).2 p hp).1) fun a3 b3 h3 c3 => ?_
    simp -dsimp
    refine compared_lat c c3 (by
      simp only [true_iff]
      exact c.uniq c3 fun p => (gens_fib c.h0 c.hab).eqv c3.fib p) ?_
    simp -dsimp
    refine vectors_ok (by omega) (by omega) hr2 fun V2 a4 r4 hV2 tV2 _ _ hr4 => ?_
    have ec : cutL (V.map vt) (some 1) none = V.tail.map vt := by
      cases V with
      | nil => simp [cutL, HT.sIx]
      | cons v V =>
        simp [cutL, HT.sIx]
        exact List.take_of_length_le (by simp)
    simp -dsimp
    refine comp_inv (fun it acc ρ => ∃ (Y Z : List (Int × Int)), it = Y.map vt ∧ V = Z ++ Y ∧ acc = (Z.map (fun p => (2 * p.1, 2 * p.2))).map vt ∧
      ρ = [some (.slst (ns.map D.int)), some (pen (ns.map .int) a4 r4), some d, some (.lst (V.map vt)), some (lat a b h), some (lat a b h), x6, x7, x8, x9, x10, x11, x12, x13]) ?_ ?_ _ _ _ ⟨V, [], rfl, rfl, rfl, rfl⟩
    · rintro acc ρ ⟨Y, Z, e, eV, rfl, rfl⟩
      have : Y = [] := by simpa using e.symm
      subst this
      rw [List.append_nil] at eV
      subst eV
      simp -dsimp
      rw [ec]
      have good : ∀ d ∈ [D.lst (V2.map vt), .lst (V.tail.map vt), .lst (V.map (vt ∘ fun p => (2 * p.1, 2 * p.2))), .lst []], Good d := by
        intro d hd
        simp only [List.mem_cons, List.not_mem_nil, or_false] at hd
        rcases hd with rfl | rfl | rfl | rfl
        · exact ⟨V2, rfl, hV2, fun p hp => small_mono (by omega) (tV2 p hp)⟩
        · exact ⟨V.tail, rfl, by simp; omega, fun p hp => sV2 p (List.mem_of_mem_tail hp)⟩
        · exact ⟨V.map (fun p => (2 * p.1, 2 * p.2)), by rw [List.map_map], by simpa using hV, fun p hp => small_mono (by omega) (dbl_ok V hV sV p hp)⟩
        · exact ⟨[], rfl, by simp, by simp⟩
      generalize ([D.lst (V2.map vt), .lst (V.tail.map vt), .lst (V.map (vt ∘ fun p => (2 * p.1, 2 * p.2))), .lst []] : List D) = Q at good ⊢
      refine loop_inv (fun ds ρ => ∃ y7 y8 y9 y10, (∀ d ∈ ds, Good d) ∧ ρ = [some (.slst (ns.map D.int)), some (pen (ns.map .int) a4 r4), some d, some (.lst (V.map vt)), some (lat a b h), some (lat a b h), some (.lst Q), y7, y8, y9, y10, x11, x12, x13]) ?_ ?_ _ _ ⟨_, _, _, _, good, rfl⟩
      · rintro ρ ⟨y7, y8, y9, y10, _, rfl⟩
        simp -dsimp
        refine ⟨⟨_, rfl⟩, ?_⟩
        refine basis_prop ?_
        simp -dsimp [genT]
        refine loop_inv (fun ds ρ => ∃ y11, (∀ d ∈ ds, leftD d) ∧ ρ = [some (.slst (ns.map D.int)), some (pen (ns.map .int) a4 r4), some d, some (.lst (V.map vt)), some (lat a b h), some (lat a b h), some (.lst Q), y7, y8, y9, y10, y11, x12, x13]) ?_ ?_ _ _ ⟨_, ?_, rfl⟩
        · rintro ρ ⟨y11, _, rfl⟩
          exact hN _ ⟨a4, r4, _, _, _, _, _, _, _, _, _, _, _, _, rfl, by omega, by omega, by omega, by omega⟩
        · rintro d3 ds3 ρ M hM ⟨y11, hd, rfl⟩
          simp -dsimp
          refine compared_odd (hd d3 (by simp)) ?_
          simp -dsimp
          exact hM _ ⟨_, fun e he => hd e (by simp [he]), rfl⟩
        · intro e he
          simp at he
          rcases he with rfl | rfl | rfl | rfl <;> trivial
      · rintro d3 ds3 ρ M hM ⟨y7, y8, y9, y10, hd, rfl⟩
        obtain ⟨W, rfl, hW, sW⟩ := hd d3 (by simp)
        simp -dsimp
        refine can_lattice hW (fun p hp => (sW p hp).1) fun a5 b5 h5 c5 => ?_
        simp -dsimp
        refine lwithin_ok c5 hV hW sV2 sW fun q1 hq1 => ?_
        simp -dsimp
        refine lwithin_ok c hW hV sW sV2 fun q2 hq2 => ?_
        simp -dsimp
        refine ⟨wready _ _ _, ?_⟩
        refine within_ok c c5 sV2 sW fun q3 hq3 => ?_
        have : q3 = q1 := by rw [Bool.eq_iff_iff, hq3, hq1]
        subst this
        simp -dsimp
        refine ⟨wready _ _ _, ?_⟩
        refine within_ok c5 c sW sV2 fun q4 hq4 => ?_
        have : q4 = q2 := by rw [Bool.eq_iff_iff, hq4, hq2]
        subst this
        simp -dsimp
        refine gRepr2 _ _ _ ?_
        refine gRepr2 _ _ _ ?_
        rw [gNeU_same (ok2 _ _)]
        simp -dsimp
        have key : ((∀ p ∈ V, Lat a5 b5 h5 p) ∧ ∀ p ∈ W, Lat a b h p) ↔ (a = a5 ∧ b = b5 ∧ h = h5) := by
          constructor
          · rintro ⟨k1, k2⟩
            refine c.uniq c5 fun p => ?_
            have g1 := c.fib.gen _ (L_cl a5 b5 h5) k1
            have g2 := c5.fib.gen _ (L_cl a b h) k2
            exact ⟨fun hp => (L_cl a5 b5 h5).ofL g1.1 g1.2 hp, fun hp => (L_cl a b h).ofL g2.1 g2.2 hp⟩
          · rintro ⟨rfl, rfl, rfl⟩
            exact ⟨c.fib.all, c5.fib.all⟩
        have done : ∀ y7 y8 y9 y10, M [some (.slst (ns.map D.int)), some (pen (ns.map .int) a4 r4), some d, some (.lst (V.map vt)), some (lat a b h), some (lat a b h), some (.lst Q), y7, y8, y9, y10, x11, x12, x13] := fun y7 y8 y9 y10 => hM _ ⟨_, _, _, _, fun e he => hd e (by simp [he]), rfl⟩
        cases q3
        · simp -dsimp
          refine compared_lat c c5 (by
            rw [← key, ← hq1]
            simp) ?_
          simp -dsimp
          exact done _ _ _ _
        · simp -dsimp
          refine compared_lat c c5 (by
            rw [← key, ← hq1, hq2]
            simp) ?_
          simp -dsimp
          exact done _ _ _ _
    · rintro d2 it acc ρ M hM ⟨Y, Z, e, eV, rfl, rfl⟩
      cases Y with
      | nil => simp at e
      | cons p Y =>
        rw [List.map_cons, List.cons.injEq] at e
        obtain ⟨rfl, rfl⟩ := e
        have lv : Z.length + 1 ≤ 6 := by rw [eV] at hV; simp at hV; omega
        simp -dsimp [vt]
        refine ⟨cmul_l (by omega) (by omega), cmul_l (by omega) (by omega), by omega, hM _ _ ⟨Y, Z ++ [p], rfl, by rw [eV]; simp, by simp [vt], rfl⟩⟩
section
variable {P : Program} {w : World} {K : PySem.W.Frag} {mg : Str → Option Value} {base : Heap}
theorem sc_l_pen : FnScope ["_law_script"] ["_law_script"] (defScope s_l_pen) := ⟨rfl, rfl, rfl, by decide +kernel, rfl, by decide +kernel, by decide +kernel⟩
theorem ok_l_pen (T : Tx K mg) : FnG P w K mg base 1 T.a_l_pen (spN K 1 [] G_l_pen) :=
  okNG_of (Fd := F_l_pen) T.F_l_pen T.b_l_pen sc_l_pen rfl rfl (fun cdv A outer s H E hr hgu => by
    have hu1 := hu_of hr
    have hu65 := hu65_of hr
    have hu64 := hu64_of hr
    have hu0 := hu0_of hr
    exact ⟨_, (dn_lst (da_cons (de_callTy call_list_of rv_list T.n_list (by rfl) (dao_one (deo (de_cut (de_var 0) do_none (do_some de_int))))) (da_cons de_int (da_cons de_int da_nil))))⟩) fun _ _ _ _ h => h
theorem sc_l_draw : FnScope ["_law_pen_here", "_law_size", "_law_digit", "_law_turn", "_law_cell", "_law_great", "_law_mixed"] ["_law_pen_here", "_law_size"] (defScope s_l_draw) := ⟨rfl, rfl, rfl, by decide +kernel, rfl, by decide +kernel, by decide +kernel⟩
theorem ok_l_draw (T : Tx K mg) : FnG P w K mg base 1 T.a_l_draw (spD K 2 [0] G_l_draw) :=
  okG_of (J := []) (Fd := F_l_draw) T.F_l_draw T.b_l_draw sc_l_draw rfl (fun cdv A outer s H E hr hgu => by
    have hu1 := hu_of hr
    have hu65 := hu65_of hr
    have hu64 := hu64_of hr
    have hu0 := hu0_of hr
    have tk := takes_of (X := (cxOf (L2.CX P w) P w K mg base ["_law_pen_here", "_law_size", "_law_digit", "_law_turn", "_law_cell", "_law_great", "_law_mixed"] "_law_draw" (defScope s_l_draw) T.a_l_draw cdv A outer s H E)) rfl rfl rfl rfl
    have hp := passes_of (X := (cxOf (L2.CX P w) P w K mg base ["_law_pen_here", "_law_size", "_law_digit", "_law_turn", "_law_cell", "_law_great", "_law_mixed"] "_law_draw" (defScope s_l_draw) T.a_l_draw cdv A outer s H E)) rfl
    exact (dss_cons (ds_if (J := []) (dt_cmp (op_gtU hu0) rv_gtU (de_ixL 0 (ix_U hu1) rv_ix (deo de_int)) (deo de_int))
      (dss_cons (ds_set 2 sc_l_draw.nd (de_bin op_modN rv_fmod (de_ixL 0 (ix_U hu1) rv_ix (deo de_int)) (deo (de_var 1))))
      (dss_cons (ds_putL 0 (de_bin op_fdivG rv_fdiv (de_ixL 0 (ix_U hu1) rv_ix (deo de_int)) (deo (de_var 1))) de_int)
      (dss_one (ds_ret (J1 := []) (de_var 2)))))
      dss_nil)
      (dss_cons (ds_set 3 sc_l_draw.nd (de_ixL 0 (ix_U hu1) rv_ix (deo de_int)))
      (dss_cons (ds_putL 0 (de_bin op_addU rv_add (de_var 3) (deo de_int)) de_int)
      (dss_cons (ds_set 4 sc_l_draw.nd (de_bin op_addU rv_add (de_bin op_mulU rv_mul de_int (deo (de_var 3))) (deo de_int)))
      (dss_cons (ds_if (J := []) (dt_cmp (op_neU hu64) rv_neU (de_ixL 0 (ix_U hu1) rv_ix (deo de_int)) (deo (de_new (dn_lst da_nil))))
      (dss_one (ds_set 4 sc_l_draw.nd (de_ix (ix_U hu1) rv_ix (de_ixL 0 (ix_U hu1) rv_ix (deo de_int)) (deo (de_bin op_modN rv_fmod (de_var 3) (deo (de_callB call_lenU rv_len T.n_len (by rfl) (dao_one (deo (de_ixL 0 (ix_U hu1) rv_ix (deo de_int)))))))))))
      dss_nil)
      (dss_cons (ds_if (J := []) (dt_w (dw_and (dt_cmp (op_ltU hu0) rv_lt (de_var 3) (deo (de_callB call_lenU rv_len T.n_len (by rfl) (dao_one (deo (de_ixL 0 (ix_U hu1) rv_ix (deo de_int))))))) (dw_and1 (dt_cmp op_ge rv_ge (de_callB call_abs rv_abs T.n_abs (by rfl) (dao_one (deo (de_var 4)))) (deo (de_bin op_pow rv_pow de_int (deo de_int)))))))
      (dss_cons (ds_set 5 sc_l_draw.nd (de_bin op_addU rv_add (de_bin op_mulU rv_mul de_int (deo (de_callB call_abs rv_abs T.n_abs (by rfl) (dao_one (deo (de_var 4)))))) (deo (de_callTy call_int1 rv_int T.n_int (by rfl) (dao_one (deo (de_cmp (op_ltU hu0) rv_lt (de_var 4) (deo de_int))))))))
      (dss_cons (ds_putL 0 (de_bin op_fdivG rv_fdiv (de_var 5) (deo (de_var 1))) de_int)
      (dss_one (ds_ret (J1 := []) (de_bin op_modN rv_fmod (de_var 5) (deo (de_var 1)))))))
      dss_nil)
      (dss_cons (ds_set 6 sc_l_draw.nd (de_bin op_modN rv_fmod (de_bin op_pow rv_pow (de_bin op_addU rv_add (de_bin op_addU rv_add (de_bin op_modN rv_fmod (de_var 4) (deo de_int)) (deo (de_bin op_mulU rv_mul de_int (deo (de_var 3))))) (deo de_int)) (deo de_int)) (deo de_int)))
      (dss_cons (ds_set 6 sc_l_draw.nd (de_bin op_modN rv_fmod (de_bin op_pow rv_pow (de_bin op_addU rv_add (de_bin op_mulU rv_mul (de_var 6) (deo (de_bin op_addU rv_add (de_var 3) (deo de_int)))) (deo (de_bin op_mulU rv_mul (de_bin op_mulU rv_mul de_int (deo (de_var 3))) (deo (de_var 3))))) (deo de_int)) (deo de_int)))
      (dss_one (ds_ret (J1 := []) (de_bin op_modN rv_fmod (de_bin op_fdivG rv_fdiv (de_var 6) (deo de_int)) (deo (de_var 1)))))))))))))) fun _ _ _ _ h => h
theorem sc_l_vector : FnScope ["_law_pen_here", "_law_some", "_law_signs", "_law_left"] ["_law_pen_here"] (defScope s_l_vector) := ⟨rfl, rfl, rfl, by decide +kernel, rfl, by decide +kernel, by decide +kernel⟩
theorem ok_l_vector (T : Tx K mg) : FnG P w K mg base 2 T.a_l_vector (spD K 1 [0] G_l_vector) :=
  okG_of (J := []) (Fd := F_l_vector) T.F_l_vector T.b_l_vector sc_l_vector rfl (fun cdv A outer s H E hr hgu => by
    have hu1 := hu_of hr
    have hu65 := hu65_of hr
    have hu64 := hu64_of hr
    have hu0 := hu0_of hr
    have tk := takes_of (X := (cxOf (L2.CX P w) P w K mg base ["_law_pen_here", "_law_some", "_law_signs", "_law_left"] "_law_vector" (defScope s_l_vector) T.a_l_vector cdv A outer s H E)) rfl rfl rfl rfl
    have hp := passes_of (X := (cxOf (L2.CX P w) P w K mg base ["_law_pen_here", "_law_some", "_law_signs", "_law_left"] "_law_vector" (defScope s_l_vector) T.a_l_vector cdv A outer s H E)) rfl
    exact (dss_cons (ds_set 1 sc_l_vector.nd (de_new (dn_lst (da_cons (de_bin op_sub rv_sub (de_callG ((ok_l_draw T).mono (k := 1) (by decide)) hr hgu T.m_l_draw T.k_l_draw tk (do_own 0 (do_val de_int do_nil))) (deo de_int)) (da_cons (de_bin op_sub rv_sub (de_callG ((ok_l_draw T).mono (k := 1) (by decide)) hr hgu T.m_l_draw T.k_l_draw tk (do_own 0 (do_val de_int do_nil))) (deo de_int)) (da_cons de_int (da_cons (de_bin op_sub rv_sub (de_bin op_pow rv_pow de_int (deo de_int)) (deo (de_callG ((ok_l_draw T).mono (k := 1) (by decide)) hr hgu T.m_l_draw T.k_l_draw tk (do_own 0 (do_val de_int do_nil))))) da_nil)))))))
      (dss_cons (ds_set 2 sc_l_vector.nd (de_new (dn_lst (da_cons de_int (da_cons (de_bin op_sub rv_sub de_int (deo de_int)) da_nil)))))
      (dss_cons (ds_set 3 sc_l_vector.nd (de_bin op_mulU rv_mul (de_ix (ix_U hu1) rv_ix (de_var 1) (deo (de_ix (ix_U hu1) rv_ix (de_new (dn_lst (da_cons de_int (da_cons de_int (da_cons de_int (da_cons de_int (da_cons de_int (da_cons de_int da_nil)))))))) (deo (de_callG ((ok_l_draw T).mono (k := 1) (by decide)) hr hgu T.m_l_draw T.k_l_draw tk (do_own 0 (do_val de_int do_nil))))))) (deo (de_ix (ix_U hu1) rv_ix (de_var 2) (deo (de_callG ((ok_l_draw T).mono (k := 1) (by decide)) hr hgu T.m_l_draw T.k_l_draw tk (do_own 0 (do_val de_int do_nil))))))))
      (dss_cons (ds_set 1 sc_l_vector.nd (de_new (dn_lst (da_cons (de_bin op_sub rv_sub (de_callG ((ok_l_draw T).mono (k := 1) (by decide)) hr hgu T.m_l_draw T.k_l_draw tk (do_own 0 (do_val de_int do_nil))) (deo de_int)) (da_cons (de_bin op_sub rv_sub (de_callG ((ok_l_draw T).mono (k := 1) (by decide)) hr hgu T.m_l_draw T.k_l_draw tk (do_own 0 (do_val de_int do_nil))) (deo de_int)) (da_cons de_int (da_cons (de_bin op_sub rv_sub (de_bin op_pow rv_pow de_int (deo de_int)) (deo (de_callG ((ok_l_draw T).mono (k := 1) (by decide)) hr hgu T.m_l_draw T.k_l_draw tk (do_own 0 (do_val de_int do_nil))))) da_nil)))))))
      (dss_one (ds_ret (J1 := []) (de_tup (da_cons (de_var 3) (da_cons (de_bin op_mulU rv_mul (de_ix (ix_U hu1) rv_ix (de_var 1) (deo (de_ix (ix_U hu1) rv_ix (de_new (dn_lst (da_cons de_int (da_cons de_int (da_cons de_int (da_cons de_int (da_cons de_int (da_cons de_int da_nil)))))))) (deo (de_callG ((ok_l_draw T).mono (k := 1) (by decide)) hr hgu T.m_l_draw T.k_l_draw tk (do_own 0 (do_val de_int do_nil))))))) (deo (de_ix (ix_U hu1) rv_ix (de_var 2) (deo (de_callG ((ok_l_draw T).mono (k := 1) (by decide)) hr hgu T.m_l_draw T.k_l_draw tk (do_own 0 (do_val de_int do_nil))))))) da_nil)))))))))) fun _ _ _ _ h => h
theorem sc_l_vectors : FnScope ["_law_pen_here", "_law_many", "_law_a", "_law_b", "_law_turn", "_law_k"] ["_law_pen_here"] (defScope s_l_vectors) := ⟨rfl, rfl, rfl, by decide +kernel, rfl, by decide +kernel, by decide +kernel⟩
theorem ok_l_vectors (T : Tx K mg) : FnG P w K mg base 3 T.a_l_vectors (spD K 1 [0] G_l_vectors) :=
  okG_of (J := []) (Fd := F_l_vectors) T.F_l_vectors T.b_l_vectors sc_l_vectors rfl (fun cdv A outer s H E hr hgu => by
    have hu1 := hu_of hr
    have hu65 := hu65_of hr
    have hu64 := hu64_of hr
    have hu0 := hu0_of hr
    have tk := takes_of (X := (cxOf (L2.CX P w) P w K mg base ["_law_pen_here", "_law_many", "_law_a", "_law_b", "_law_turn", "_law_k"] "_law_vectors" (defScope s_l_vectors) T.a_l_vectors cdv A outer s H E)) rfl rfl rfl rfl
    have hp := passes_of (X := (cxOf (L2.CX P w) P w K mg base ["_law_pen_here", "_law_many", "_law_a", "_law_b", "_law_turn", "_law_k"] "_law_vectors" (defScope s_l_vectors) T.a_l_vectors cdv A outer s H E)) rfl
    exact (dss_cons (ds_set 1 sc_l_vectors.nd (de_callG ((ok_l_draw T).mono (k := 2) (by decide)) hr hgu T.m_l_draw T.k_l_draw tk (do_own 0 (do_val de_int do_nil))))
      (dss_cons (ds_if (J := []) (dt_cmp (op_eqU hu64) rv_eqU (de_callG ((ok_l_draw T).mono (k := 2) (by decide)) hr hgu T.m_l_draw T.k_l_draw tk (do_own 0 (do_val de_int do_nil))) (deo de_int))
      (dss_cons (ds_asg (de_callG ((ok_l_vector T).mono (k := 2) (by decide)) hr hgu T.m_l_vector T.k_l_vector tk (do_own 0 do_nil)) (dg_tup rfl (dgs_cons (dg_name 2 sc_l_vectors.nd) (dgs_cons (dg_name 3 sc_l_vectors.nd) dgs_nil)) (fun ds ρ k h => ((gl_cons gs_nm (gl_cons gs_nm gl_nil)) ds ρ k h).1)))
      (dss_one (ds_ret (J1 := []) (de_new (dn_of (dx_lc ["_law_pen_here", "_law_many", "_law_a", "_law_b", "_law_turn", "_law_k"] (defScope s_l_vectors) [("_law_k", 5)] [5] rfl sc_l_vectors.nd (di_seq (de_new (dn_of (dx_lc ["_law_pen_here", "_law_many", "_law_a", "_law_b", "_law_turn", "_law_k"] (defScope s_l_vectors) [("_law_turn", 4)] [4] rfl sc_l_vectors.nd (di_range1 T.n_range (da_cons (de_var 1) da_nil)) (by decide +kernel) (fun _ _ _ _ _ => ⟨_, (dg_name 4 sc_l_vectors.nd)⟩) (fun _ _ _ _ _ => ⟨_, dts_nil⟩) (fun _ _ _ _ _ => ⟨_, (de_bin op_sub rv_sub (de_callG ((ok_l_draw T).mono (k := 2) (by decide)) hr hgu T.m_l_draw T.k_l_draw takes0 (do_own 0 (do_val de_int do_nil))) (deo de_int))⟩))))) (by decide +kernel) (fun _ _ _ _ _ => ⟨_, (dg_name 5 sc_l_vectors.nd)⟩) (fun _ _ _ _ _ => ⟨_, dts_nil⟩) (fun _ _ _ _ _ => ⟨_, (de_tup (da_cons (de_bin op_mulU rv_mul (de_var 2) (deo (de_var 5))) (da_cons (de_bin op_mulU rv_mul (de_var 3) (deo (de_var 5))) da_nil)))⟩)))))))
      dss_nil)
      (dss_one (ds_ret (J1 := []) (de_new (dn_of (dx_lc ["_law_pen_here", "_law_many", "_law_a", "_law_b", "_law_turn", "_law_k"] (defScope s_l_vectors) [("_law_turn", 4)] [4] rfl sc_l_vectors.nd (di_range1 T.n_range (da_cons (de_var 1) da_nil)) (by decide +kernel) (fun _ _ _ _ _ => ⟨_, (dg_name 4 sc_l_vectors.nd)⟩) (fun _ _ _ _ _ => ⟨_, dts_nil⟩) (fun _ _ _ _ _ => ⟨_, (de_callG ((ok_l_vector T).mono (k := 2) (by decide)) hr hgu T.m_l_vector T.k_l_vector takes0 (do_own 0 do_nil))⟩))))))))) fun _ _ _ _ h => h
theorem sc_turned_down : FnScope ["top", "vector", "times"] ["top", "vector"] (defScope s_turned_down) := ⟨rfl, rfl, rfl, by decide +kernel, rfl, by decide +kernel, by decide +kernel⟩
theorem ok_turned_down (T : Tx K mg) : FnG P w K mg base 1 T.a_turned_down (spD K 2 [] G_turned_down) :=
  okG_of (J := []) (Fd := F_turned_down) T.F_turned_down T.b_turned_down sc_turned_down rfl (fun cdv A outer s H E hr hgu => by
    have hu1 := hu_of hr
    have hu65 := hu65_of hr
    have hu64 := hu64_of hr
    have hu0 := hu0_of hr
    have tk := takes_of (X := (cxOf (L2.CX P w) P w K mg base ["top", "vector", "times"] "turned_down" (defScope s_turned_down) T.a_turned_down cdv A outer s H E)) rfl rfl rfl rfl
    have hp := passes_of (X := (cxOf (L2.CX P w) P w K mg base ["top", "vector", "times"] "turned_down" (defScope s_turned_down) T.a_turned_down cdv A outer s H E)) rfl
    exact (dss_cons (ds_while hp (dt_cmp (op_neU hu64) rv_neU (de_ix (ix_U hu1) rv_ix (de_var 1) (deo de_int)) (deo de_int))
      (dss_cons (ds_set 2 sc_turned_down.nd (de_bin op_fdivG rv_fdiv (de_ix (ix_U hu1) rv_ix (de_var 0) (deo de_int)) (deo (de_ix (ix_U hu1) rv_ix (de_var 1) (deo de_int)))))
      (dss_one (ds_par 0 1 rfl sc_turned_down.nd (da_cons (de_var 1) (da_cons (de_tup (da_cons (de_bin op_sub rv_sub (de_ix (ix_U hu1) rv_ix (de_var 0) (deo de_int)) (deo (de_bin op_mulU rv_mul (de_var 2) (deo (de_ix (ix_U hu1) rv_ix (de_var 1) (deo de_int)))))) (da_cons (de_bin op_sub rv_sub (de_ix (ix_U hu1) rv_ix (de_var 0) (deo de_int)) (deo (de_bin op_mulU rv_mul (de_var 2) (deo (de_ix (ix_U hu1) rv_ix (de_var 1) (deo de_int)))))) da_nil))) da_nil))))))
      (dss_one (ds_ret (J1 := []) (de_tup (da_cons (de_var 0) (da_cons (de_var 1) da_nil))))))) fun _ _ _ _ h => h
theorem sc_greatest_divisor : FnScope ["first", "second"] ["first", "second"] (defScope s_greatest_divisor) := ⟨rfl, rfl, rfl, by decide +kernel, rfl, by decide +kernel, by decide +kernel⟩
theorem ok_greatest_divisor (T : Tx K mg) : FnG P w K mg base 1 T.a_greatest_divisor (spD K 2 [] G_greatest_divisor) :=
  okG_of (J := []) (Fd := F_greatest_divisor) T.F_greatest_divisor T.b_greatest_divisor sc_greatest_divisor rfl (fun cdv A outer s H E hr hgu => by
    have hu1 := hu_of hr
    have hu65 := hu65_of hr
    have hu64 := hu64_of hr
    have hu0 := hu0_of hr
    have tk := takes_of (X := (cxOf (L2.CX P w) P w K mg base ["first", "second"] "greatest_divisor" (defScope s_greatest_divisor) T.a_greatest_divisor cdv A outer s H E)) rfl rfl rfl rfl
    have hp := passes_of (X := (cxOf (L2.CX P w) P w K mg base ["first", "second"] "greatest_divisor" (defScope s_greatest_divisor) T.a_greatest_divisor cdv A outer s H E)) rfl
    exact (dss_cons (ds_while hp (dt_cmp (op_neU hu64) rv_neU (de_var 1) (deo de_int))
      (dss_one (ds_par 0 1 rfl sc_greatest_divisor.nd (da_cons (de_var 1) (da_cons (de_bin op_modN rv_fmod (de_var 0) (deo (de_var 1))) da_nil)))))
      (dss_one (ds_ret (J1 := []) (de_callB call_abs rv_abs T.n_abs (by rfl) (dao_one (deo (de_var 0)))))))) fun _ _ _ _ h => h
theorem sc_basis_of : FnScope ["vectors", "top", "height", "vector", "rest"] ["vectors"] (defScope s_basis_of) := ⟨rfl, rfl, rfl, by decide +kernel, rfl, by decide +kernel, by decide +kernel⟩
theorem ok_basis_of (T : Tx K mg) : FnG P w K mg base 2 T.a_basis_of (spD K 1 [] G_basis_of) :=
  okG_of (J := []) (Fd := F_basis_of) T.F_basis_of T.b_basis_of sc_basis_of rfl (fun cdv A outer s H E hr hgu => by
    have hu1 := hu_of hr
    have hu65 := hu65_of hr
    have hu64 := hu64_of hr
    have hu0 := hu0_of hr
    have tk := takes_of (X := (cxOf (L2.CX P w) P w K mg base ["vectors", "top", "height", "vector", "rest"] "basis_of" (defScope s_basis_of) T.a_basis_of cdv A outer s H E)) rfl rfl rfl rfl
    have hp := passes_of (X := (cxOf (L2.CX P w) P w K mg base ["vectors", "top", "height", "vector", "rest"] "basis_of" (defScope s_basis_of) T.a_basis_of cdv A outer s H E)) rfl
    exact (dss_cons (ds_set 1 sc_basis_of.nd (de_tup (da_cons de_int (da_cons de_int da_nil))))
      (dss_cons (ds_set 2 sc_basis_of.nd de_int)
      (dss_cons (ds_for hp rfl (J := []) (di_seq (de_var 0)) (dg_name 3 sc_basis_of.nd)
      (dss_cons (ds_asg (de_callG ((ok_turned_down T).mono (k := 1) (by decide)) hr hgu T.m_turned_down T.k_turned_down tk (do_val (de_var 1) (do_val (de_var 3) do_nil))) (dg_tup rfl (dgs_cons (dg_name 1 sc_basis_of.nd) (dgs_cons (dg_name 4 sc_basis_of.nd) dgs_nil)) (fun ds ρ k h => ((gl_cons gs_nm (gl_cons gs_nm gl_nil)) ds ρ k h).1)))
      (dss_one (ds_set 2 sc_basis_of.nd (de_callG ((ok_greatest_divisor T).mono (k := 1) (by decide)) hr hgu T.m_greatest_divisor T.k_greatest_divisor tk (do_val (de_var 2) (do_val (de_ix (ix_U hu1) rv_ix (de_var 4) (deo de_int)) do_nil)))))))
      (dss_cons (ds_if (J := []) (dt_cmp (op_ltU hu0) rv_lt (de_ix (ix_U hu1) rv_ix (de_var 1) (deo de_int)) (deo de_int))
      (dss_one (ds_set 1 sc_basis_of.nd (de_tup (da_cons (de_un un_neg rv_neg (deo (de_ix (ix_U hu1) rv_ix (de_var 1) (deo de_int)))) (da_cons (de_un un_neg rv_neg (deo (de_ix (ix_U hu1) rv_ix (de_var 1) (deo de_int)))) da_nil)))))
      dss_nil)
      (dss_cons (ds_if (J := []) (dt_cmp (op_eqU hu64) rv_eqU (de_ix (ix_U hu1) rv_ix (de_var 1) (deo de_int)) (deo de_int))
      (dss_one (ds_ret (J1 := []) (de_if (dt_cmp (op_gtU hu0) rv_gtU (de_var 2) (deo de_int)) (de_tup (da_cons (de_tup (da_cons de_int (da_cons (de_var 2) da_nil))) da_nil)) (de_tup da_nil))))
      dss_nil)
      (dss_cons (ds_if (J := []) (dt_cmp (op_eqU hu64) rv_eqU (de_var 2) (deo de_int))
      (dss_one (ds_ret (J1 := []) (de_tup (da_cons (de_var 1) da_nil))))
      dss_nil)
      (dss_one (ds_ret (J1 := []) (de_tup (da_cons (de_tup (da_cons (de_ix (ix_U hu1) rv_ix (de_var 1) (deo de_int)) (da_cons (de_bin op_modN rv_fmod (de_ix (ix_U hu1) rv_ix (de_var 1) (deo de_int)) (deo (de_var 2))) da_nil))) (da_cons (de_tup (da_cons de_int (da_cons (de_var 2) da_nil))) da_nil)))))))))))) fun _ _ _ _ h => h
theorem sc_Lattice___init__ : FnScope ["self", "vectors"] ["self", "vectors"] (defScope s_Lattice___init__) := ⟨rfl, rfl, rfl, by decide +kernel, rfl, by decide +kernel, by decide +kernel⟩
theorem ok_Lattice___init__ (T : Tx K mg) : FnG P w K mg base 3 T.a_Lattice___init__ (spStar 1 (spD K 2 [0] G_Lattice___init__)) :=
  okGS_of (ps := ["self"]) (J := []) (Fd := F_Lattice___init__) T.F_Lattice___init__ T.b_Lattice___init__ sc_Lattice___init__ (fun cdv A outer s H E hr hgu => by
    have hu1 := hu_of hr
    have hu65 := hu65_of hr
    have hu64 := hu64_of hr
    have hu0 := hu0_of hr
    have tk := takes_of (X := (cxOf (L2.CX P w) P w K mg base ["self", "vectors"] "Lattice.__init__" (defScope s_Lattice___init__) T.a_Lattice___init__ cdv A outer s H E)) rfl rfl rfl rfl
    have hp := passes_of (X := (cxOf (L2.CX P w) P w K mg base ["self", "vectors"] "Lattice.__init__" (defScope s_Lattice___init__) T.a_Lattice___init__ cdv A outer s H E)) rfl
    exact (dss_one (ds_fld 0 "Lattice" T.ic_Lattice T.cl_Lattice T.na_Lattice_generators (de_callG ((ok_basis_of T).mono (k := 2) (by decide)) hr hgu T.m_basis_of T.k_basis_of tk (do_val (de_var 1) do_nil))))) fun _ _ _ _ h => h
theorem sc_l_lattice : FnScope ["_law_vectors_here"] ["_law_vectors_here"] (defScope s_l_lattice) := ⟨rfl, rfl, rfl, by decide +kernel, rfl, by decide +kernel, by decide +kernel⟩
theorem ok_l_lattice (T : Tx K mg) : FnG P w K mg base 5 T.a_l_lattice (spD K 1 [] G_l_lattice) :=
  okG_of (J := []) (Fd := F_l_lattice) T.F_l_lattice T.b_l_lattice sc_l_lattice rfl (fun cdv A outer s H E hr hgu => by
    have hu1 := hu_of hr
    have hu65 := hu65_of hr
    have hu64 := hu64_of hr
    have hu0 := hu0_of hr
    have tk := takes_of (X := (cxOf (L2.CX P w) P w K mg base ["_law_vectors_here"] "_law_lattice" (defScope s_l_lattice) T.a_l_lattice cdv A outer s H E)) rfl rfl rfl rfl
    have hp := passes_of (X := (cxOf (L2.CX P w) P w K mg base ["_law_vectors_here"] "_law_lattice" (defScope s_l_lattice) T.a_l_lattice cdv A outer s H E)) rfl
    exact (dss_cons (ds_if (J := []) (dt_cmp (op_eqU hu64) rv_eqU (de_var 0) (deo (de_new (dn_lst da_nil))))
      (dss_one (ds_ret (J1 := []) (de_new (dn_makeS0 T.mk_Lattice T.ic_Lattice ((ok_Lattice___init__ T).mono (k := 3) (by decide)) hr hgu T.mc_Lattice tk))))
      dss_nil)
      (dss_cons (ds_if (J := []) (dt_cmp (op_eqU hu64) rv_eqU (de_callB call_lenU rv_len T.n_len (by rfl) (dao_one (deo (de_var 0)))) (deo de_int))
      (dss_one (ds_ret (J1 := []) (de_new (dn_makeS T.mk_Lattice T.ic_Lattice ((ok_Lattice___init__ T).mono (k := 3) (by decide)) hr hgu T.mc_Lattice tk (da_cons (de_ix (ix_U hu1) rv_ix (de_var 0) (deo de_int)) da_nil)))))
      dss_nil)
      (dss_cons (ds_if (J := []) (dt_cmp (op_eqU hu64) rv_eqU (de_callB call_lenU rv_len T.n_len (by rfl) (dao_one (deo (de_var 0)))) (deo de_int))
      (dss_one (ds_ret (J1 := []) (de_new (dn_makeS T.mk_Lattice T.ic_Lattice ((ok_Lattice___init__ T).mono (k := 3) (by decide)) hr hgu T.mc_Lattice tk (da_cons (de_ix (ix_U hu1) rv_ix (de_var 0) (deo de_int)) (da_cons (de_ix (ix_U hu1) rv_ix (de_var 0) (deo de_int)) da_nil))))))
      dss_nil)
      (dss_cons (ds_if (J := []) (dt_cmp (op_eqU hu64) rv_eqU (de_callB call_lenU rv_len T.n_len (by rfl) (dao_one (deo (de_var 0)))) (deo de_int))
      (dss_one (ds_ret (J1 := []) (de_new (dn_makeS T.mk_Lattice T.ic_Lattice ((ok_Lattice___init__ T).mono (k := 3) (by decide)) hr hgu T.mc_Lattice tk (da_cons (de_ix (ix_U hu1) rv_ix (de_var 0) (deo de_int)) (da_cons (de_ix (ix_U hu1) rv_ix (de_var 0) (deo de_int)) (da_cons (de_ix (ix_U hu1) rv_ix (de_var 0) (deo de_int)) da_nil)))))))
      dss_nil)
      (dss_cons (ds_if (J := []) (dt_cmp (op_eqU hu64) rv_eqU (de_callB call_lenU rv_len T.n_len (by rfl) (dao_one (deo (de_var 0)))) (deo de_int))
      (dss_one (ds_ret (J1 := []) (de_new (dn_makeS T.mk_Lattice T.ic_Lattice ((ok_Lattice___init__ T).mono (k := 3) (by decide)) hr hgu T.mc_Lattice tk (da_cons (de_ix (ix_U hu1) rv_ix (de_var 0) (deo de_int)) (da_cons (de_ix (ix_U hu1) rv_ix (de_var 0) (deo de_int)) (da_cons (de_ix (ix_U hu1) rv_ix (de_var 0) (deo de_int)) (da_cons (de_ix (ix_U hu1) rv_ix (de_var 0) (deo de_int)) da_nil))))))))
      dss_nil)
      (dss_cons (ds_if (J := []) (dt_cmp (op_eqU hu64) rv_eqU (de_callB call_lenU rv_len T.n_len (by rfl) (dao_one (deo (de_var 0)))) (deo de_int))
      (dss_one (ds_ret (J1 := []) (de_new (dn_makeS T.mk_Lattice T.ic_Lattice ((ok_Lattice___init__ T).mono (k := 3) (by decide)) hr hgu T.mc_Lattice tk (da_cons (de_ix (ix_U hu1) rv_ix (de_var 0) (deo de_int)) (da_cons (de_ix (ix_U hu1) rv_ix (de_var 0) (deo de_int)) (da_cons (de_ix (ix_U hu1) rv_ix (de_var 0) (deo de_int)) (da_cons (de_ix (ix_U hu1) rv_ix (de_var 0) (deo de_int)) (da_cons (de_ix (ix_U hu1) rv_ix (de_var 0) (deo de_int)) da_nil)))))))))
      dss_nil)
      (dss_one (ds_ret (J1 := []) (de_new (dn_makeS T.mk_Lattice T.ic_Lattice ((ok_Lattice___init__ T).mono (k := 3) (by decide)) hr hgu T.mc_Lattice tk (da_cons (de_ix (ix_U hu1) rv_ix (de_var 0) (deo de_int)) (da_cons (de_ix (ix_U hu1) rv_ix (de_var 0) (deo de_int)) (da_cons (de_ix (ix_U hu1) rv_ix (de_var 0) (deo de_int)) (da_cons (de_ix (ix_U hu1) rv_ix (de_var 0) (deo de_int)) (da_cons (de_ix (ix_U hu1) rv_ix (de_var 0) (deo de_int)) (da_cons (de_ix (ix_U hu1) rv_ix (de_var 0) (deo de_int)) da_nil))))))))))))))))) fun _ _ _ _ h => h
theorem sc_l_turned : FnScope ["_law_pen_here", "_law_vectors_here", "_law_found", "_law_lap", "_law_at", "_law_other", "_law_times"] ["_law_pen_here", "_law_vectors_here"] (defScope s_l_turned) := ⟨rfl, rfl, rfl, by decide +kernel, rfl, by decide +kernel, by decide +kernel⟩
theorem ok_l_turned (T : Tx K mg) : FnG P w K mg base 2 T.a_l_turned (spD K 2 [0] G_l_turned) :=
  okG_of (J := [2]) (Fd := F_l_turned) T.F_l_turned T.b_l_turned sc_l_turned rfl (fun cdv A outer s H E hr hgu => by
    have hu1 := hu_of hr
    have hu65 := hu65_of hr
    have hu64 := hu64_of hr
    have hu0 := hu0_of hr
    have tk := takes_of (X := (cxOf (L2.CX P w) P w K mg base ["_law_pen_here", "_law_vectors_here", "_law_found", "_law_lap", "_law_at", "_law_other", "_law_times"] "_law_turned" (defScope s_l_turned) T.a_l_turned cdv A outer s H E)) rfl rfl rfl rfl
    have hp := passes_of (X := (cxOf (L2.CX P w) P w K mg base ["_law_pen_here", "_law_vectors_here", "_law_found", "_law_lap", "_law_at", "_law_other", "_law_times"] "_law_turned" (defScope s_l_turned) T.a_l_turned cdv A outer s H E)) rfl
    exact (dss_cons (ds_setN 2 sc_l_turned.nd (dn_list T.n_list (by rfl) (dao_one (deo (de_var 1)))))
      (dss_cons (ds_for hp rfl (J := [2]) (di_range1 T.n_range (da_cons de_int da_nil)) (dg_name 3 sc_l_turned.nd)
      (dss_weak (J := [2, 2]) (J1 := [2]) (dss_cons (ds_if (J := [2]) (dt_cmp (op_gtU hu0) rv_gtU (de_callB call_lenU rv_len T.n_len (by rfl) (dao_one (deo_var 2))) (deo de_int))
      (dss_cons (ds_set 4 sc_l_turned.nd (de_callG ((ok_l_draw T).mono (k := 1) (by decide)) hr hgu T.m_l_draw T.k_l_draw tk (do_own 0 (do_val (de_callB call_lenU rv_len T.n_len (by rfl) (dao_one (deo_var 2))) do_nil))))
      (dss_cons (ds_set 5 sc_l_turned.nd (de_bin op_modN rv_fmod (de_bin op_addU rv_add (de_bin op_addU rv_add (de_var 4) (deo de_int)) (deo (de_callG ((ok_l_draw T).mono (k := 1) (by decide)) hr hgu T.m_l_draw T.k_l_draw tk (do_own 0 (do_val (de_bin op_sub rv_sub (de_callB call_lenU rv_len T.n_len (by rfl) (dao_one (deo_var 2))) (deo de_int)) do_nil))))) (deo (de_callB call_lenU rv_len T.n_len (by rfl) (dao_one (deo_var 2))))))
      (dss_cons (ds_set 6 sc_l_turned.nd (de_bin op_sub rv_sub (de_callG ((ok_l_draw T).mono (k := 1) (by decide)) hr hgu T.m_l_draw T.k_l_draw tk (do_own 0 (do_val de_int do_nil))) (deo de_int)))
      (dss_one (ds_putL 2 (de_tup (da_cons (de_bin op_addU rv_add (de_ix (ix_U hu1) rv_ix (de_ixL 2 (ix_U hu1) rv_ix (deo (de_var 4))) (deo de_int)) (deo (de_bin op_mulU rv_mul (de_var 6) (deo (de_ix (ix_U hu1) rv_ix (de_ixL 2 (ix_U hu1) rv_ix (deo (de_var 5))) (deo de_int)))))) (da_cons (de_bin op_addU rv_add (de_ix (ix_U hu1) rv_ix (de_ixL 2 (ix_U hu1) rv_ix (deo (de_var 4))) (deo de_int)) (deo (de_bin op_mulU rv_mul (de_var 6) (deo (de_ix (ix_U hu1) rv_ix (de_ixL 2 (ix_U hu1) rv_ix (deo (de_var 5))) (deo de_int)))))) da_nil))) (de_var 4))))))
      dss_nil)
      (dss_one (ds_if (J := [2, 2]) (dt_w (dw_and (dt_cmpL 2 (op_neU hu64) rv_neU (deo (de_new (dn_lst da_nil)))) (dw_and1 (dt_cmp (op_eqU hu64) rv_eqU (de_callG ((ok_l_draw T).mono (k := 1) (by decide)) hr hgu T.m_l_draw T.k_l_draw tk (do_own 0 (do_val de_int do_nil))) (deo de_int)))))
      (dss_one (ds_setN 2 sc_l_turned.nd (dn_add (de_cutO 2 (ha := (do_some de_int)) (hb := do_none)) (de_new (dn_lst (da_cons (de_tup (da_cons (de_bin op_sub rv_sub de_int (deo (de_ix (ix_U hu1) rv_ix (de_ixL 2 (ix_U hu1) rv_ix (deo de_int)) (deo de_int)))) (da_cons (de_bin op_sub rv_sub de_int (deo (de_ix (ix_U hu1) rv_ix (de_ixL 2 (ix_U hu1) rv_ix (deo de_int)) (deo de_int)))) da_nil))) da_nil))))))
      (dss_weak (J := [2]) (J1 := [2, 2]) dss_nil))))))
      (dss_one (ds_retO (J1 := [2]) 2))))) fun _ _ _ _ h => h
theorem sc_Lattice___eq__ : FnScope ["self", "other"] ["self", "other"] (defScope s_Lattice___eq__) := ⟨rfl, rfl, rfl, by decide +kernel, rfl, by decide +kernel, by decide +kernel⟩
theorem ok_Lattice___eq__ (T : Tx K mg) : FnG P w K mg base 1 T.a_Lattice___eq__ (spD K 2 [] G_Lattice___eq__) :=
  okG_of (J := []) (Fd := F_Lattice___eq__) T.F_Lattice___eq__ T.b_Lattice___eq__ sc_Lattice___eq__ rfl (fun cdv A outer s H E hr hgu => by
    have hu1 := hu_of hr
    have hu65 := hu65_of hr
    have hu64 := hu64_of hr
    have hu0 := hu0_of hr
    have tk := takes_of (X := (cxOf (L2.CX P w) P w K mg base ["self", "other"] "Lattice.__eq__" (defScope s_Lattice___eq__) T.a_Lattice___eq__ cdv A outer s H E)) rfl rfl rfl rfl
    have hp := passes_of (X := (cxOf (L2.CX P w) P w K mg base ["self", "other"] "Lattice.__eq__" (defScope s_Lattice___eq__) T.a_Lattice___eq__ cdv A outer s H E)) rfl
    exact (dss_one (ds_ret (J1 := []) (de_and (de_isiOwn T.ic_Lattice T.mc_Lattice T.if_Lattice T.n_isinstance (de_var 1)) (de_one (de_cmp (op_eqU hu64) rv_eqU (de_fld "Lattice" T.ic_Lattice T.cl_Lattice T.na_Lattice_generators (deo (de_var 0))) (deo (de_fld "Lattice" T.ic_Lattice T.cl_Lattice T.na_Lattice_generators (deo (de_var 1)))))))))) fun _ _ _ _ h => h
theorem sc_l_compared : FnScope ["_law_one", "_law_other", "_law_due"] ["_law_one", "_law_other", "_law_due"] (defScope s_l_compared) := ⟨rfl, rfl, rfl, by decide +kernel, rfl, by decide +kernel, by decide +kernel⟩
theorem ok_l_compared (T : Tx K mg) : FnG P w K mg base 3 T.a_l_compared (spD K 3 [] G_l_compared) :=
  okG_of (J := []) (Fd := F_l_compared) T.F_l_compared T.b_l_compared sc_l_compared rfl (fun cdv A outer s H E hr hgu => by
    have hu1 := hu_of hr
    have hu65 := hu65_of hr
    have hu64 := hu64_of hr
    have hu0 := hu0_of hr
    have tk := takes_of (X := (cxOf (L2.CX P w) P w K mg base ["_law_one", "_law_other", "_law_due"] "_law_compared" (defScope s_l_compared) T.a_l_compared cdv A outer s H E)) rfl rfl rfl rfl
    have hp := passes_of (X := (cxOf (L2.CX P w) P w K mg base ["_law_one", "_law_other", "_law_due"] "_law_compared" (defScope s_l_compared) T.a_l_compared cdv A outer s H E)) rfl
    exact (dss_one (ds_ret (J1 := []) (de_cmp (op_eqU hu64) rv_eqU (de_callB (call_reprD hgu hu65) rv_repr T.n_repr (by rfl) (dao_one (deo (de_new (dn_lst (da_cons (de_eqOwn T.ic_Lattice T.ef_Lattice ((ok_Lattice___eq__ T).mono (k := 1) (by decide)) hr hgu (de_var 0) (de_var 1)) (da_cons (de_eqOwn T.ic_Lattice T.ef_Lattice ((ok_Lattice___eq__ T).mono (k := 1) (by decide)) hr hgu (de_var 1) (de_var 0)) (da_cons (de_neOwn T.ic_Lattice T.ef_Lattice ((ok_Lattice___eq__ T).mono (k := 1) (by decide)) hr hgu (de_var 0) (de_var 1)) (da_cons (de_neOwn T.ic_Lattice T.ef_Lattice ((ok_Lattice___eq__ T).mono (k := 1) (by decide)) hr hgu (de_var 1) (de_var 0)) da_nil))))))))) (deo (de_callB (call_reprD hgu hu65) rv_repr T.n_repr (by rfl) (dao_one (deo (de_new (dn_lst (da_cons (de_var 2) (da_cons (de_var 2) (da_cons (de_not (de_var 2)) (da_cons (de_not (de_var 2)) da_nil)))))))))))))) fun _ _ _ _ h => h
theorem sc_Lattice_basis : FnScope ["self"] ["self"] (defScope s_Lattice_basis) := ⟨rfl, rfl, rfl, by decide +kernel, rfl, by decide +kernel, by decide +kernel⟩
theorem ok_Lattice_basis (T : Tx K mg) : FnG P w K mg base 1 T.a_Lattice_basis (spD K 1 [] G_Lattice_basis) :=
  okG_of (J := []) (Fd := F_Lattice_basis) T.F_Lattice_basis T.b_Lattice_basis sc_Lattice_basis rfl (fun cdv A outer s H E hr hgu => by
    have hu1 := hu_of hr
    have hu65 := hu65_of hr
    have hu64 := hu64_of hr
    have hu0 := hu0_of hr
    have tk := takes_of (X := (cxOf (L2.CX P w) P w K mg base ["self"] "Lattice.basis" (defScope s_Lattice_basis) T.a_Lattice_basis cdv A outer s H E)) rfl rfl rfl rfl
    have hp := passes_of (X := (cxOf (L2.CX P w) P w K mg base ["self"] "Lattice.basis" (defScope s_Lattice_basis) T.a_Lattice_basis cdv A outer s H E)) rfl
    exact (dss_one (ds_ret (J1 := []) (de_fld "Lattice" T.ic_Lattice T.cl_Lattice T.na_Lattice_generators (deo (de_var 0)))))) fun _ _ _ _ h => h
theorem sc_is_integer : FnScope ["value"] ["value"] (defScope s_is_integer) := ⟨rfl, rfl, rfl, by decide +kernel, rfl, by decide +kernel, by decide +kernel⟩
theorem ok_is_integer (T : Tx K mg) : FnG P w K mg base 1 T.a_is_integer (spD K 1 [] G_is_integer) :=
  okG_of (J := []) (Fd := F_is_integer) T.F_is_integer T.b_is_integer sc_is_integer rfl (fun cdv A outer s H E hr hgu => by
    have hu1 := hu_of hr
    have hu65 := hu65_of hr
    have hu64 := hu64_of hr
    have hu0 := hu0_of hr
    have tk := takes_of (X := (cxOf (L2.CX P w) P w K mg base ["value"] "is_integer" (defScope s_is_integer) T.a_is_integer cdv A outer s H E)) rfl rfl rfl rfl
    have hp := passes_of (X := (cxOf (L2.CX P w) P w K mg base ["value"] "is_integer" (defScope s_is_integer) T.a_is_integer cdv A outer s H E)) rfl
    exact (dss_one (ds_ret (J1 := []) (de_and (de_callB call_isi (rv_isi .int) T.n_isinstance (by rfl) (dao (da_cons (de_var 0) (da_cons (de_bltn T.n_int (by rfl)) da_nil)))) (de_one (de_not (de_callB call_isi (rv_isi .bool) T.n_isinstance (by rfl) (dao (da_cons (de_var 0) (da_cons (de_bltn T.n_bool (by rfl)) da_nil)))))))))) fun _ _ _ _ h => h
theorem sc_is_pair : FnScope ["value"] ["value"] (defScope s_is_pair) := ⟨rfl, rfl, rfl, by decide +kernel, rfl, by decide +kernel, by decide +kernel⟩
theorem ok_is_pair (T : Tx K mg) : FnG P w K mg base 2 T.a_is_pair (spD K 1 [] G_is_pair) :=
  okG_of (J := []) (Fd := F_is_pair) T.F_is_pair T.b_is_pair sc_is_pair rfl (fun cdv A outer s H E hr hgu => by
    have hu1 := hu_of hr
    have hu65 := hu65_of hr
    have hu64 := hu64_of hr
    have hu0 := hu0_of hr
    have tk := takes_of (X := (cxOf (L2.CX P w) P w K mg base ["value"] "is_pair" (defScope s_is_pair) T.a_is_pair cdv A outer s H E)) rfl rfl rfl rfl
    have hp := passes_of (X := (cxOf (L2.CX P w) P w K mg base ["value"] "is_pair" (defScope s_is_pair) T.a_is_pair cdv A outer s H E)) rfl
    exact (dss_one (ds_ret (J1 := []) (de_and (de_callB call_isi (rv_isi .tuple) T.n_isinstance (by rfl) (dao (da_cons (de_var 0) (da_cons (de_bltn T.n_tuple (by rfl)) da_nil)))) (de_and (de_cmp (op_eqU hu64) rv_eqU (de_callB call_lenU rv_len T.n_len (by rfl) (dao_one (deo (de_var 0)))) (deo de_int)) (de_and (de_callG ((ok_is_integer T).mono (k := 1) (by decide)) hr hgu T.m_is_integer T.k_is_integer tk (do_val (de_ix (ix_U hu1) rv_ix (de_var 0) (deo de_int)) do_nil)) (de_one (de_callG ((ok_is_integer T).mono (k := 1) (by decide)) hr hgu T.m_is_integer T.k_is_integer tk (do_val (de_ix (ix_U hu1) rv_ix (de_var 0) (deo de_int)) do_nil))))))))) fun _ _ _ _ h => h
theorem sc_Lattice___contains__ : FnScope ["self", "vector", "x", "y", "a", "b", "times"] ["self", "vector"] (defScope s_Lattice___contains__) := ⟨rfl, rfl, rfl, by decide +kernel, rfl, by decide +kernel, by decide +kernel⟩
theorem ok_Lattice___contains__ (T : Tx K mg) : FnG P w K mg base 3 T.a_Lattice___contains__ (spD K 2 [] G_Lattice___contains__) :=
  okG_of (J := []) (Fd := F_Lattice___contains__) T.F_Lattice___contains__ T.b_Lattice___contains__ sc_Lattice___contains__ rfl (fun cdv A outer s H E hr hgu => by
    have hu1 := hu_of hr
    have hu65 := hu65_of hr
    have hu64 := hu64_of hr
    have hu0 := hu0_of hr
    have tk := takes_of (X := (cxOf (L2.CX P w) P w K mg base ["self", "vector", "x", "y", "a", "b", "times"] "Lattice.__contains__" (defScope s_Lattice___contains__) T.a_Lattice___contains__ cdv A outer s H E)) rfl rfl rfl rfl
    have hp := passes_of (X := (cxOf (L2.CX P w) P w K mg base ["self", "vector", "x", "y", "a", "b", "times"] "Lattice.__contains__" (defScope s_Lattice___contains__) T.a_Lattice___contains__ cdv A outer s H E)) rfl
    exact (dss_cons (ds_if (J := []) (dt_not (dt_val (de_callG ((ok_is_pair T).mono (k := 2) (by decide)) hr hgu T.m_is_pair T.k_is_pair tk (do_val (de_var 1) do_nil))))
      (dss_one (ds_ret (J1 := []) de_bl))
      dss_nil)
      (dss_cons (ds_asg (de_var 1) (dg_tup rfl (dgs_cons (dg_name 2 sc_Lattice___contains__.nd) (dgs_cons (dg_name 3 sc_Lattice___contains__.nd) dgs_nil)) (fun ds ρ k h => ((gl_cons gs_nm (gl_cons gs_nm gl_nil)) ds ρ k h).1)))
      (dss_cons (ds_for hp rfl (J := []) (di_seq (de_fld "Lattice" T.ic_Lattice T.cl_Lattice T.na_Lattice_generators (deo (de_var 0)))) (dg_tup rfl (dgs_cons (dg_name 4 sc_Lattice___contains__.nd) (dgs_cons (dg_name 5 sc_Lattice___contains__.nd) dgs_nil)) (fun ds ρ k h => ((gl_cons gs_nm (gl_cons gs_nm gl_nil)) ds ρ k h).1))
      (dss_cons (ds_set 6 sc_Lattice___contains__.nd (de_if (dt_cmp (op_neU hu64) rv_neU (de_var 4) (deo de_int)) (de_bin op_fdivG rv_fdiv (de_var 2) (deo (de_var 4))) (de_bin op_fdivG rv_fdiv (de_var 3) (deo (de_var 5)))))
      (dss_one (ds_par 2 3 rfl sc_Lattice___contains__.nd (da_cons (de_bin op_sub rv_sub (de_var 2) (deo (de_bin op_mulU rv_mul (de_var 6) (deo (de_var 4))))) (da_cons (de_bin op_sub rv_sub (de_var 3) (deo (de_bin op_mulU rv_mul (de_var 6) (deo (de_var 5))))) da_nil))))))
      (dss_one (ds_ret (J1 := []) (de_and (de_cmp (op_eqU hu64) rv_eqU (de_var 2) (deo de_int)) (de_one (de_cmp (op_eqU hu64) rv_eqU (de_var 3) (deo de_int)))))))))) fun _ _ _ _ h => h
theorem sc_Lattice_within : FnScope ["self", "other", "vector"] ["self", "other"] (defScope s_Lattice_within) := ⟨rfl, rfl, rfl, by decide +kernel, rfl, by decide +kernel, by decide +kernel⟩
theorem ok_Lattice_within (T : Tx K mg) : FnG P w K mg base 4 T.a_Lattice_within (spD K 2 [] G_Lattice_within) :=
  okG_of (J := []) (Fd := F_Lattice_within) T.F_Lattice_within T.b_Lattice_within sc_Lattice_within rfl (fun cdv A outer s H E hr hgu => by
    have hu1 := hu_of hr
    have hu65 := hu65_of hr
    have hu64 := hu64_of hr
    have hu0 := hu0_of hr
    have tk := takes_of (X := (cxOf (L2.CX P w) P w K mg base ["self", "other", "vector"] "Lattice.within" (defScope s_Lattice_within) T.a_Lattice_within cdv A outer s H E)) rfl rfl rfl rfl
    have hp := passes_of (X := (cxOf (L2.CX P w) P w K mg base ["self", "other", "vector"] "Lattice.within" (defScope s_Lattice_within) T.a_Lattice_within cdv A outer s H E)) rfl
    exact (dss_one (ds_ret (J1 := []) (de_callB (cr_all rfl) rv_all T.n_all (by rfl) (dao_one (deo (de_new (dn_of (dx_lc ["self", "other", "vector"] (defScope s_Lattice_within) [("vector", 2)] [2] rfl sc_Lattice_within.nd (di_seq (de_fld "Lattice" T.ic_Lattice T.cl_Lattice T.na_Lattice_generators (deo (de_var 0)))) (by decide +kernel) (fun _ _ _ _ _ => ⟨_, (dg_name 2 sc_Lattice_within.nd)⟩) (fun _ _ _ _ _ => ⟨_, dts_nil⟩) (fun _ _ _ _ _ => ⟨_, (de_inOwn T.ic_Lattice T.mt_Lattice___contains__ ((ok_Lattice___contains__ T).mono (k := 3) (by decide)) hr hgu (de_var 2) (de_var 1))⟩)))))))))) fun _ _ _ _ h => h
theorem sc_l_divisor : FnScope ["_law_one", "_law_other"] ["_law_one", "_law_other"] (defScope s_l_divisor) := ⟨rfl, rfl, rfl, by decide +kernel, rfl, by decide +kernel, by decide +kernel⟩
theorem ok_l_divisor (T : Tx K mg) : FnG P w K mg base 1 T.a_l_divisor (spD K 2 [] G_l_divisor) :=
  okG_of (J := []) (Fd := F_l_divisor) T.F_l_divisor T.b_l_divisor sc_l_divisor rfl (fun cdv A outer s H E hr hgu => by
    have hu1 := hu_of hr
    have hu65 := hu65_of hr
    have hu64 := hu64_of hr
    have hu0 := hu0_of hr
    have tk := takes_of (X := (cxOf (L2.CX P w) P w K mg base ["_law_one", "_law_other"] "_law_divisor" (defScope s_l_divisor) T.a_l_divisor cdv A outer s H E)) rfl rfl rfl rfl
    have hp := passes_of (X := (cxOf (L2.CX P w) P w K mg base ["_law_one", "_law_other"] "_law_divisor" (defScope s_l_divisor) T.a_l_divisor cdv A outer s H E)) rfl
    exact (dss_cons (ds_while hp (dt_cmp (op_neU hu64) rv_neU (de_var 1) (deo de_int))
      (dss_one (ds_par 0 1 rfl sc_l_divisor.nd (da_cons (de_var 1) (da_cons (de_bin op_modN rv_fmod (de_var 0) (deo (de_var 1))) da_nil)))))
      (dss_one (ds_ret (J1 := []) (de_callB call_abs rv_abs T.n_abs (by rfl) (dao_one (deo (de_var 0)))))))) fun _ _ _ _ h => h
theorem sc_l_sizes : FnScope ["_law_vectors_here", "_law_wide", "_law_thin", "_law_a", "_law_b", "_law_c", "_law_d"] ["_law_vectors_here"] (defScope s_l_sizes) := ⟨rfl, rfl, rfl, by decide +kernel, rfl, by decide +kernel, by decide +kernel⟩
theorem ok_l_sizes (T : Tx K mg) : FnG P w K mg base 2 T.a_l_sizes (spD K 1 [] G_l_sizes) :=
  okG_of (J := []) (Fd := F_l_sizes) T.F_l_sizes T.b_l_sizes sc_l_sizes rfl (fun cdv A outer s H E hr hgu => by
    have hu1 := hu_of hr
    have hu65 := hu65_of hr
    have hu64 := hu64_of hr
    have hu0 := hu0_of hr
    have tk := takes_of (X := (cxOf (L2.CX P w) P w K mg base ["_law_vectors_here", "_law_wide", "_law_thin", "_law_a", "_law_b", "_law_c", "_law_d"] "_law_sizes" (defScope s_l_sizes) T.a_l_sizes cdv A outer s H E)) rfl rfl rfl rfl
    have hp := passes_of (X := (cxOf (L2.CX P w) P w K mg base ["_law_vectors_here", "_law_wide", "_law_thin", "_law_a", "_law_b", "_law_c", "_law_d"] "_law_sizes" (defScope s_l_sizes) T.a_l_sizes cdv A outer s H E)) rfl
    exact (dss_cons (ds_set 1 sc_l_sizes.nd de_int)
      (dss_cons (ds_set 2 sc_l_sizes.nd de_int)
      (dss_cons (ds_for hp rfl (J := []) (di_seq (de_var 0)) (dg_tup rfl (dgs_cons (dg_name 3 sc_l_sizes.nd) (dgs_cons (dg_name 4 sc_l_sizes.nd) dgs_nil)) (fun ds ρ k h => ((gl_cons gs_nm (gl_cons gs_nm gl_nil)) ds ρ k h).1))
      (dss_cons (ds_set 2 sc_l_sizes.nd (de_callG ((ok_l_divisor T).mono (k := 1) (by decide)) hr hgu T.m_l_divisor T.k_l_divisor tk (do_val (de_callG ((ok_l_divisor T).mono (k := 1) (by decide)) hr hgu T.m_l_divisor T.k_l_divisor tk (do_val (de_var 2) (do_val (de_var 3) do_nil))) (do_val (de_var 4) do_nil))))
      (dss_one (ds_for hp rfl (J := []) (di_seq (de_var 0)) (dg_tup rfl (dgs_cons (dg_name 5 sc_l_sizes.nd) (dgs_cons (dg_name 6 sc_l_sizes.nd) dgs_nil)) (fun ds ρ k h => ((gl_cons gs_nm (gl_cons gs_nm gl_nil)) ds ρ k h).1))
      (dss_one (ds_set 1 sc_l_sizes.nd (de_callG ((ok_l_divisor T).mono (k := 1) (by decide)) hr hgu T.m_l_divisor T.k_l_divisor tk (do_val (de_var 1) (do_val (de_bin op_sub rv_sub (de_bin op_mulU rv_mul (de_var 3) (deo (de_var 6))) (deo (de_bin op_mulU rv_mul (de_var 4) (deo (de_var 5))))) do_nil)))))))))
      (dss_one (ds_ret (J1 := []) (de_tup (da_cons (de_var 1) (da_cons (de_var 2) da_nil))))))))) fun _ _ _ _ h => h
theorem sc_l_reached : FnScope ["_law_vectors_here", "_law_pair"] ["_law_vectors_here", "_law_pair"] (defScope s_l_reached) := ⟨rfl, rfl, rfl, by decide +kernel, rfl, by decide +kernel, by decide +kernel⟩
theorem ok_l_reached (T : Tx K mg) : FnG P w K mg base 3 T.a_l_reached (spD K 2 [] G_l_reached) :=
  okG_of (J := []) (Fd := F_l_reached) T.F_l_reached T.b_l_reached sc_l_reached rfl (fun cdv A outer s H E hr hgu => by
    have hu1 := hu_of hr
    have hu65 := hu65_of hr
    have hu64 := hu64_of hr
    have hu0 := hu0_of hr
    have tk := takes_of (X := (cxOf (L2.CX P w) P w K mg base ["_law_vectors_here", "_law_pair"] "_law_reached" (defScope s_l_reached) T.a_l_reached cdv A outer s H E)) rfl rfl rfl rfl
    have hp := passes_of (X := (cxOf (L2.CX P w) P w K mg base ["_law_vectors_here", "_law_pair"] "_law_reached" (defScope s_l_reached) T.a_l_reached cdv A outer s H E)) rfl
    exact (dss_cons (ds_if (J := []) (dt_cmp (op_gtU hu0) rv_gtU (de_ix (ix_U hu1) rv_ix (de_callG ((ok_l_sizes T).mono (k := 2) (by decide)) hr hgu T.m_l_sizes T.k_l_sizes tk (do_val (de_var 0) do_nil)) (deo de_int)) (deo de_int))
      (dss_one (ds_ret (J1 := []) (de_cmp (op_eqU hu64) rv_eqU (de_ix (ix_U hu1) rv_ix (de_callG ((ok_l_sizes T).mono (k := 2) (by decide)) hr hgu T.m_l_sizes T.k_l_sizes tk (do_val (de_bin op_addU rv_add (de_var 0) (deo (de_new (dn_lst (da_cons (de_var 1) da_nil))))) do_nil)) (deo de_int)) (deo (de_ix (ix_U hu1) rv_ix (de_callG ((ok_l_sizes T).mono (k := 2) (by decide)) hr hgu T.m_l_sizes T.k_l_sizes tk (do_val (de_var 0) do_nil)) (deo de_int))))))
      dss_nil)
      (dss_one (ds_ret (J1 := []) (de_cmp (op_eqU hu64) rv_eqU (de_callG ((ok_l_sizes T).mono (k := 2) (by decide)) hr hgu T.m_l_sizes T.k_l_sizes tk (do_val (de_bin op_addU rv_add (de_var 0) (deo (de_new (dn_lst (da_cons (de_var 1) da_nil))))) do_nil)) (deo (de_callG ((ok_l_sizes T).mono (k := 2) (by decide)) hr hgu T.m_l_sizes T.k_l_sizes tk (do_val (de_var 0) do_nil)))))))) fun _ _ _ _ h => h
theorem sc_l_within : FnScope ["_law_vectors_here", "_law_others", "_law_one"] ["_law_vectors_here", "_law_others"] (defScope s_l_within) := ⟨rfl, rfl, rfl, by decide +kernel, rfl, by decide +kernel, by decide +kernel⟩
theorem ok_l_within (T : Tx K mg) : FnG P w K mg base 4 T.a_l_within (spD K 2 [] G_l_within) :=
  okG_of (J := []) (Fd := F_l_within) T.F_l_within T.b_l_within sc_l_within rfl (fun cdv A outer s H E hr hgu => by
    have hu1 := hu_of hr
    have hu65 := hu65_of hr
    have hu64 := hu64_of hr
    have hu0 := hu0_of hr
    have tk := takes_of (X := (cxOf (L2.CX P w) P w K mg base ["_law_vectors_here", "_law_others", "_law_one"] "_law_within" (defScope s_l_within) T.a_l_within cdv A outer s H E)) rfl rfl rfl rfl
    have hp := passes_of (X := (cxOf (L2.CX P w) P w K mg base ["_law_vectors_here", "_law_others", "_law_one"] "_law_within" (defScope s_l_within) T.a_l_within cdv A outer s H E)) rfl
    exact (dss_one (ds_ret (J1 := []) (de_cmp (op_eqU hu64) rv_eqU (de_new (dn_of (dx_lc ["_law_vectors_here", "_law_others", "_law_one"] (defScope s_l_within) [("_law_one", 2)] [2] rfl sc_l_within.nd (di_seq (de_var 0)) (by decide +kernel) (fun _ _ _ _ _ => ⟨_, (dg_name 2 sc_l_within.nd)⟩) (fun _ _ _ _ _ => ⟨_, (dts_one (dt_not (dt_val (de_callG ((ok_l_reached T).mono (k := 3) (by decide)) hr hgu T.m_l_reached T.k_l_reached takes0 (do_val (de_var 1) (do_val (de_var 2) do_nil))))))⟩) (fun _ _ _ _ _ => ⟨_, (de_var 2)⟩)))) (deo (de_new (dn_lst da_nil))))))) fun _ _ _ _ h => h
theorem sc_law : FnScope ["_law_script", "_law_pen_here", "_law_turn", "_law_vectors_here", "_law_made", "_law_same", "_law_some", "_law_others", "_law_there", "_law_forth", "_law_back", "_law_odd", "_law_a", "_law_b"] ["_law_script"] (defScope s_law) := ⟨rfl, rfl, rfl, by decide +kernel, rfl, by decide +kernel, by decide +kernel⟩
theorem ok_law {f : Addr} {fd : FuncData} (T : Tx K mg) (F : Fun K "law" "law" s_law f fd) (B : Binds K fd ["_law_script"] []) : FnG P w K mg base 6 f (spD K 1 [] G_law) :=
  okG_of (J := [1]) (Fd := F_law) F B sc_law rfl (fun cdv A outer s H E hr hgu => by
    have hu1 := hu_of hr
    have hu65 := hu65_of hr
    have hu64 := hu64_of hr
    have hu0 := hu0_of hr
    have tk := takes_of (X := (cxOf (L2.CX P w) P w K mg base ["_law_script", "_law_pen_here", "_law_turn", "_law_vectors_here", "_law_made", "_law_same", "_law_some", "_law_others", "_law_there", "_law_forth", "_law_back", "_law_odd", "_law_a", "_law_b"] "law" (defScope s_law) f cdv A outer s H E)) rfl rfl rfl rfl
    have hp := passes_of (X := (cxOf (L2.CX P w) P w K mg base ["_law_script", "_law_pen_here", "_law_turn", "_law_vectors_here", "_law_made", "_law_same", "_law_some", "_law_others", "_law_there", "_law_forth", "_law_back", "_law_odd", "_law_a", "_law_b"] "law" (defScope s_law) f cdv A outer s H E)) rfl
    exact (dss_cons (ds_setN 1 sc_law.nd (dn_callG ((ok_l_pen T).mono (k := 5) (by decide)) hr hgu T.m_l_pen T.k_l_pen tk (do_val (de_var 0) do_nil)))
      (dss_cons (ds_for hp rfl (J := [1]) (di_range1 T.n_range (da_cons de_int da_nil)) (dg_name 2 sc_law.nd)
      (dss_cons (ds_set 3 sc_law.nd (de_callG ((ok_l_vectors T).mono (k := 5) (by decide)) hr hgu T.m_l_vectors T.k_l_vectors tk (do_own 1 do_nil)))
      (dss_cons (ds_set 4 sc_law.nd (de_callG ((ok_l_lattice T).mono (k := 5) (by decide)) hr hgu T.m_l_lattice T.k_l_lattice tk (do_val (de_var 3) do_nil)))
      (dss_cons (ds_set 5 sc_law.nd (de_callG ((ok_l_lattice T).mono (k := 5) (by decide)) hr hgu T.m_l_lattice T.k_l_lattice tk (do_val (de_callG ((ok_l_turned T).mono (k := 5) (by decide)) hr hgu T.m_l_turned T.k_l_turned tk (do_own 1 (do_val (de_var 3) do_nil))) do_nil)))
      (dss_cons (ds_if (J := [1]) (dt_w (dw_or (dt_not (dt_val (de_callG ((ok_l_compared T).mono (k := 5) (by decide)) hr hgu T.m_l_compared T.k_l_compared tk (do_val (de_var 4) (do_val (de_var 5) (do_val de_bl do_nil)))))) (dw_or (dt_cmp (op_neU hu64) rv_neU (de_propG T.ic_Lattice T.cl_Lattice T.pr_Lattice_basis ((ok_Lattice_basis T).mono (k := 4) (by decide)) hr hgu (de_var 4)) (deo (de_propG T.ic_Lattice T.cl_Lattice T.pr_Lattice_basis ((ok_Lattice_basis T).mono (k := 4) (by decide)) hr hgu (de_var 5)))) (dw_or1 (dt_cmp op_isNotU rv_isNot (de_methG T.ic_Lattice T.cl_Lattice T.mt_Lattice_within ((ok_Lattice_within T).mono (k := 5) (by decide)) hr hgu tk (de_var 4) (do_val (de_var 5) do_nil)) (deo de_bl))))))
      (dss_one (ds_ret (J1 := [1]) de_bl))
      dss_nil)
      (dss_cons (ds_if (J := [1]) (dt_not (dt_val (de_callG ((ok_l_compared T).mono (k := 5) (by decide)) hr hgu T.m_l_compared T.k_l_compared tk (do_val (de_var 4) (do_val (de_callG ((ok_l_lattice T).mono (k := 5) (by decide)) hr hgu T.m_l_lattice T.k_l_lattice tk (do_val (de_callTy call_list_of rv_list T.n_list (by rfl) (dao_one (deo (de_propG T.ic_Lattice T.cl_Lattice T.pr_Lattice_basis ((ok_Lattice_basis T).mono (k := 4) (by decide)) hr hgu (de_var 4))))) do_nil)) (do_val de_bl do_nil))))))
      (dss_one (ds_ret (J1 := [1]) de_bl))
      dss_nil)
      (dss_cons (ds_set 6 sc_law.nd (de_new (dn_lst (da_cons (de_callG ((ok_l_vectors T).mono (k := 5) (by decide)) hr hgu T.m_l_vectors T.k_l_vectors tk (do_own 1 do_nil)) (da_cons (de_cut (de_var 3) (do_some de_int) do_none) (da_cons (de_new (dn_of (dx_lc ["_law_script", "_law_pen_here", "_law_turn", "_law_vectors_here", "_law_made", "_law_same", "_law_some", "_law_others", "_law_there", "_law_forth", "_law_back", "_law_odd", "_law_a", "_law_b"] (defScope s_law) [("_law_a", 12), ("_law_b", 13)] [12, 13] rfl sc_law.nd (di_seq (de_var 3)) (by decide +kernel) (fun _ _ _ _ _ => ⟨_, (dg_tup rfl (dgs_cons (dg_name 12 sc_law.nd) (dgs_cons (dg_name 13 sc_law.nd) dgs_nil)) (fun ds ρ k h => ((gl_cons gs_nm (gl_cons gs_nm gl_nil)) ds ρ k h).1))⟩) (fun _ _ _ _ _ => ⟨_, dts_nil⟩) (fun _ _ _ _ _ => ⟨_, (de_tup (da_cons (de_bin op_mulU rv_mul de_int (deo (de_var 12))) (da_cons (de_bin op_mulU rv_mul de_int (deo (de_var 13))) da_nil)))⟩)))) (da_cons (de_new (dn_lst da_nil)) da_nil)))))))
      (dss_cons (ds_for hp rfl (J := [1]) (di_seq (de_var 6)) (dg_name 7 sc_law.nd)
      (dss_cons (ds_set 8 sc_law.nd (de_callG ((ok_l_lattice T).mono (k := 5) (by decide)) hr hgu T.m_l_lattice T.k_l_lattice tk (do_val (de_var 7) do_nil)))
      (dss_cons (ds_par 9 10 rfl sc_law.nd (da_cons (de_callG ((ok_l_within T).mono (k := 5) (by decide)) hr hgu T.m_l_within T.k_l_within tk (do_val (de_var 3) (do_val (de_var 7) do_nil))) (da_cons (de_callG ((ok_l_within T).mono (k := 5) (by decide)) hr hgu T.m_l_within T.k_l_within tk (do_val (de_var 7) (do_val (de_var 3) do_nil))) da_nil)))
      (dss_cons (ds_if (J := [1]) (dt_cmp (op_neU hu64) rv_neU (de_callB (call_reprD hgu hu65) rv_repr T.n_repr (by rfl) (dao_one (deo (de_new (dn_lst (da_cons (de_methG T.ic_Lattice T.cl_Lattice T.mt_Lattice_within ((ok_Lattice_within T).mono (k := 5) (by decide)) hr hgu tk (de_var 4) (do_val (de_var 8) do_nil)) (da_cons (de_methG T.ic_Lattice T.cl_Lattice T.mt_Lattice_within ((ok_Lattice_within T).mono (k := 5) (by decide)) hr hgu tk (de_var 8) (do_val (de_var 4) do_nil)) da_nil))))))) (deo (de_callB (call_reprD hgu hu65) rv_repr T.n_repr (by rfl) (dao_one (deo (de_new (dn_lst (da_cons (de_var 9) (da_cons (de_var 10) da_nil)))))))))
      (dss_one (ds_ret (J1 := [1]) de_bl))
      dss_nil)
      (dss_one (ds_if (J := [1]) (dt_not (dt_val (de_callG ((ok_l_compared T).mono (k := 5) (by decide)) hr hgu T.m_l_compared T.k_l_compared tk (do_val (de_var 4) (do_val (de_var 8) (do_val (de_and (de_var 9) (de_one (de_var 10))) do_nil))))))
      (dss_one (ds_ret (J1 := [1]) de_bl))
      dss_nil))))))
      (dss_one (ds_for hp rfl (J := [1]) (di_seq (de_new (dn_lst (da_cons de_non (da_cons (de_propG T.ic_Lattice T.cl_Lattice T.pr_Lattice_basis ((ok_Lattice_basis T).mono (k := 4) (by decide)) hr hgu (de_var 4)) (da_cons (de_tup da_nil) (da_cons de_int da_nil))))))) (dg_name 11 sc_law.nd)
      (dss_one (ds_if (J := [1]) (dt_not (dt_val (de_callG ((ok_l_compared T).mono (k := 5) (by decide)) hr hgu T.m_l_compared T.k_l_compared tk (do_val (de_var 4) (do_val (de_var 11) (do_val de_bl do_nil))))))
      (dss_one (ds_ret (J1 := [1]) de_bl))
      dss_nil))))))))))))
      (dss_one (ds_ret (J1 := [1]) de_bl))))) fun _ _ _ _ h => h
end
theorem all_mk {l : PySem.W.OpenLaw} {w : World} {K : PySem.W.Frag} {h : Heap} {mg : Str → Option Value} {fa : Addr} (X : K.In h) (G : h.Ns mainGlobals mg) (hfa : mg "law" = some (.ref fa))
    {C0 : Addr}
    {f0 : Addr} {od0 an0 : Option Addr} {sl0 : Array (Option Value)} {oc0 kV0 dc0 pm0 cd0 ct0 : Value}
    {f1 : Addr} {od1 an1 : Option Addr} {sl1 : Array (Option Value)} {oc1 kV1 dc1 pm1 cd1 ct1 : Value}
    {f2 : Addr} {od2 an2 : Option Addr} {sl2 : Array (Option Value)} {oc2 kV2 dc2 pm2 cd2 ct2 : Value}
    {f3 : Addr} {od3 an3 : Option Addr} {sl3 : Array (Option Value)} {oc3 kV3 dc3 pm3 cd3 ct3 : Value}
    {f4 : Addr} {od4 an4 : Option Addr} {sl4 : Array (Option Value)} {oc4 kV4 dc4 pm4 cd4 ct4 : Value}
    {f5 : Addr} {od5 an5 : Option Addr} {sl5 : Array (Option Value)} {oc5 kV5 dc5 pm5 cd5 ct5 : Value}
    {f6 : Addr} {od6 an6 : Option Addr} {sl6 : Array (Option Value)} {oc6 kV6 dc6 pm6 cd6 ct6 : Value}
    {f7 : Addr} {od7 an7 : Option Addr} {sl7 : Array (Option Value)} {oc7 kV7 dc7 pm7 cd7 ct7 : Value}
    {f8 : Addr} {od8 an8 : Option Addr} {sl8 : Array (Option Value)} {oc8 kV8 dc8 pm8 cd8 ct8 : Value}
    {f9 : Addr} {od9 an9 : Option Addr} {sl9 : Array (Option Value)} {oc9 kV9 dc9 pm9 cd9 ct9 : Value}
    {f10 : Addr} {od10 an10 : Option Addr} {sl10 : Array (Option Value)} {oc10 kV10 dc10 pm10 cd10 ct10 : Value}
    {f11 : Addr} {od11 an11 : Option Addr} {sl11 : Array (Option Value)} {oc11 kV11 dc11 pm11 cd11 ct11 : Value}
    {f12 : Addr} {od12 an12 : Option Addr} {sl12 : Array (Option Value)} {oc12 kV12 dc12 pm12 cd12 ct12 : Value}
    {q12 : Addr} {rr12 : List Value}
    {f13 : Addr} {od13 an13 : Option Addr} {sl13 : Array (Option Value)} {oc13 kV13 dc13 pm13 cd13 ct13 : Value}
    {f14 : Addr} {od14 an14 : Option Addr} {sl14 : Array (Option Value)} {oc14 kV14 dc14 pm14 cd14 ct14 : Value}
    {f15 : Addr} {od15 an15 : Option Addr} {sl15 : Array (Option Value)} {oc15 kV15 dc15 pm15 cd15 ct15 : Value}
    {f16 : Addr} {od16 an16 : Option Addr} {sl16 : Array (Option Value)} {oc16 kV16 dc16 pm16 cd16 ct16 : Value}
    {f17 : Addr} {od17 an17 : Option Addr} {sl17 : Array (Option Value)} {oc17 kV17 dc17 pm17 cd17 ct17 : Value}
    {f18 : Addr} {od18 an18 : Option Addr} {sl18 : Array (Option Value)} {oc18 kV18 dc18 pm18 cd18 ct18 : Value}
    {f19 : Addr} {od19 an19 : Option Addr} {sl19 : Array (Option Value)} {oc19 kV19 dc19 pm19 cd19 ct19 : Value}
    {f20 : Addr} {od20 an20 : Option Addr} {sl20 : Array (Option Value)} {oc20 kV20 dc20 pm20 cd20 ct20 : Value}
    {f21 : Addr} {od21 an21 : Option Addr} {sl21 : Array (Option Value)} {oc21 kV21 dc21 pm21 cd21 ct21 : Value}
    (aC0 : PySem.W.nsIn K mainGlobals "Lattice" = some (some (.ref C0)))
    (pg0 : PySem.W.plainGet K C0 Str.empty = true)
    (hd0 : PySem.W.hasDictIn K C0 = true)
    (po0 : PySem.W.plainOver K C0 = true)
    (sa0 : PySem.W.findIn K (.ref C0) "__setattr__" = some (some (.builtin "object.__setattr__")))
    (mk0 : PySem.W.makesIn K C0 = true)
    (kc0 : PySem.W.keepIn K (.ref C0) = true)
    (mo0 : PySem.W.mroIn K C0 (.type "object") = some true)
    (ne0 : PySem.W.findIn K (.ref C0) "__ne__" = some (some (.builtin "object.__ne__")))
    (mN0 : PySem.W.mroIn K C0 (.type "NoneType") = some false)
    (mI0 : PySem.W.mroIn K C0 (.type "int") = some false)
    (mT0 : PySem.W.mroIn K C0 (.type "tuple") = some false)
    (qa0 : PySem.W.findIn K (.ref C0) "__class__" = some (some (.builtin "object.__class__")))
    (qn0 : PySem.W.specialIn K (.builtin "object.__class__") "__get__" = some (some (.builtin "getset_descriptor.__get__")))
    (qt0 : PySem.W.takesIn K (.builtin "object.__class__") = some true)
    (kN0 : PySem.W.kitOne K (.type "NoneType") (.ref C0) = some false)
    (kI0 : PySem.W.kitOne K (.type "int") (.ref C0) = some false)
    (kT0 : PySem.W.kitOne K (.type "tuple") (.ref C0) = some false)
    (na0_generators : PySem.W.findIn K (.ref C0) "generators" = some none)
    (a0 : PySem.W.nsIn K mainGlobals "_law_pen" = some (some (.ref f0)))
    (l0 : K.lookup f0 = some ⟨oc0, od0, .func (PySem.W.fnOf "_law_pen" "_law_pen" (defArgs s_l_pen) (defBody s_l_pen) (defScope s_l_pen) .none kV0 dc0 pm0 an0 cd0 ct0), sl0⟩)
    (c0 : PySem.W.codeIn K cd0 "_law_pen" = true)
    (k0 : PySem.W.keepIn K (.ref f0) = true)
    (a1 : PySem.W.nsIn K mainGlobals "_law_draw" = some (some (.ref f1)))
    (l1 : K.lookup f1 = some ⟨oc1, od1, .func (PySem.W.fnOf "_law_draw" "_law_draw" (defArgs s_l_draw) (defBody s_l_draw) (defScope s_l_draw) .none kV1 dc1 pm1 an1 cd1 ct1), sl1⟩)
    (c1 : PySem.W.codeIn K cd1 "_law_draw" = true)
    (k1 : PySem.W.keepIn K (.ref f1) = true)
    (a2 : PySem.W.nsIn K mainGlobals "_law_vector" = some (some (.ref f2)))
    (l2 : K.lookup f2 = some ⟨oc2, od2, .func (PySem.W.fnOf "_law_vector" "_law_vector" (defArgs s_l_vector) (defBody s_l_vector) (defScope s_l_vector) .none kV2 dc2 pm2 an2 cd2 ct2), sl2⟩)
    (c2 : PySem.W.codeIn K cd2 "_law_vector" = true)
    (k2 : PySem.W.keepIn K (.ref f2) = true)
    (a3 : PySem.W.nsIn K mainGlobals "_law_vectors" = some (some (.ref f3)))
    (l3 : K.lookup f3 = some ⟨oc3, od3, .func (PySem.W.fnOf "_law_vectors" "_law_vectors" (defArgs s_l_vectors) (defBody s_l_vectors) (defScope s_l_vectors) .none kV3 dc3 pm3 an3 cd3 ct3), sl3⟩)
    (c3 : PySem.W.codeIn K cd3 "_law_vectors" = true)
    (k3 : PySem.W.keepIn K (.ref f3) = true)
    (a4 : PySem.W.nsIn K mainGlobals "turned_down" = some (some (.ref f4)))
    (l4 : K.lookup f4 = some ⟨oc4, od4, .func (PySem.W.fnOf "turned_down" "turned_down" (defArgs s_turned_down) (defBody s_turned_down) (defScope s_turned_down) .none kV4 dc4 pm4 an4 cd4 ct4), sl4⟩)
    (c4 : PySem.W.codeIn K cd4 "turned_down" = true)
    (k4 : PySem.W.keepIn K (.ref f4) = true)
    (a5 : PySem.W.nsIn K mainGlobals "greatest_divisor" = some (some (.ref f5)))
    (l5 : K.lookup f5 = some ⟨oc5, od5, .func (PySem.W.fnOf "greatest_divisor" "greatest_divisor" (defArgs s_greatest_divisor) (defBody s_greatest_divisor) (defScope s_greatest_divisor) .none kV5 dc5 pm5 an5 cd5 ct5), sl5⟩)
    (c5 : PySem.W.codeIn K cd5 "greatest_divisor" = true)
    (k5 : PySem.W.keepIn K (.ref f5) = true)
    (a6 : PySem.W.nsIn K mainGlobals "basis_of" = some (some (.ref f6)))
    (l6 : K.lookup f6 = some ⟨oc6, od6, .func (PySem.W.fnOf "basis_of" "basis_of" (defArgs s_basis_of) (defBody s_basis_of) (defScope s_basis_of) .none kV6 dc6 pm6 an6 cd6 ct6), sl6⟩)
    (c6 : PySem.W.codeIn K cd6 "basis_of" = true)
    (k6 : PySem.W.keepIn K (.ref f6) = true)
    (a7 : PySem.W.findIn K (.ref C0) "__init__" = some (some (.ref f7)))
    (i7 : PySem.W.isFn K (.ref f7) = true)
    (l7 : K.lookup f7 = some ⟨oc7, od7, .func (PySem.W.fnOf "__init__" "Lattice.__init__" (defArgs s_Lattice___init__) (defBody s_Lattice___init__) (defScope s_Lattice___init__) .none kV7 dc7 pm7 an7 cd7 ct7), sl7⟩)
    (c7 : PySem.W.codeIn K cd7 "Lattice.__init__" = true)
    (k7 : PySem.W.keepIn K (.ref f7) = true)
    (a8 : PySem.W.nsIn K mainGlobals "_law_lattice" = some (some (.ref f8)))
    (l8 : K.lookup f8 = some ⟨oc8, od8, .func (PySem.W.fnOf "_law_lattice" "_law_lattice" (defArgs s_l_lattice) (defBody s_l_lattice) (defScope s_l_lattice) .none kV8 dc8 pm8 an8 cd8 ct8), sl8⟩)
    (c8 : PySem.W.codeIn K cd8 "_law_lattice" = true)
    (k8 : PySem.W.keepIn K (.ref f8) = true)
    (a9 : PySem.W.nsIn K mainGlobals "_law_turned" = some (some (.ref f9)))
    (l9 : K.lookup f9 = some ⟨oc9, od9, .func (PySem.W.fnOf "_law_turned" "_law_turned" (defArgs s_l_turned) (defBody s_l_turned) (defScope s_l_turned) .none kV9 dc9 pm9 an9 cd9 ct9), sl9⟩)
    (c9 : PySem.W.codeIn K cd9 "_law_turned" = true)
    (k9 : PySem.W.keepIn K (.ref f9) = true)
    (a10 : PySem.W.findIn K (.ref C0) "__eq__" = some (some (.ref f10)))
    (i10 : PySem.W.isFn K (.ref f10) = true)
    (l10 : K.lookup f10 = some ⟨oc10, od10, .func (PySem.W.fnOf "__eq__" "Lattice.__eq__" (defArgs s_Lattice___eq__) (defBody s_Lattice___eq__) (defScope s_Lattice___eq__) .none kV10 dc10 pm10 an10 cd10 ct10), sl10⟩)
    (c10 : PySem.W.codeIn K cd10 "Lattice.__eq__" = true)
    (k10 : PySem.W.keepIn K (.ref f10) = true)
    (a11 : PySem.W.nsIn K mainGlobals "_law_compared" = some (some (.ref f11)))
    (l11 : K.lookup f11 = some ⟨oc11, od11, .func (PySem.W.fnOf "_law_compared" "_law_compared" (defArgs s_l_compared) (defBody s_l_compared) (defScope s_l_compared) .none kV11 dc11 pm11 an11 cd11 ct11), sl11⟩)
    (c11 : PySem.W.codeIn K cd11 "_law_compared" = true)
    (k11 : PySem.W.keepIn K (.ref f11) = true)
    (a12 : PySem.W.findIn K (.ref C0) "basis" = some (some (.ref q12)))
    (g12 : PySem.W.specialIn K (.ref q12) "__get__" = some (some (.builtin "property.__get__")))
    (t12 : PySem.W.takesIn K (.ref q12) = some true)
    (r12 : PySem.W.recIn K q12 "property" = some (.ref f12 :: rr12))
    (l12 : K.lookup f12 = some ⟨oc12, od12, .func (PySem.W.fnOf "basis" "Lattice.basis" (defArgs s_Lattice_basis) (defBody s_Lattice_basis) (defScope s_Lattice_basis) .none kV12 dc12 pm12 an12 cd12 ct12), sl12⟩)
    (c12 : PySem.W.codeIn K cd12 "Lattice.basis" = true)
    (k12 : PySem.W.keepIn K (.ref f12) = true)
    (a13 : PySem.W.nsIn K mainGlobals "is_integer" = some (some (.ref f13)))
    (l13 : K.lookup f13 = some ⟨oc13, od13, .func (PySem.W.fnOf "is_integer" "is_integer" (defArgs s_is_integer) (defBody s_is_integer) (defScope s_is_integer) .none kV13 dc13 pm13 an13 cd13 ct13), sl13⟩)
    (c13 : PySem.W.codeIn K cd13 "is_integer" = true)
    (k13 : PySem.W.keepIn K (.ref f13) = true)
    (a14 : PySem.W.nsIn K mainGlobals "is_pair" = some (some (.ref f14)))
    (l14 : K.lookup f14 = some ⟨oc14, od14, .func (PySem.W.fnOf "is_pair" "is_pair" (defArgs s_is_pair) (defBody s_is_pair) (defScope s_is_pair) .none kV14 dc14 pm14 an14 cd14 ct14), sl14⟩)
    (c14 : PySem.W.codeIn K cd14 "is_pair" = true)
    (k14 : PySem.W.keepIn K (.ref f14) = true)
    (a15 : PySem.W.findIn K (.ref C0) "__contains__" = some (some (.ref f15)))
    (i15 : PySem.W.isFn K (.ref f15) = true)
    (l15 : K.lookup f15 = some ⟨oc15, od15, .func (PySem.W.fnOf "__contains__" "Lattice.__contains__" (defArgs s_Lattice___contains__) (defBody s_Lattice___contains__) (defScope s_Lattice___contains__) .none kV15 dc15 pm15 an15 cd15 ct15), sl15⟩)
    (c15 : PySem.W.codeIn K cd15 "Lattice.__contains__" = true)
    (k15 : PySem.W.keepIn K (.ref f15) = true)
    (a16 : PySem.W.findIn K (.ref C0) "within" = some (some (.ref f16)))
    (i16 : PySem.W.isFn K (.ref f16) = true)
    (l16 : K.lookup f16 = some ⟨oc16, od16, .func (PySem.W.fnOf "within" "Lattice.within" (defArgs s_Lattice_within) (defBody s_Lattice_within) (defScope s_Lattice_within) .none kV16 dc16 pm16 an16 cd16 ct16), sl16⟩)
    (c16 : PySem.W.codeIn K cd16 "Lattice.within" = true)
    (k16 : PySem.W.keepIn K (.ref f16) = true)
    (a17 : PySem.W.nsIn K mainGlobals "_law_divisor" = some (some (.ref f17)))
    (l17 : K.lookup f17 = some ⟨oc17, od17, .func (PySem.W.fnOf "_law_divisor" "_law_divisor" (defArgs s_l_divisor) (defBody s_l_divisor) (defScope s_l_divisor) .none kV17 dc17 pm17 an17 cd17 ct17), sl17⟩)
    (c17 : PySem.W.codeIn K cd17 "_law_divisor" = true)
    (k17 : PySem.W.keepIn K (.ref f17) = true)
    (a18 : PySem.W.nsIn K mainGlobals "_law_sizes" = some (some (.ref f18)))
    (l18 : K.lookup f18 = some ⟨oc18, od18, .func (PySem.W.fnOf "_law_sizes" "_law_sizes" (defArgs s_l_sizes) (defBody s_l_sizes) (defScope s_l_sizes) .none kV18 dc18 pm18 an18 cd18 ct18), sl18⟩)
    (c18 : PySem.W.codeIn K cd18 "_law_sizes" = true)
    (k18 : PySem.W.keepIn K (.ref f18) = true)
    (a19 : PySem.W.nsIn K mainGlobals "_law_reached" = some (some (.ref f19)))
    (l19 : K.lookup f19 = some ⟨oc19, od19, .func (PySem.W.fnOf "_law_reached" "_law_reached" (defArgs s_l_reached) (defBody s_l_reached) (defScope s_l_reached) .none kV19 dc19 pm19 an19 cd19 ct19), sl19⟩)
    (c19 : PySem.W.codeIn K cd19 "_law_reached" = true)
    (k19 : PySem.W.keepIn K (.ref f19) = true)
    (a20 : PySem.W.nsIn K mainGlobals "_law_within" = some (some (.ref f20)))
    (l20 : K.lookup f20 = some ⟨oc20, od20, .func (PySem.W.fnOf "_law_within" "_law_within" (defArgs s_l_within) (defBody s_l_within) (defScope s_l_within) .none kV20 dc20 pm20 an20 cd20 ct20), sl20⟩)
    (c20 : PySem.W.codeIn K cd20 "_law_within" = true)
    (k20 : PySem.W.keepIn K (.ref f20) = true)
    (a21 : PySem.W.nsIn K mainGlobals "law" = some (some (.ref f21)))
    (l21 : K.lookup f21 = some ⟨oc21, od21, .func (PySem.W.fnOf "law" "law" (defArgs s_law) (defBody s_law) (defScope s_law) .none kV21 dc21 pm21 an21 cd21 ct21), sl21⟩)
    (c21 : PySem.W.codeIn K cd21 "law" = true)
    (k21 : PySem.W.keepIn K (.ref f21) = true)
    (z_abs : PySem.W.nsIn K mainGlobals "abs" = some none)
    (z_all : PySem.W.nsIn K mainGlobals "all" = some none)
    (z_bool : PySem.W.nsIn K mainGlobals "bool" = some none)
    (z_int : PySem.W.nsIn K mainGlobals "int" = some none)
    (z_isinstance : PySem.W.nsIn K mainGlobals "isinstance" = some none)
    (z_len : PySem.W.nsIn K mainGlobals "len" = some none)
    (z_list : PySem.W.nsIn K mainGlobals "list" = some none)
    (z_range : PySem.W.nsIn K mainGlobals "range" = some none)
    (z_repr : PySem.W.nsIn K mainGlobals "repr" = some none)
    (z_tuple : PySem.W.nsIn K mainGlobals "tuple" = some none)
    (hlaw : ∀ ns : List Int, ns.length ≤ 63 → G_law [some (.slst (ns.map D.int))] (fun d _ => d = .bl true) fun _ _ => False) :
    ∀ base : Heap, K.In base → base.Ns mainGlobals mg → FnG l.prog w K mg base 6 fa (spLaw K) := by
  have e := hfa.symm.trans (PySem.W.mg_of X G a21)
  cases e
  have F0 := fun_mk (st := s_l_pen) l0 c0 k0
  have b0 := F0.binds (ps := ["_law_script"]) fun _ _ _ _ _ _ us hl => match us, hl with | [_], _ => rfl
  have F1 := fun_mk (st := s_l_draw) l1 c1 k1
  have b1 := F1.binds (ps := ["_law_pen_here", "_law_size"]) fun _ _ _ _ _ _ us hl => match us, hl with | [_, _], _ => rfl
  have F2 := fun_mk (st := s_l_vector) l2 c2 k2
  have b2 := F2.binds (ps := ["_law_pen_here"]) fun _ _ _ _ _ _ us hl => match us, hl with | [_], _ => rfl
  have F3 := fun_mk (st := s_l_vectors) l3 c3 k3
  have b3 := F3.binds (ps := ["_law_pen_here"]) fun _ _ _ _ _ _ us hl => match us, hl with | [_], _ => rfl
  have F4 := fun_mk (st := s_turned_down) l4 c4 k4
  have b4 := F4.binds (ps := ["top", "vector"]) fun _ _ _ _ _ _ us hl => match us, hl with | [_, _], _ => rfl
  have F5 := fun_mk (st := s_greatest_divisor) l5 c5 k5
  have b5 := F5.binds (ps := ["first", "second"]) fun _ _ _ _ _ _ us hl => match us, hl with | [_, _], _ => rfl
  have F6 := fun_mk (st := s_basis_of) l6 c6 k6
  have b6 := F6.binds (ps := ["vectors"]) fun _ _ _ _ _ _ us hl => match us, hl with | [_], _ => rfl
  have F7 := fun_mk (st := s_Lattice___init__) l7 c7 k7
  have b7 : ∀ us rest : List Value, us.length = (["self"] : List Str).length → bindArgs (PySem.W.fnOf "__init__" "Lattice.__init__" (defArgs s_Lattice___init__) (defBody s_Lattice___init__) (defScope s_Lattice___init__) .none kV7 dc7 pm7 an7 cd7 ct7) ⟨us ++ rest, []⟩ = (newTuple rest >>= fun t => pure (List.zip (["self"] : List Str) us ++ [(("vectors" : Str), t)])) := fun us rest hl => match us, rest, hl with | [_], [], _ => rfl | [_], _ :: _, _ => rfl
  have F8 := fun_mk (st := s_l_lattice) l8 c8 k8
  have b8 := F8.binds (ps := ["_law_vectors_here"]) fun _ _ _ _ _ _ us hl => match us, hl with | [_], _ => rfl
  have F9 := fun_mk (st := s_l_turned) l9 c9 k9
  have b9 := F9.binds (ps := ["_law_pen_here", "_law_vectors_here"]) fun _ _ _ _ _ _ us hl => match us, hl with | [_, _], _ => rfl
  have F10 := fun_mk (st := s_Lattice___eq__) l10 c10 k10
  have b10 := F10.binds (ps := ["self", "other"]) fun _ _ _ _ _ _ us hl => match us, hl with | [_, _], _ => rfl
  have F11 := fun_mk (st := s_l_compared) l11 c11 k11
  have b11 := F11.binds (ps := ["_law_one", "_law_other", "_law_due"]) fun _ _ _ _ _ _ us hl => match us, hl with | [_, _, _], _ => rfl
  have F12 := fun_mk (st := s_Lattice_basis) l12 c12 k12
  have b12 := F12.binds (ps := ["self"]) fun _ _ _ _ _ _ us hl => match us, hl with | [_], _ => rfl
  have F13 := fun_mk (st := s_is_integer) l13 c13 k13
  have b13 := F13.binds (ps := ["value"]) fun _ _ _ _ _ _ us hl => match us, hl with | [_], _ => rfl
  have F14 := fun_mk (st := s_is_pair) l14 c14 k14
  have b14 := F14.binds (ps := ["value"]) fun _ _ _ _ _ _ us hl => match us, hl with | [_], _ => rfl
  have F15 := fun_mk (st := s_Lattice___contains__) l15 c15 k15
  have b15 := F15.binds (ps := ["self", "vector"]) fun _ _ _ _ _ _ us hl => match us, hl with | [_, _], _ => rfl
  have F16 := fun_mk (st := s_Lattice_within) l16 c16 k16
  have b16 := F16.binds (ps := ["self", "other"]) fun _ _ _ _ _ _ us hl => match us, hl with | [_, _], _ => rfl
  have F17 := fun_mk (st := s_l_divisor) l17 c17 k17
  have b17 := F17.binds (ps := ["_law_one", "_law_other"]) fun _ _ _ _ _ _ us hl => match us, hl with | [_, _], _ => rfl
  have F18 := fun_mk (st := s_l_sizes) l18 c18 k18
  have b18 := F18.binds (ps := ["_law_vectors_here"]) fun _ _ _ _ _ _ us hl => match us, hl with | [_], _ => rfl
  have F19 := fun_mk (st := s_l_reached) l19 c19 k19
  have b19 := F19.binds (ps := ["_law_vectors_here", "_law_pair"]) fun _ _ _ _ _ _ us hl => match us, hl with | [_, _], _ => rfl
  have F20 := fun_mk (st := s_l_within) l20 c20 k20
  have b20 := F20.binds (ps := ["_law_vectors_here", "_law_others"]) fun _ _ _ _ _ _ us hl => match us, hl with | [_, _], _ => rfl
  have F21 := fun_mk (st := s_law) l21 c21 k21
  have b21 := F21.binds (ps := ["_law_script"]) fun _ _ _ _ _ _ us hl => match us, hl with | [_], _ => rfl
  have T : Tx K mg := ⟨C0, aC0, ⟨pg0, hd0, po0, sa0⟩, PySem.W.mg_of X G aC0, ⟨fun _ _ _ _ e => .base (.ins e ⟨pg0, hd0, po0, sa0⟩ qa0 qn0 qt0 mo0), kN0, kI0, kT0⟩, na0_generators, f0, _, F0, b0, PySem.W.mg_of X G a0, k0, f1, _, F1, b1, PySem.W.mg_of X G a1, k1, f2, _, F2, b2, PySem.W.mg_of X G a2, k2, f3, _, F3, b3, PySem.W.mg_of X G a3, k3, f4, _, F4, b4, PySem.W.mg_of X G a4, k4, f5, _, F5, b5, PySem.W.mg_of X G a5, k5, f6, _, F6, b6, PySem.W.mg_of X G a6, k6, f7, _, F7, b7, ⟨mk0, a7, i7, kc0⟩, f8, _, F8, b8, PySem.W.mg_of X G a8, k8, f9, _, F9, b9, PySem.W.mg_of X G a9, k9, f10, _, F10, b10, ⟨a10, i10, k10⟩, ⟨a10, i10, ne0, mo0, mN0, mI0, mT0⟩, f11, _, F11, b11, PySem.W.mg_of X G a11, k11, f12, _, F12, b12, q12, ⟨a12, g12, t12, _, r12⟩, f13, _, F13, b13, PySem.W.mg_of X G a13, k13, f14, _, F14, b14, PySem.W.mg_of X G a14, k14, f15, _, F15, b15, ⟨a15, i15, k15⟩, f16, _, F16, b16, ⟨a16, i16, k16⟩, f17, _, F17, b17, PySem.W.mg_of X G a17, k17, f18, _, F18, b18, PySem.W.mg_of X G a18, k18, f19, _, F19, b19, PySem.W.mg_of X G a19, k19, f20, _, F20, b20, PySem.W.mg_of X G a20, k20, PySem.W.mg_none_of X G z_abs, PySem.W.mg_none_of X G z_all, PySem.W.mg_none_of X G z_bool, PySem.W.mg_none_of X G z_int, PySem.W.mg_none_of X G z_isinstance, PySem.W.mg_none_of X G z_len, PySem.W.mg_none_of X G z_list, PySem.W.mg_none_of X G z_range, PySem.W.mg_none_of X G z_repr, PySem.W.mg_none_of X G z_tuple⟩
  exact fun base _ _ => okG_law (ok_law T F21 b21) hlaw
theorem walk {l : PySem.W.OpenLaw} {q : Program} {loose : List Str} {XP : (Str → Option Value) → Heap → Prop} {YP : World → Heap → Prop} {d : DefRec} {K : Params → PySem.W.Frag} (hn : l.most = some 63) (hdf : d.params.defaults = []) (hY : ∀ (w : World) (h : Heap), YP w h → (K w.params).In h)
    (F : ∀ (w : World) (mg : Str → Option Value) (fa : Addr) (h : Heap), (K w.params).In h → h.Ns mainGlobals mg → mg d.name = some (.ref fa) → ∀ base : Heap, (K w.params).In base → base.Ns mainGlobals mg → FnG l.prog w (K w.params) mg base 6 fa (spLaw (K w.params))) :
    PySem.W.WalkO q loose XP YP l.row.toRowW d [] (fun f vs => PySem.call f vs) :=
  walk_ofG (n := 63) (k := 6) (sp := fun w => spLaw (K w.params)) hn (by decide) hdf ⟨rfl, by decide, by decide⟩ hY F fun _ _ a ns hl _ hS => ⟨a, ns, rfl, hS, hl, fun _ => rfl⟩
end LAW
open PySem PySem.W PyProof.Rows in
set_option maxRecDepth 100000 in
set_option maxHeartbeats 0 in
theorem PySem.Challenge.cw_pullplain_k44_whole_one_lattice_by_many_holds : PySem.Challenge.rw_pullplain_k44_whole_one_lattice_by_many.Holds := by
  w_on; o_law; k_head; (case hw => w_witness2)
  k_fill
  refine LAW.walk (l := PySem.Challenge.rw_pullplain_k44_whole_one_lattice_by_many) rfl rfl (fun w h Y => PySem.W.kIn_of Y) ?F
  case F =>
    intro w mg fa h KX G hmg
    refine' LAW.all_mk KX G hmg ?aC0 ?pg0 ?hd0 ?po0 ?sa0 ?mk0 ?kc0 ?mo0 ?ne0 ?mN0 ?mI0 ?mT0 ?qa0 ?qn0 ?qt0 ?kN0 ?kI0 ?kT0 ?na0_generators ?a0 ?l0 ?c0 ?k0 ?a1 ?l1 ?c1 ?k1 ?a2 ?l2 ?c2 ?k2 ?a3 ?l3 ?c3 ?k3 ?a4 ?l4 ?c4 ?k4 ?a5 ?l5 ?c5 ?k5 ?a6 ?l6 ?c6 ?k6 ?a7 ?i7 ?l7 ?c7 ?k7 ?a8 ?l8 ?c8 ?k8 ?a9 ?l9 ?c9 ?k9 ?a10 ?i10 ?l10 ?c10 ?k10 ?a11 ?l11 ?c11 ?k11 ?a12 ?g12 ?t12 ?r12 ?l12 ?c12 ?k12 ?a13 ?l13 ?c13 ?k13 ?a14 ?l14 ?c14 ?k14 ?a15 ?i15 ?l15 ?c15 ?k15 ?a16 ?i16 ?l16 ?c16 ?k16 ?a17 ?l17 ?c17 ?k17 ?a18 ?l18 ?c18 ?k18 ?a19 ?l19 ?c19 ?k19 ?a20 ?l20 ?c20 ?k20 ?a21 ?l21 ?c21 ?k21 ?z_abs ?z_all ?z_bool ?z_int ?z_isinstance ?z_len ?z_list ?z_range ?z_repr ?z_tuple LAW.law_ok
    (case aC0 => k_is)
    (case pg0 => k_is)
    (case hd0 => k_is)
    (case po0 => k_is)
    (case sa0 => k_is)
    (case mk0 => k_is)
    (case kc0 => k_is)
    (case mo0 => k_is)
    (case ne0 => k_is)
    (case mN0 => k_is)
    (case mI0 => k_is)
    (case mT0 => k_is)
    (case qa0 => k_is)
    (case qn0 => k_is)
    (case qt0 => k_is)
    (case kN0 => kit_is)
    (case kI0 => kit_is)
    (case kT0 => kit_is)
    (case na0_generators => k_is)
    (case a0 => k_is)
    (case l0 => k_is)
    (case c0 => k_is)
    (case k0 => k_is)
    (case a1 => k_is)
    (case l1 => k_is)
    (case c1 => k_is)
    (case k1 => k_is)
    (case a2 => k_is)
    (case l2 => k_is)
    (case c2 => k_is)
    (case k2 => k_is)
    (case a3 => k_is)
    (case l3 => k_is)
    (case c3 => k_is)
    (case k3 => k_is)
    (case a4 => k_is)
    (case l4 => k_is)
    (case c4 => k_is)
    (case k4 => k_is)
    (case a5 => k_is)
    (case l5 => k_is)
    (case c5 => k_is)
    (case k5 => k_is)
    (case a6 => k_is)
    (case l6 => k_is)
    (case c6 => k_is)
    (case k6 => k_is)
    (case a7 => k_is)
    (case i7 => k_is)
    (case l7 => k_is)
    (case c7 => k_is)
    (case k7 => k_is)
    (case a8 => k_is)
    (case l8 => k_is)
    (case c8 => k_is)
    (case k8 => k_is)
    (case a9 => k_is)
    (case l9 => k_is)
    (case c9 => k_is)
    (case k9 => k_is)
    (case a10 => k_is)
    (case i10 => k_is)
    (case l10 => k_is)
    (case c10 => k_is)
    (case k10 => k_is)
    (case a11 => k_is)
    (case l11 => k_is)
    (case c11 => k_is)
    (case k11 => k_is)
    (case a12 => k_is)
    (case g12 => k_is)
    (case t12 => k_is)
    (case r12 => k_is)
    (case l12 => k_is)
    (case c12 => k_is)
    (case k12 => k_is)
    (case a13 => k_is)
    (case l13 => k_is)
    (case c13 => k_is)
    (case k13 => k_is)
    (case a14 => k_is)
    (case l14 => k_is)
    (case c14 => k_is)
    (case k14 => k_is)
    (case a15 => k_is)
    (case i15 => k_is)
    (case l15 => k_is)
    (case c15 => k_is)
    (case k15 => k_is)
    (case a16 => k_is)
    (case i16 => k_is)
    (case l16 => k_is)
    (case c16 => k_is)
    (case k16 => k_is)
    (case a17 => k_is)
    (case l17 => k_is)
    (case c17 => k_is)
    (case k17 => k_is)
    (case a18 => k_is)
    (case l18 => k_is)
    (case c18 => k_is)
    (case k18 => k_is)
    (case a19 => k_is)
    (case l19 => k_is)
    (case c19 => k_is)
    (case k19 => k_is)
    (case a20 => k_is)
    (case l20 => k_is)
    (case c20 => k_is)
    (case k20 => k_is)
    (case a21 => k_is)
    (case l21 => k_is)
    (case c21 => k_is)
    (case k21 => k_is)
    (case z_abs => k_is)
    (case z_all => k_is)
    (case z_bool => k_is)
    (case z_int => k_is)
    (case z_isinstance => k_is)
    (case z_len => k_is)
    (case z_list => k_is)
    (case z_range => k_is)
    (case z_repr => k_is)
    (case z_tuple => k_is)
